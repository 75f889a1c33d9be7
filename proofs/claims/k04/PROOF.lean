import PyProof.Rows.All
import Wide.All
import OpenK.AllK
import Wide.FinOn
import PyProof.EqAt
import PyProof.EqKinds
import PyProof.TupleCall
import KE.SortData
import HandS.ForMost
import HandS.Exc
import HandS.ExcOwn
import HandS.TryOnly
import HandS.TryMany
import HandS.WordsExc
import HandS.Walk
import HandS.Zip
import HandS.TupMul
import HandS.TupAny
import HandS.StrMore
import HandS.Deep
import HandS.Style
import HandS.IsInst
import HandS.Small
import HandS.TupLen
import HandS.Conv
import KE.KDictPairs
import KE.KDictCopyH
import KE.KDictKeyed
import HandS.HotCalls
import HandS.Defaults
import HandS.Base
import HandS.Call
import HandS.Ends
import HandS.More
import HandS.Words
import HandS.Head0
import HandS.Head1
import HandS.Head2
import HandS.HeadEnd
import HandS.HeadHook1
import HandS.HeadHook2
import PySem.Challenge.RW_arcfloors_k04_whole_all_lines
set_option Elab.async false
set_option linter.all false
set_option maxRecDepth 100000
set_option maxHeartbeats 4000000
namespace AF
open PySem PySem.Spec L2
open PyProof.Rows hiding St

/-! ## 1. data, frozen and owned -/
def keyD : Key → PyData
  | .inl i => .int i
  | .inr x => .str x
def keysD (k : List Key) : PyData := .tuple (k.map keyD)

/-- a list that is never written again -/
def FzL (H : Hp) (a : Addr) (xs : List V) : Prop := ∃ o, H a = some (.frz o (.lst xs))
theorem FzL.sq {K : PySem.W.Frag} {H : Hp} {a : Addr} {xs : List V} (h : FzL H a xs) : SqL K H a xs := by
  obtain ⟨o, h⟩ := h
  exact .inl (.inr ⟨o, h⟩)
/-- the script -/
def ScL (K : PySem.W.Frag) (H : Hp) (a : Addr) (xs : List V) : Prop :=
  FzL H a xs ∨ ∃ (o : Obj) (its : Array Value) (n : Nat), K.lookup a = some o ∧ o.cls = .type "list" ∧ o.dict = none ∧ o.data = .seq its n ∧ its.size ≤ sizeLine ∧ Vals xs its.toList
theorem ScL.sq {K : PySem.W.Frag} {H : Hp} {a : Addr} {xs : List V} (h : ScL K H a xs) : SqL K H a xs := by
  rcases h with h | h
  · exact h.sq
  · exact .inr h

mutual
inductive Fp (H : Hp) : V → PyData → Prop
  | non : Fp H .non .none
  | bl (b : Bool) : Fp H (.bl b) (.bool b)
  | int (i : Int) : Fp H (.int i) (.int i)
  | str (x : Str) : Fp H (.str x) (.str x)
  | lst {a : Addr} {xs : List V} {ds : List PyData} : FzL H a xs → FpAll H xs ds → Fp H (.ref a) (.list ds)
  | tup {a : Addr} {xs : List V} {ds : List PyData} : H a = some (.tup xs) → FpAll H xs ds → Fp H (.ref a) (.tuple ds)
  | dic {a : Addr} {o : Obj} {kvs : List (List Key × V)} {ds : List (PyData × PyData)} : H a = some (.frz o (.dT kvs)) → FpKv H kvs ds → Fp H (.ref a) (.dict ds)
inductive FpAll (H : Hp) : List V → List PyData → Prop
  | nil : FpAll H [] []
  | cons {v : V} {vs : List V} {d : PyData} {ds : List PyData} : Fp H v d → FpAll H vs ds → FpAll H (v :: vs) (d :: ds)
inductive FpKv (H : Hp) : List (List Key × V) → List (PyData × PyData) → Prop
  | nil : FpKv H [] []
  | cons {k : List Key} {v : V} {kvs : List (List Key × V)} {d : PyData} {ds : List (PyData × PyData)} : Fp H v d → FpKv H kvs ds → FpKv H ((k, v) :: kvs) ((keysD k, d) :: ds)
end

/-- tuples and frozen things stay -/
structure Ext (H H' : Hp) : Prop where
  tup : ∀ a xs, H a = some (.tup xs) → H' a = some (.tup xs)
  frz : ∀ a o u, H a = some (.frz o u) → H' a = some (.frz o u)
theorem Ext.refl (H : Hp) : Ext H H := ⟨fun _ _ h => h, fun _ _ _ h => h⟩
theorem Ext.trans {H H1 H2 : Hp} (a : Ext H H1) (b : Ext H1 H2) : Ext H H2 := ⟨fun _ _ h => b.tup _ _ (a.tup _ _ h), fun _ _ _ h => b.frz _ _ _ (a.frz _ _ _ h)⟩
theorem Ext.new {H : Hp} {a : Addr} {o : HO} (h : H a = none) : Ext H (upd H a o) :=
  ⟨fun b xs e => by rw [upd_ne (ne_of_none e h)]; exact e, fun b o u e => by rw [upd_ne (ne_of_none e h)]; exact e⟩
/-- all that is tracked stays -/
abbrev Sam (H H' : Hp) : Prop := ∀ b o, H b = some o → H' b = some o
theorem Sam.ext {H H' : Hp} (s : Sam H H') : Ext H H' := ⟨fun a xs h => s a _ h, fun a o u h => s a _ h⟩
theorem Sam.refl (H : Hp) : Sam H H := fun _ _ h => h
theorem Sam.trans {H H1 H2 : Hp} (a : Sam H H1) (b : Sam H1 H2) : Sam H H2 := fun _ _ h => b _ _ (a _ _ h)
theorem Sam.new {H : Hp} {a : Addr} {o : HO} (h : H a = none) : Sam H (upd H a o) := fun b u e => by rw [upd_ne (ne_of_none e h)]; exact e
theorem FzL.mono {H H' : Hp} {a : Addr} {xs : List V} (e : Ext H H') (h : FzL H a xs) : FzL H' a xs := by
  obtain ⟨o, h⟩ := h
  exact ⟨o, e.frz _ _ _ h⟩
theorem ScL.mono {K : PySem.W.Frag} {H H' : Hp} {a : Addr} {xs : List V} (e : Ext H H') (h : ScL K H a xs) : ScL K H' a xs := by
  rcases h with h | h
  · exact .inl (h.mono e)
  · exact .inr h
mutual
theorem Fp.mono {H H' : Hp} (e : Ext H H') : ∀ {v : V} (d : PyData), Fp H v d → Fp H' v d
  | _, .none, h => by cases h; exact .non
  | _, .bool b, h => by cases h; exact .bl b
  | _, .int i, h => by cases h; exact .int i
  | _, .str x, h => by cases h; exact .str x
  | _, .list ds, h => by
    cases h with
    | lst a b => exact .lst (a.mono e) (FpAll.mono e ds b)
  | _, .tuple ds, h => by
    cases h with
    | tup a b => exact .tup (e.tup _ _ a) (FpAll.mono e ds b)
  | _, .dict ds, h => by
    cases h with
    | dic a b => exact .dic (e.frz _ _ _ a) (FpKv.mono e ds b)
theorem FpAll.mono {H H' : Hp} (e : Ext H H') : ∀ {vs : List V} (ds : List PyData), FpAll H vs ds → FpAll H' vs ds
  | _, [], h => by cases h; exact .nil
  | _, d :: ds, h => by
    cases h with
    | cons a b => exact .cons (Fp.mono e d a) (FpAll.mono e ds b)
theorem FpKv.mono {H H' : Hp} (e : Ext H H') : ∀ {vs : List (List Key × V)} (ds : List (PyData × PyData)), FpKv H vs ds → FpKv H' vs ds
  | _, [], h => by cases h; exact .nil
  | _, (k, d) :: ds, h => by
    cases h with
    | cons a b => exact .cons (Fp.mono e d a) (FpKv.mono e ds b)
end
theorem FpAll.length {H : Hp} : ∀ {vs : List V} {ds : List PyData}, FpAll H vs ds → vs.length = ds.length
  | _, [], h => by cases h; rfl
  | _, d :: ds, h => by
    cases h with
    | cons a b => simp [FpAll.length b]
theorem FpAll.get {H : Hp} : ∀ {vs : List V} {ds : List PyData} {i : Nat} {d : PyData}, FpAll H vs ds → ds[i]? = some d → ∃ v, vs[i]? = some v ∧ Fp H v d
  | _, [], i, d, h, e => by simp at e
  | _, d0 :: ds, 0, d, h, e => by
    cases h with
    | cons a b => simp at e; subst e; exact ⟨_, rfl, a⟩
  | _, d0 :: ds, i + 1, d, h, e => by
    cases h with
    | cons a b =>
      obtain ⟨v, h1, h2⟩ := FpAll.get (i := i) (d := d) b (by simpa using e)
      exact ⟨v, by simpa using h1, h2⟩
theorem FpAll.getV {H : Hp} {vs : List V} {ds : List PyData} {i : Nat} {v : V} (h : FpAll H vs ds) (e : vs[i]? = some v) : ∃ d, ds[i]? = some d ∧ Fp H v d := by
  have hl := h.length
  have hi : i < vs.length := (List.getElem?_eq_some_iff.mp e).1
  have hi2 : i < ds.length := by omega
  obtain ⟨w, h1, h2⟩ := h.get (i := i) (d := ds[i]) (by simp [hi2])
  rw [e] at h1
  obtain rfl := Option.some.inj h1
  exact ⟨_, by simp [hi2], h2⟩
theorem FpAll.append {H : Hp} : ∀ {vs ws : List V} {ds es : List PyData}, FpAll H vs ds → FpAll H ws es → FpAll H (vs ++ ws) (ds ++ es)
  | _, _, [], es, h, g => by cases h; exact g
  | _, _, d :: ds, es, h, g => by
    cases h with
    | cons a b => exact .cons a (FpAll.append b g)
theorem FpAll.take {H : Hp} : ∀ {vs : List V} {ds : List PyData} (n : Nat), FpAll H vs ds → FpAll H (vs.take n) (ds.take n)
  | _, _, 0, _ => .nil
  | _, [], n + 1, h => by cases h; exact .nil
  | _, d :: ds, n + 1, h => by
    cases h with
    | cons a b => exact .cons a (FpAll.take n b)
theorem FpAll.drop {H : Hp} : ∀ {vs : List V} {ds : List PyData} (n : Nat), FpAll H vs ds → FpAll H (vs.drop n) (ds.drop n)
  | _, _, 0, h => h
  | _, [], n + 1, h => by cases h; exact .nil
  | _, d :: ds, n + 1, h => by
    cases h with
    | cons a b => exact FpAll.drop n b
theorem FpAll.set {H : Hp} {v : V} {d : PyData} (f : Fp H v d) : ∀ {vs : List V} {ds : List PyData} (n : Nat), FpAll H vs ds → FpAll H (vs.set n v) (ds.set n d)
  | _, [], _, h => by cases h; exact .nil
  | _, d :: ds, 0, h => by
    cases h with
    | cons a b => exact .cons f b
  | _, d :: ds, n + 1, h => by
    cases h with
    | cons a b => exact .cons a (FpAll.set f n b)
theorem FpAll.reverse {H : Hp} : ∀ {vs : List V} {ds : List PyData}, FpAll H vs ds → FpAll H vs.reverse ds.reverse
  | _, [], h => by cases h; exact .nil
  | _, d :: ds, h => by
    cases h with
    | cons a b =>
      rw [List.reverse_cons, List.reverse_cons]
      exact FpAll.append (FpAll.reverse b) (.cons a .nil)
theorem FpKv.length {H : Hp} : ∀ {vs : List (List Key × V)} {ds : List (PyData × PyData)}, FpKv H vs ds → vs.length = ds.length
  | _, [], h => by cases h; rfl
  | _, d :: ds, h => by
    cases h with
    | cons a b => simp [FpKv.length b]

/-- no dict in it, depth at most n, its texts' codes within range -/
def sh : Nat → PyData → Bool
  | _, .none => true
  | _, .bool _ => true
  | _, .int _ => true
  | _, .str x => PyData.strOk x
  | n + 1, .list xs => xs.all (sh n)
  | n + 1, .tuple xs => xs.all (sh n)
  | _, _ => false
theorem sh_lay : ∀ (n : Nat) (d : PyData), sh n d = true → PyData.canLay0 d = true ∧ PyData.depth d ≤ n
  | n, .none, _ => ⟨by simp [PyData.canLay0], by simp [PyData.depth]⟩
  | n, .bool _, _ => ⟨by simp [PyData.canLay0], by simp [PyData.depth]⟩
  | n, .int _, _ => ⟨by simp [PyData.canLay0], by simp [PyData.depth]⟩
  | n, .str x, h => ⟨by cases n <;> simpa [PyData.canLay0, sh] using h, by simp [PyData.depth]⟩
  | n, .dict _, h => by cases n <;> simp [sh] at h
  | 0, .list _, h => by simp [sh] at h
  | 0, .tuple _, h => by simp [sh] at h
  | n + 1, .list xs, h => by
    have h' : xs.all (sh n) = true := by simpa [sh] using h
    have go : ∀ ys : List PyData, ys.all (sh n) = true → PyData.canLayAll0 ys = true ∧ PyData.depthAll ys ≤ n := by
      intro ys
      induction ys with
      | nil => intro _; exact ⟨by simp [PyData.canLayAll0], by simp [PyData.depthAll]⟩
      | cons y ys ih =>
        intro hy
        rw [List.all_cons, Bool.and_eq_true] at hy
        obtain ⟨a1, a2⟩ := sh_lay n y hy.1
        obtain ⟨b1, b2⟩ := ih hy.2
        refine ⟨by rw [PyData.canLayAll0, a1, b1]; rfl, ?_⟩
        rw [PyData.depthAll]; omega
    obtain ⟨b1, b2⟩ := go xs h'
    refine ⟨by rw [PyData.canLay0]; exact b1, ?_⟩
    rw [PyData.depth]; omega
  | n + 1, .tuple xs, h => by
    have h' : xs.all (sh n) = true := by simpa [sh] using h
    have go : ∀ ys : List PyData, ys.all (sh n) = true → PyData.canLayAll0 ys = true ∧ PyData.depthAll ys ≤ n := by
      intro ys
      induction ys with
      | nil => intro _; exact ⟨by simp [PyData.canLayAll0], by simp [PyData.depthAll]⟩
      | cons y ys ih =>
        intro hy
        rw [List.all_cons, Bool.and_eq_true] at hy
        obtain ⟨a1, a2⟩ := sh_lay n y hy.1
        obtain ⟨b1, b2⟩ := ih hy.2
        refine ⟨by rw [PyData.canLayAll0, a1, b1]; rfl, ?_⟩
        rw [PyData.depthAll]; omega
    obtain ⟨b1, b2⟩ := go xs h'
    refine ⟨by rw [PyData.canLay0]; exact b1, ?_⟩
    rw [PyData.depth]; omega
theorem sh_shaped {d : PyData} (h : sh 8 d = true) : SeqAt.shaped d = true := by
  obtain ⟨a, b⟩ := sh_lay 8 d h
  unfold SeqAt.shaped
  rw [a]
  simp
  omega
mutual
/-- data without dicts reads -/
theorem Fp.dp {K : PySem.W.Frag} {H : Hp} : ∀ {v : V} (d : PyData), Fp H v d → PyData.canLay0 d = true → Dp K H v d
  | _, .none, h, _ => by cases h; exact .non
  | _, .bool b, h, _ => by cases h; exact .bl b
  | _, .int i, h, _ => by cases h; exact .int i
  | _, .str x, h, _ => by cases h; exact .str x
  | _, .list ds, h, c => by
    cases h with
    | lst a b => exact .lst a.sq (FpAll.dp ds b (by rw [PyData.canLay0] at c; exact c))
  | _, .tuple ds, h, c => by
    cases h with
    | tup a b => exact .tup (.of a) (FpAll.dp ds b (by rw [PyData.canLay0] at c; exact c))
  | _, .dict ds, h, c => by rw [PyData.canLay0] at c; cases c
theorem FpAll.dp {K : PySem.W.Frag} {H : Hp} : ∀ {vs : List V} (ds : List PyData), FpAll H vs ds → PyData.canLayAll0 ds = true → DpAll K H vs ds
  | _, [], h, _ => by cases h; exact .nil
  | _, d :: ds, h, c => by
    rw [PyData.canLayAll0, Bool.and_eq_true] at c
    cases h with
    | cons a b => exact .cons (Fp.dp d a c.1) (FpAll.dp ds b c.2)
end

/-! ## 2. freezing -/
section
variable {X : Cx} {pins : List (Addr × Obj)} {σ : St} {H : Hp} {s : Shared}
def frzable : HO → Bool
  | .lst _ => true
  | .dT _ => true
  | _ => false
theorem frzInv {a : Addr} {u : HO} (I : Inv X pins σ H s) (h : H a = some u) (hu : frzable u = true) : ∃ o, Inv X pins σ (upd H a (.frz o u)) s := by
  obtain ⟨o, ho⟩ := objOk_get (I.hok a u h)
  refine ⟨o, ?_⟩
  have nt : ∀ b xs, H b = some (.tup xs) → b ≠ a := fun b xs e z => by subst z; rw [h] at e; cases e; cases hu
  have nf : ∀ b o u, H b = some (.frz o u) → b ≠ a := fun b o u' e z => by subst z; rw [h] at e; cases e; cases hu
  have nb : ∀ b ps, H b = some (.tbl ps) → b ≠ a := fun b ps e z => by subst z; rw [h] at e; cases e; cases hu
  have no : ∀ b y, H b = some (.own y) → b ≠ a := fun b y e z => by subst z; rw [h] at e; cases e; cases hu
  have un : Un X.fs [] H (upd H a (.frz o u)) s.heap s.heap := by
    refine ⟨fun b ob q _ _ _ => q, fun b ob q _ _ _ => ⟨ob.slots, q⟩, fun b ob q n _ => ?_, fun b ob q _ => ⟨ob, q⟩, fun b xs e => ?_, fun b ob u' e => ?_, fun b ps e => ⟨#[], ?_⟩⟩
    · rw [upd_ne (fun z => by subst z; rw [h] at n; cases n)]; exact n
    · rw [upd_ne (nt b xs e)]; exact e
    · rw [upd_ne (nf b ob u' e)]; exact e
    · rw [upd_ne (nb b ps e), e]; simp
  have hok : HOk X.prog X.w (upd H a (.frz o u)) s.heap := fun b w e => by
    by_cases hb : b = a
    · subst hb
      rw [upd_same] at e
      obtain rfl := Option.some.inj e
      refine ⟨ho, (I.hok b u h).stay (fun c w _ q => q) (fun c q => ?_) fun c xs q => ?_⟩
      · rw [upd_ne (no c b q)]; exact q
      · rw [upd_ne (nt c xs q)]; exact q
    · rw [upd_ne hb] at e
      refine (I.hok b w e).stay (fun c w _ q => q) (fun c q => ?_) fun c xs q => ?_
      · rw [upd_ne (no c b q)]; exact q
      · rw [upd_ne (nt c xs q)]; exact q
  exact I.un (t' := s.toks) un hok
theorem ext_freeze {a : Addr} {u : HO} {o : Obj} (h : H a = some u) (hu : frzable u = true) : Ext H (upd H a (.frz o u)) :=
  ⟨fun b xs e => by rw [upd_ne (fun z => by subst z; rw [h] at e; cases e; cases hu)]; exact e,
   fun b ob w e => by rw [upd_ne (fun z => by subst z; rw [h] at e; cases e; cases hu)]; exact e⟩
end
end AF

set_option maxHeartbeats 4000000
namespace AF
open PySem PySem.Spec L2
open PyProof.Rows hiding St
/-! ## 3. states -/
/-- what an owned slot holds -/
inductive M where
  | l (xs : List PyData)
  | d (kvs : List (PyData × PyData))
  | ll (xs : List (List PyData))
  | dl (kvs : List (PyData × List PyData))
/-- a slot: unknown, data, owned, owned by the caller, the script -/
inductive S where
  | un
  | im (d : PyData)
  | mu (m : M)
  | rf (m : M)
  | sc (ns : List Int)
abbrev En := List S
inductive R (α : Type) where
  | ok (a : α) (ρ : En)
  | ex (c : Str) (f : Option PyData) (ρ : En)
  | st
def R.bind {α β : Type} (r : R α) (k : α → En → R β) : R β :=
  match r with
  | .ok a ρ => k a ρ
  | .ex c f ρ => .ex c f ρ
  | .st => .st
@[simp] theorem R.bind_ok {α β : Type} (a : α) (ρ : En) (k : α → En → R β) : (R.ok a ρ).bind k = k a ρ := rfl
@[simp] theorem R.bind_ex {α β : Type} (c : Str) (f : Option PyData) (ρ : En) (k : α → En → R β) : (R.ex c f ρ).bind k = .ex c f ρ := rfl
@[simp] theorem R.bind_st {α β : Type} (k : α → En → R β) : (R.st).bind k = .st := rfl
/-- an answer that may be wanting -/
def R.of {α : Type} (o : Option α) (ρ : En) : R α :=
  match o with
  | some a => .ok a ρ
  | none => .st
@[simp] theorem R.of_some {α : Type} (a : α) (ρ : En) : R.of (some a) ρ = .ok a ρ := rfl
@[simp] theorem R.of_none {α : Type} (ρ : En) : R.of (none : Option α) ρ = .st := rfl

/-! ## 4. what the heap bears -/
/-- the owned thing m at v, in the cells fp -/
def Ow (H : Hp) (v : V) (fp : List Addr) : M → Prop
  | .l xs => ∃ a vs, v = .ref a ∧ fp = [a] ∧ H a = some (.lst vs) ∧ FpAll H vs xs
  | .d kvs => ∃ a ks, v = .ref a ∧ fp = [a] ∧ H a = some (.dT ks) ∧ FpKv H ks kvs
  | .ll xs => ∃ (a : Addr) (as : List Addr), v = .ref a ∧ fp = a :: as ∧ (a :: as).Nodup ∧ H a = some (.lst (as.map V.ref)) ∧ as.length = xs.length ∧
      ∀ (i : Nat) (b : Addr) (ds : List PyData), as[i]? = some b → xs[i]? = some ds → ∃ vs, H b = some (.lst vs) ∧ FpAll H vs ds
  | .dl kvs => ∃ (a : Addr) (as : List Addr) (ks : List (List Key)), v = .ref a ∧ fp = a :: as ∧ (a :: as).Nodup ∧ H a = some (.dT (ks.zip (as.map V.ref))) ∧ as.length = kvs.length ∧ ks.length = kvs.length ∧
      ∀ (i : Nat) (b : Addr) (k : List Key) (kd : PyData × List PyData), as[i]? = some b → ks[i]? = some k → kvs[i]? = some kd → kd.1 = keysD k ∧ ∃ vs, H b = some (.lst vs) ∧ FpAll H vs kd.2
/-- the cells of an owned thing are lists and dicts -/
theorem Ow.cell {H : Hp} {v : V} {fp : List Addr} {m : M} (h : Ow H v fp m) : ∀ a ∈ fp, ∃ u, H a = some u ∧ frzable u = true := by
  cases m with
  | l xs =>
    obtain ⟨a, vs, rfl, rfl, e, _⟩ := h
    intro b hb
    obtain rfl : b = a := by simpa using hb
    exact ⟨_, e, rfl⟩
  | d kvs =>
    obtain ⟨a, vs, rfl, rfl, e, _⟩ := h
    intro b hb
    obtain rfl : b = a := by simpa using hb
    exact ⟨_, e, rfl⟩
  | ll xs =>
    obtain ⟨a, as, rfl, rfl, _, e, hl, hq⟩ := h
    intro b hb
    rcases List.mem_cons.mp hb with rfl | hb
    · exact ⟨_, e, rfl⟩
    · obtain ⟨i, hi, eb⟩ := List.mem_iff_getElem.mp hb
      obtain ⟨vs, e2, _⟩ := hq i b (xs[i]'(by omega)) (by simp [hi, eb]) (by simp [show i < xs.length by omega])
      exact ⟨_, e2, rfl⟩
  | dl kvs =>
    obtain ⟨a, as, ks, rfl, rfl, _, e, hl, hk, hq⟩ := h
    intro b hb
    rcases List.mem_cons.mp hb with rfl | hb
    · exact ⟨_, e, rfl⟩
    · obtain ⟨i, hi, eb⟩ := List.mem_iff_getElem.mp hb
      obtain ⟨_, vs, e2, _⟩ := hq i b (ks[i]'(by omega)) (kvs[i]'(by omega)) (by simp [hi, eb]) (by simp [show i < ks.length by omega]) (by simp [show i < kvs.length by omega])
      exact ⟨_, e2, rfl⟩
theorem Ow.nodup {H : Hp} {v : V} {fp : List Addr} {m : M} (h : Ow H v fp m) : fp.Nodup := by
  cases m with
  | l xs => obtain ⟨a, vs, rfl, rfl, e, _⟩ := h; simp
  | d kvs => obtain ⟨a, vs, rfl, rfl, e, _⟩ := h; simp
  | ll xs => obtain ⟨a, as, rfl, rfl, n, _⟩ := h; exact n
  | dl kvs => obtain ⟨a, as, ks, rfl, rfl, n, _⟩ := h; exact n
theorem Ow.mono {H H' : Hp} {v : V} {fp : List Addr} {m : M} (e : Ext H H') (k : ∀ a ∈ fp, ∀ u, H a = some u → H' a = some u) (h : Ow H v fp m) : Ow H' v fp m := by
  cases m with
  | l xs => obtain ⟨a, vs, rfl, rfl, q, f⟩ := h; exact ⟨a, vs, rfl, rfl, k a (by simp) _ q, f.mono e⟩
  | d kvs => obtain ⟨a, vs, rfl, rfl, q, f⟩ := h; exact ⟨a, vs, rfl, rfl, k a (by simp) _ q, f.mono e⟩
  | ll xs =>
    obtain ⟨a, as, rfl, rfl, n, q, hl, hq⟩ := h
    refine ⟨a, as, rfl, rfl, n, k a (by simp) _ q, hl, fun i b ds e1 e2 => ?_⟩
    obtain ⟨vs, q2, f⟩ := hq i b ds e1 e2
    exact ⟨vs, k b (List.mem_cons_of_mem _ (List.mem_of_getElem? e1)) _ q2, f.mono e⟩
  | dl kvs =>
    obtain ⟨a, as, ks, rfl, rfl, n, q, hl, hk, hq⟩ := h
    refine ⟨a, as, ks, rfl, rfl, n, k a (by simp) _ q, hl, hk, fun i b ke kd e1 e2 e3 => ?_⟩
    obtain ⟨g, vs, q2, f⟩ := hq i b ke kd e1 e2 e3
    exact ⟨g, vs, k b (List.mem_cons_of_mem _ (List.mem_of_getElem? e1)) _ q2, f.mono e⟩

/-- one slot; b: what it held at the entry -/
def SlotOk (K : PySem.W.Frag) (H : Hp) (b : Option V) : S → Option V → List Addr → Prop
  | .un, _, fp => fp = []
  | .im d, o, fp => fp = [] ∧ ∃ v, o = some v ∧ Fp H v d
  | .mu m, o, fp => ∃ v, o = some v ∧ Ow H v fp m
  | .rf m, o, fp => ∃ v, o = some v ∧ b = some v ∧ Ow H v fp m
  | .sc ns, o, fp => fp = [] ∧ ∃ a, o = some (.ref a) ∧ ScL K H a (ns.map V.int)
def at_ (σ : L2.St) (i : Nat) : Option V := (σ[i]?).join
structure Rep (K : PySem.W.Frag) (σb : L2.St) (H : Hp) (ρ : En) (σ : L2.St) (fp : Nat → List Addr) : Prop where
  len : ρ.length = σ.length
  ok : ∀ i s, ρ[i]? = some s → SlotOk K H (at_ σb i) s (at_ σ i) (fp i)
  out : ∀ i, ρ.length ≤ i → fp i = []
  dis : ∀ i j a, a ∈ fp i → a ∈ fp j → i = j
  lb : σ.length = σb.length
theorem SlotOk.mono {K : PySem.W.Frag} {H H' : Hp} {b o : Option V} {s : S} {fp : List Addr} (e : Ext H H') (k : ∀ a ∈ fp, ∀ u, H a = some u → H' a = some u) (h : SlotOk K H b s o fp) : SlotOk K H' b s o fp := by
  cases s with
  | un => exact h
  | im d => obtain ⟨h1, v, h2, h3⟩ := h; exact ⟨h1, v, h2, h3.mono e⟩
  | mu m => obtain ⟨v, h2, h3⟩ := h; exact ⟨v, h2, h3.mono e k⟩
  | rf m => obtain ⟨v, h2, h4, h3⟩ := h; exact ⟨v, h2, h4, h3.mono e k⟩
  | sc ns => obtain ⟨h1, a, h2, h3⟩ := h; exact ⟨h1, a, h2, h3.mono e⟩
theorem SlotOk.cell {K : PySem.W.Frag} {H : Hp} {b o : Option V} {s : S} {fp : List Addr} (h : SlotOk K H b s o fp) : ∀ a ∈ fp, ∃ u, H a = some u ∧ frzable u = true := by
  cases s with
  | un => intro a ha; rw [show fp = [] from h] at ha; cases ha
  | im d => intro a ha; rw [h.1] at ha; cases ha
  | mu m => obtain ⟨v, h2, h3⟩ := h; exact h3.cell
  | rf m => obtain ⟨v, h2, h4, h3⟩ := h; exact h3.cell
  | sc ns => intro a ha; rw [h.1] at ha; cases ha
section
variable {K : PySem.W.Frag} {σb : L2.St} {H H' : Hp} {ρ ρ' : En} {σ : L2.St} {fp fp' : Nat → List Addr}
theorem Rep.cell (r : Rep K σb H ρ σ fp) {i : Nat} {a : Addr} (h : a ∈ fp i) : ∃ u, H a = some u ∧ frzable u = true := by
  by_cases hi : i < ρ.length
  · exact (r.ok i ρ[i] (by simp [hi])).cell a h
  · rw [r.out i (by omega)] at h; cases h
/-- the cells of the slots and what is frozen stay -/
theorem Rep.mono (r : Rep K σb H ρ σ fp) (e : Ext H H') (k : ∀ i, ∀ a ∈ fp i, ∀ u, H a = some u → H' a = some u) : Rep K σb H' ρ σ fp :=
  ⟨r.len, fun i s h => (r.ok i s h).mono e (k i), r.out, r.dis, r.lb⟩
theorem Rep.same (r : Rep K σb H ρ σ fp) (s : Sam H H') : Rep K σb H' ρ σ fp := r.mono s.ext fun _ a _ u h => s a u h

/-- from one state to a later one -/
structure Stp (H : Hp) (fp : Nat → List Addr) (H' : Hp) (fp' : Nat → List Addr) : Prop where
  ext : Ext H H'
  keep : ∀ a o, H a = some o → (∀ i, a ∉ fp i) → H' a = some o
  new : ∀ i a, a ∈ fp' i → (∃ j, a ∈ fp j) ∨ H a = none
theorem Stp.refl : Stp H fp H fp := ⟨Ext.refl H, fun _ _ h _ => h, fun i a h => .inl ⟨i, h⟩⟩
theorem Stp.trans {H1 H2 : Hp} {fp1 fp2 : Nat → List Addr} (s : Stp H fp H1 fp1) (t : Stp H1 fp1 H2 fp2) : Stp H fp H2 fp2 := by
  refine ⟨s.ext.trans t.ext, fun a o h n => ?_, fun i a h => ?_⟩
  · refine t.keep a o (s.keep a o h n) fun i hi => ?_
    rcases s.new i a hi with ⟨j, hj⟩ | e
    · exact n j hj
    · rw [e] at h; cases h
  · rcases t.new i a h with ⟨j, hj⟩ | e
    · exact s.new j a hj
    · cases q : H a with
      | none => exact .inr rfl
      | some o =>
        by_cases hf : ∃ j, a ∈ fp j
        · exact .inl hf
        · have := s.keep a o q (fun j hj => hf ⟨j, hj⟩)
          rw [e] at this; cases this
theorem Stp.same (s : Sam H H') : Stp H fp H' fp := ⟨s.ext, fun a o h _ => s a o h, fun i a h => .inl ⟨i, h⟩⟩
end

/-! ## 5. expressions: what is wanted of a reading -/
/-- an exception of the module's class c -/
def ExcIs (mg : Str → Option Value) (c : Str) (f : Option PyData) (cls : Value) (dd : Option Addr) (H : Hp) : Prop :=
  ∃ C, mg c = some (.ref C) ∧ cls = .ref C ∧ match f with
    | none => dd = none
    | some d => ∃ a n v, dd = some a ∧ H a = some (.xd [(n, v)]) ∧ Fp H v d
/-- what a context gives -/
structure Ct where
  K : PySem.W.Frag
  mg : Str → Option Value
  W : WX
  σb : L2.St
/-- what is wanted of an answer: the data, the value -/
structure Vp (α β : Type) where
  p : L2.St → Hp → (Nat → List Addr) → (Nat → List Addr) → Hp → α → β → Prop
  step : ∀ {σ H fp H1 fp1 fp' H' a b}, Stp H fp H1 fp1 → p σ H1 fp1 fp' H' a b → p σ H fp fp' H' a b
def vE : Vp PyData V := ⟨fun _ _ _ _ H' d v => Fp H' v d, fun _ h => h⟩
def vA : Vp (List PyData) (List V) := ⟨fun _ _ _ _ H' d v => FpAll H' v d, fun _ h => h⟩
/-- p is new, or was owned -/
def NewAt (H : Hp) (fp fp' : Nat → List Addr) (p : Addr) : Prop := ((∃ j, p ∈ fp j) ∨ H p = none) ∧ ∀ i, p ∉ fp' i
theorem NewAt.step {H H1 : Hp} {fp fp1 fp' : Nat → List Addr} {p : Addr} (s : Stp H fp H1 fp1) (h : NewAt H1 fp1 fp' p) : NewAt H fp fp' p := by
  refine ⟨?_, h.2⟩
  rcases h.1 with ⟨j, hj⟩ | e
  · exact s.new j p hj
  · cases q : H p with
    | none => exact .inr rfl
    | some o =>
      by_cases hf : ∃ j, p ∈ fp j
      · exact .inl hf
      · have := s.keep p o q (fun j hj => hf ⟨j, hj⟩)
        rw [e] at this; cases this
/-- data, or a new thing that is nobody's -/
def Fw (H : Hp) (fp fp' : Nat → List Addr) (H' : Hp) (v : V) : PyData → Prop
  | .list ds => ∃ p vs, v = .ref p ∧ NewAt H fp fp' p ∧ H' p = some (.lst vs) ∧ FpAll H' vs ds
  | .dict kvs => ∃ p ks, v = .ref p ∧ NewAt H fp fp' p ∧ H' p = some (.dT ks) ∧ FpKv H' ks kvs
  | d => Fp H' v d
def vF : Vp PyData V := ⟨fun _ H fp fp' H' d v => Fw H fp fp' H' v d, by
  intro _ H fp H1 fp1 fp' H' d v s h
  cases d with
  | list ds =>
    obtain ⟨p, vs, a, b, c⟩ := h
    exact ⟨p, vs, a, b.step s, c⟩
  | dict ds =>
    obtain ⟨p, vs, a, b, c⟩ := h
    exact ⟨p, vs, a, b.step s, c⟩
  | _ => exact h⟩
section
variable {α β γ δ : Type}
def tRc (V : Vp α β) (c : Ct) (fp : Nat → List Addr) (r : R α) (σ : L2.St) (H : Hp) (Q : β → Hp → Prop) : Prop :=
  match r with
  | .ok d ρ' => ∀ v H' fp', Rep c.K c.σb H' ρ' σ fp' → V.p σ H fp fp' H' d v → Stp H fp H' fp' → Q v H'
  | .ex n f ρ' => ∀ cls dd H' fp', Rep c.K c.σb H' ρ' σ fp' → ExcIs c.mg n f cls dd H' → Stp H fp H' fp' → c.W cls dd σ H'
  | .st => False
def tR (V : Vp α β) (c : Ct) (ρ : En) (r : R α) (σ : L2.St) (H : Hp) (Q : β → Hp → Prop) : Prop := ∃ fp, Rep c.K c.σb H ρ σ fp ∧ tRc V c fp r σ H Q
abbrev tE (c : Ct) (ρ : En) (r : R PyData) : TE := tR vE c ρ r
abbrev tF (c : Ct) (ρ : En) (r : R PyData) : TE := tR vF c ρ r
theorem tRc.step {V : Vp α β} {c : Ct} {fp fp1 : Nat → List Addr} {r : R α} {σ : L2.St} {H H1 : Hp} {Q : β → Hp → Prop} (h : tRc V c fp r σ H Q) (s : Stp H fp H1 fp1) : tRc V c fp1 r σ H1 Q := by
  cases r with
  | ok d ρ' => exact fun v H' fp' a b t => h v H' fp' a (V.step s b) (s.trans t)
  | ex n f ρ' => exact fun v dd H' fp' a b t => h v dd H' fp' a b (s.trans t)
  | st => exact h
/-- a judgement: weaker readings hold too -/
structure Jd (Z : (L2.St → Hp → (β → Hp → Prop) → Prop) → Prop) : Prop where
  imp : ∀ {t t'}, Z t → (∀ σ H Q, t' σ H Q → t σ H Q) → Z t'
  no : Z (fun _ _ _ => False)
theorem PE.imp {X : Cx} {e : Expr} {t t' : TE} (h : PE X e t) (i : ∀ σ H Q, t' σ H Q → t σ H Q) : PE X e t' := ⟨fun pins s σ H Q I q => h.run pins s σ H Q I (i σ H Q q)⟩
theorem PA.imp {X : Cx} {e : List Expr} {t t' : TA} (h : PA X e t) (i : ∀ σ H Q, t' σ H Q → t σ H Q) : PA X e t' := ⟨fun ps pins s σ H Q I q => h.run ps pins s σ H Q I (i σ H Q q)⟩
theorem PT.imp {X : Cx} {e : Expr} {t t' : TT} (h : PT X e t) (i : ∀ σ H Q, t' σ H Q → t σ H Q) : PT X e t' := ⟨fun pins s σ H Q I q => h.run pins s σ H Q I (i σ H Q q)⟩
theorem PW.imp {X : Cx} {e : Expr} {t t' : TT} (h : PW X e t) (i : ∀ σ H Q, t' σ H Q → t σ H Q) : PW X e t' := ⟨fun w pins s σ H Q I q => h.run w pins s σ H Q I (i σ H Q q)⟩
theorem jE {X : Cx} {e : Expr} : Jd (PE X e) := ⟨fun h i => PE.imp h i, ⟨fun _ _ _ _ _ _ h => False.elim h⟩⟩
theorem jA {X : Cx} {e : List Expr} : Jd (PA X e) := ⟨fun h i => PA.imp h i, ⟨fun _ _ _ _ _ _ _ h => False.elim h⟩⟩
theorem jT {X : Cx} {e : Expr} : Jd (fun t => PT X e (tB t)) := ⟨fun h i => PT.imp h (fun _ _ _ q => i _ _ _ q), ⟨fun _ _ _ _ _ _ h => False.elim h⟩⟩
theorem jB {X : Cx} {e : Expr} : Jd (PT X e) := ⟨fun h i => PT.imp h (fun _ _ _ q => i _ _ _ q), ⟨fun _ _ _ _ _ _ h => False.elim h⟩⟩
theorem jW {X : Cx} {e : Expr} : Jd (fun t => PW X e (tB t)) := ⟨fun h i => PW.imp h (fun _ _ _ q => i _ _ _ q), ⟨fun _ _ _ _ _ _ _ h => False.elim h⟩⟩
section
variable {c : Ct} {ρ : En} {σ : L2.St} {H : Hp}
/-- an exception: whatever is wanted behind -/
theorem tR.ex {V : Vp α β} {V' : Vp γ δ} {n : Str} {f : Option PyData} {ρ1 : En} {Q : β → Hp → Prop} {R : δ → Hp → Prop} (h : tR V c ρ (.ex n f ρ1) σ H Q) : tR V' c ρ (.ex n f ρ1) σ H R := h
/-- an answer: go on from there -/
theorem tR.go {V : Vp α β} {V' : Vp γ δ} {d : γ} {ρ1 : En} {r : R α} {Q : β → Hp → Prop} {R : δ → Hp → Prop} (h : tR V c ρ r σ H Q)
    (n : ∀ fp v H1 fp1, V'.p σ H fp fp1 H1 d v → Ext H H1 → tR V c ρ1 r σ H1 Q → R v H1) : tR V' c ρ (.ok d ρ1) σ H R := by
  obtain ⟨fp, a, b⟩ := h
  exact ⟨fp, a, fun v H1 fp1 r1 f1 s1 => n fp v H1 fp1 f1 s1.ext ⟨fp1, r1, b.step s1⟩⟩
/-- the end: the answer is here, in a heap that holds all that was tracked -/
theorem tR.fin {d : PyData} {v : V} {H1 : Hp} {Q : VK} (h : tE c ρ (.ok d ρ) σ H Q) (s : Sam H H1) (f : Fp H1 v d) : Q v H1 := by
  obtain ⟨fp, a, b⟩ := h
  exact b v H1 fp (a.same s) f (Stp.same s)
theorem tR.finB {d : α} {v : β} {V : Vp α β} {Q : β → Hp → Prop} (h : tR V c ρ (.ok d ρ) σ H Q) (f : ∀ fp fp', V.p σ H fp fp' H d v) : Q v H := by
  obtain ⟨fp, a, b⟩ := h
  exact b v H fp a (f _ _) Stp.refl
theorem tR.stF {V : Vp α β} {Q : β → Hp → Prop} (h : tR V c ρ .st σ H Q) : False := by
  obtain ⟨fp, a, b⟩ := h
  exact b
end
/-- one part -/
theorem Jd.b1 {Z : (L2.St → Hp → (β → Hp → Prop) → Prop) → Prop} (j : Jd Z) {Z1 : (L2.St → Hp → (δ → Hp → Prop) → Prop) → Prop} {c : Ct} {V1 : Vp γ δ} {V : Vp α β} {ra : R γ} {ρ : En} {k : γ → En → R α}
    {G : L2.St → δ → Hp → (β → Hp → Prop) → Prop} (ha : Z1 (tR V1 c ρ ra)) (ru : ∀ ta, Z1 ta → Z (fun σ H Q => ta σ H fun v H1 => G σ v H1 Q))
    (fin : ∀ x ρ1, ra = .ok x ρ1 → ∀ σ v H0 fp fp1 H Q, V1.p σ H0 fp fp1 H x v → tR V c ρ1 (k x ρ1) σ H Q → G σ v H Q) : Z (tR V c ρ (ra.bind k)) := by
  cases ra with
  | st => exact j.imp j.no fun σ H Q h => h.stF
  | ex n f ρ1 => exact j.imp (ru _ ha) fun σ H Q h => tR.ex h
  | ok x ρ1 => exact j.imp (ru _ ha) fun σ H Q h => tR.go h fun fp v H1 fp1 a e h1 => fin x ρ1 rfl σ v H fp fp1 H1 Q a h1
end
theorem PE.st {X : Cx} {e : Expr} {c : Ct} {ρ : En} {V : Vp PyData L2.V} : PE X e (tR V c ρ .st) := jE.imp jE.no fun _ _ _ h => h.stF
section
variable {α β : Type} {X : Cx} {c : Ct} {a b d : Expr}
theorem Jd.e1 {Z : (L2.St → Hp → (β → Hp → Prop) → Prop) → Prop} (j : Jd Z) {V : Vp α β} {fa : En → R PyData} {k : PyData → En → R α} {G : L2.St → L2.V → Hp → (β → Hp → Prop) → Prop}
    (ha : ∀ ρ, PE X a (tE c ρ (fa ρ))) (ru : ∀ ta, PE X a ta → Z (fun σ H Q => ta σ H fun v H1 => G σ v H1 Q))
    (fin : ∀ x ρ σ v H Q, Fp H v x → tR V c ρ (k x ρ) σ H Q → G σ v H Q) (ρ : En) : Z (tR V c ρ ((fa ρ).bind k)) :=
  j.b1 (ha ρ) ru fun x ρ1 _ σ v _ _ _ H Q f h => fin x ρ1 σ v H Q f h
theorem Jd.e2 {Z : (L2.St → Hp → (β → Hp → Prop) → Prop) → Prop} (j : Jd Z) {V : Vp α β} {fa fb : En → R PyData} {k : PyData → PyData → En → R α} {G : L2.St → L2.V → L2.V → Hp → (β → Hp → Prop) → Prop}
    (ha : ∀ ρ, PE X a (tE c ρ (fa ρ))) (hb : ∀ ρ, PE X b (tE c ρ (fb ρ))) (ru : ∀ ta tb, PE X a ta → PE X b tb → Z (fun σ H Q => ta σ H fun v H1 => tb σ H1 fun w H2 => G σ v w H2 Q))
    (fin : ∀ x y ρ σ v w H Q, Fp H v x → Fp H w y → tR V c ρ (k x y ρ) σ H Q → G σ v w H Q) (ρ : En) : Z (tR V c ρ ((fa ρ).bind fun x ρ1 => (fb ρ1).bind fun y ρ2 => k x y ρ2)) := by
  generalize e : fa ρ = ra
  have ha := ha ρ
  rw [e] at ha
  cases ra with
  | st => exact j.imp j.no fun σ H Q h => h.stF
  | ex n f ρ1 => exact j.imp (ru _ _ ha jE.no) fun σ H Q h => tR.ex h
  | ok x ρ1 =>
    refine j.imp (ru _ _ ha (hb ρ1)) fun σ H Q h => tR.go h fun fp v H1 fp1 fv _ h1 => ?_
    rw [R.bind_ok] at h1
    generalize fb ρ1 = rb at h1 ⊢
    cases rb with
    | st => exact h1.stF.elim
    | ex n f ρ2 => exact tR.ex h1
    | ok y ρ2 => exact tR.go h1 fun _ w H2 _ fw e2 h2 => fin x y ρ2 σ v w H2 Q (Fp.mono e2 _ fv) fw h2
theorem Jd.e3 {Z : (L2.St → Hp → (β → Hp → Prop) → Prop) → Prop} (j : Jd Z) {V : Vp α β} {fa fb fd : En → R PyData} {k : PyData → PyData → PyData → En → R α} {G : L2.St → L2.V → L2.V → L2.V → Hp → (β → Hp → Prop) → Prop}
    (ha : ∀ ρ, PE X a (tE c ρ (fa ρ))) (hb : ∀ ρ, PE X b (tE c ρ (fb ρ))) (hd : ∀ ρ, PE X d (tE c ρ (fd ρ)))
    (ru : ∀ ta tb td, PE X a ta → PE X b tb → PE X d td → Z (fun σ H Q => ta σ H fun v H1 => tb σ H1 fun w H2 => td σ H2 fun u H3 => G σ v w u H3 Q))
    (fin : ∀ x y z ρ σ v w u H Q, Fp H v x → Fp H w y → Fp H u z → tR V c ρ (k x y z ρ) σ H Q → G σ v w u H Q) (ρ : En) :
    Z (tR V c ρ ((fa ρ).bind fun x ρ1 => (fb ρ1).bind fun y ρ2 => (fd ρ2).bind fun z ρ3 => k x y z ρ3)) := by
  generalize e : fa ρ = ra
  have ha := ha ρ
  rw [e] at ha
  cases ra with
  | st => exact j.imp j.no fun σ H Q h => h.stF
  | ex n f ρ1 => exact j.imp (ru _ _ _ ha jE.no jE.no) fun σ H Q h => tR.ex h
  | ok x ρ1 =>
    have hb := hb ρ1
    rw [R.bind_ok]
    generalize fb ρ1 = rb at hb ⊢
    cases rb with
    | st => exact j.imp j.no fun σ H Q h => h.stF
    | ex n f ρ2 => exact j.imp (ru _ _ _ ha hb jE.no) fun σ H Q h => tR.go h fun fp v H1 fp1 fv _ h1 => tR.ex h1
    | ok y ρ2 =>
      refine j.imp (ru _ _ _ ha hb (hd ρ2)) fun σ H Q h => tR.go h fun fp v H1 fp1 fv _ h1 => tR.go h1 fun _ w H2 _ fw e2 h2 => ?_
      rw [R.bind_ok] at h2
      generalize fd ρ2 = rb at h2 ⊢
      cases rb with
      | st => exact h2.stF.elim
      | ex n f ρ3 => exact tR.ex h2
      | ok z ρ3 => exact tR.go h2 fun _ u H3 _ fu e3 h3 => fin x y z ρ3 σ v w u H3 Q (Fp.mono e3 _ (Fp.mono e2 _ fv)) (Fp.mono e3 _ fw) fu h3
end
/-- a fresh answer is frozen, and is data -/
theorem toE {X : Cx} {e : Expr} {c : Ct} {ρ : En} {r : R PyData} (h : PE X e (tF c ρ r)) : PE X e (tE c ρ r) := by
  refine ⟨fun pins s σ H Q I q => ?_⟩
  obtain ⟨fp, hr, hq⟩ := q
  cases r with
  | st => exact hq.elim
  | ex n f ρ1 => exact h.run pins s σ H Q I ⟨fp, hr, hq⟩
  | ok d ρ1 =>
    have z := h.run pins s σ H (fun v H1 => ∃ fp1, Rep c.K c.σb H1 ρ1 σ fp1 ∧ Fw H fp fp1 H1 v d ∧ Stp H fp H1 fp1) I ⟨fp, hr, fun v H1 fp1 a b t => ⟨fp1, a, b, t⟩⟩
    refine wpAny_mono z (fun u s1 hu => ?_) (fun _ _ x => x)
    obtain ⟨v, H1, I1, rv, fp1, a, b, t⟩ := hu
    have done : Fp H1 v d → EP X pins σ Q u s1 := fun f => ⟨v, H1, I1, rv, hq v H1 fp1 a f t⟩
    have frz : ∀ p w, v = .ref p → NewAt H fp fp1 p → H1 p = some w → frzable w = true → (∀ o, Ext H1 (upd H1 p (.frz o w)) → Fp (upd H1 p (.frz o w)) v d) → EP X pins σ Q u s1 := by
      intro p w _ nw hp hw f
      obtain ⟨o, I2⟩ := frzInv I1 hp hw
      have ex := ext_freeze (o := o) hp hw
      have keep : ∀ i, ∀ b ∈ fp1 i, ∀ u, H1 b = some u → upd H1 p (.frz o w) b = some u := fun i b hb u hu => by
        rw [upd_ne (fun z => nw.2 i (by rw [← z]; exact hb))]; exact hu
      refine ⟨v, _, I2, rv, hq v _ fp1 (a.mono ex keep) (f o ex) ⟨t.ext.trans ex, fun b o' hb n => ?_, t.new⟩⟩
      have z1 := t.keep b o' hb n
      refine (upd_ne (fun z => ?_)).trans z1
      subst z
      rcases nw.1 with ⟨j, hj⟩ | e
      · exact n j hj
      · rw [e] at hb; cases hb
    cases d with
    | list ds =>
      obtain ⟨p, vs, rfl, nw, hp, f⟩ := b
      exact frz p _ rfl nw hp rfl fun o ex => .lst ⟨o, upd_same⟩ (FpAll.mono ex _ f)
    | dict ds =>
      obtain ⟨p, vs, rfl, nw, hp, f⟩ := b
      exact frz p _ rfl nw hp rfl fun o ex => .dic upd_same (FpKv.mono ex _ f)
    | none => exact done b
    | bool _ => exact done b
    | int _ => exact done b
    | str _ => exact done b
    | tuple _ => exact done b
end AF

set_option maxHeartbeats 4000000
namespace AF
open PySem PySem.Spec L2
open PyProof.Rows hiding St
/-! ## 6. data: what the operations give -/
def lim : Nat := 1000000
def small (i : Int) : Bool := decide (-(2 ^ 64) < i) && decide (i < 2 ^ 64)
def binD : Operator → PyData → PyData → Option PyData
  | .Add, .int i, .int j => some (.int (i + j))
  | .Add, .str x, .str y => if x.length + y.length ≤ lim then some (.str (x ++ y)) else none
  | .Add, .list x, .list y => if x.length + y.length ≤ lim then some (.list (x ++ y)) else none
  | .Add, .tuple x, .tuple y => if x.length + y.length ≤ lim then some (.tuple (x ++ y)) else none
  | .Sub, .int i, .int j => some (.int (i - j))
  | .Mult, .int i, .int j => if small i || small j then some (.int (i * j)) else none
  | .Mult, .str x, .int k => if 0 ≤ k ∧ k ≤ 1000 ∧ x.length ≤ 1000 then some (.str (Txt.mul x k)) else none
  | .Mult, .list x, .int k => if 0 ≤ k ∧ k ≤ 1000 ∧ x.length ≤ 1000 then some (.list (List.replicate k.toNat x).flatten) else none
  | .Mult, .tuple x, .int k => if 2 ≤ k ∧ k ≤ 1000 ∧ x.length ≤ 1000 ∧ !x.isEmpty then some (.tuple (List.replicate k.toNat x).flatten) else none
  | .FloorDiv, .int i, .int j => if 0 < j ∧ j < 1073741824 then some (.int (i / j)) else none
  | .Mod, .int i, .int j => if 0 < j then some (.int (i % j)) else none
  | .Pow, .int i, .int j => if 0 ≤ j ∧ j ≤ 1000000 ∧ i.natAbs < 2 ^ 64 then some (.int (i ^ j.toNat)) else none
  | .LShift, .int i, .int j => if 0 ≤ j ∧ j ≤ 1000000 ∧ i.natAbs < 2 ^ 64 then some (.int (i * 2 ^ j.toNat)) else none
  | .RShift, .int i, .int j => if 0 ≤ j then some (.int (i / 2 ^ j.toNat)) else none
  | .BitAnd, .int i, .int j => some (.int (Builtin.bitAnd i j))
  | _, _, _ => none
/-- a key of a dict: a tuple of ints and texts -/
def keyOf? : PyData → Option (List Key)
  | .tuple xs => xs.mapM fun
    | .int i => some (.inl i)
    | .str x => some (.inr x)
    | _ => none
  | _ => none
def lookD (kvs : List (PyData × PyData)) (k : PyData) : Option PyData := (kvs.find? fun p => PyData.eqv p.1 k).map (·.2)
def putD (kvs : List (PyData × PyData)) (k v : PyData) : List (PyData × PyData) :=
  if kvs.any (fun p => PyData.eqv p.1 k) then kvs.map (fun p => if PyData.eqv p.1 k then (p.1, v) else p) else kvs ++ [(k, v)]
def isKey (d : PyData) : Bool := (keyOf? d).isSome
def inD (x : PyData) : PyData → Option Bool
  | .list ys => if sh 7 x && ys.all (sh 7) then some (ys.any fun y => PyData.eqv y x) else none
  | .tuple ys => if sh 7 x && ys.all (sh 7) then some (ys.any fun y => PyData.eqv y x) else none
  | .dict kvs => if isKey x then some ((lookD kvs x).isSome) else none
  | .str y => match x with
    | .str z => if z.cps.size = 1 then some (decide (z.cps.getD 0 0 ∈ y.cps.toList)) else none
    | _ => none
  | _ => none
def ltOk (a b : PyData) : Bool :=
  match a, b with
  | .tuple _, .tuple _ => sh 8 a && sh 8 b && PySem.W.alike a b
  | _, _ => false
def cmpD : CmpOp → PyData → PyData → Option Bool
  | .Eq, a, b => if sh 8 a && sh 8 b then some (PyData.eqv a b) else none
  | .NotEq, a, b => if sh 8 a && sh 8 b then some (!PyData.eqv a b) else none
  | .Lt, .int i, .int j => some (decide (i < j))
  | .LtE, .int i, .int j => some (decide (i ≤ j))
  | .Gt, .int i, .int j => some (decide (j < i))
  | .GtE, .int i, .int j => some (decide (j ≤ i))
  | .Lt, a, b => if ltOk a b then some (PySem.W.dataLt a b) else none
  | .In, a, b => inD a b
  | .NotIn, a, b => (inD a b).map (!·)
  | .Is, a, .none => some (match a with | .none => true | _ => false)
  | .IsNot, a, .none => some (match a with | .none => false | _ => true)
  | .Is, .bool a, .bool b => some (a == b)
  | .IsNot, .bool a, .bool b => some (!(a == b))
  | _, _, _ => none
inductive Ty where
  | int | bool | str | list | tuple
  deriving DecidableEq
def Ty.nm : Ty → String
  | .int => "int"
  | .bool => "bool"
  | .str => "str"
  | .list => "list"
  | .tuple => "tuple"
/-- is it of the class? (a dict is not asked) -/
def isD : Ty → PyData → Option Bool
  | _, .dict _ => none
  | .int, .int _ => some true
  | .int, .bool _ => some true
  | .bool, .bool _ => some true
  | .str, .str _ => some true
  | .list, .list _ => some true
  | .tuple, .tuple _ => some true
  | _, _ => some false
def itemD : PyData → PyData → Option PyData
  | .list xs, .int i => atI xs i
  | .tuple xs, .int i => atI xs i
  | .str x, .int i => if x.length ≤ lim then (atI x.cps.toList i).map fun c => .str ⟨#[c]⟩ else none
  | .dict kvs, k => if isKey k then lookD kvs k else none
  | _, _ => none
/-- a part, by the bounds of a slice -/
def cutD {α : Type} (xs : List α) (lo hi : Option Int) : List α := (xs.drop (HT.sIx xs.length 0 lo)).take (HT.sIx xs.length xs.length hi - HT.sIx xs.length 0 lo)
def sliceD (lo hi : Option Int) : PyData → Option PyData
  | .list xs => some (.list (cutD xs lo hi))
  | .tuple xs => some (.tuple (cutD xs lo hi))
  | .str x => if x.length ≤ lim then some (.str (cutS x lo hi)) else none
  | _ => none
def revD : PyData → Option PyData
  | .list xs => some (.list xs.reverse)
  | _ => none
def intsD : List PyData → Option (List Int)
  | [] => some []
  | .int i :: r => (intsD r).map (i :: ·)
  | _ => none
def boolsD : List PyData → Option (List Bool)
  | [] => some []
  | .bool i :: r => (boolsD r).map (i :: ·)
  | _ => none
def strsD : List PyData → Option (List Str)
  | [] => some []
  | .str i :: r => (strsD r).map (i :: ·)
  | _ => none
def pairsD : List PyData → Option (List (PyData × PyData))
  | [] => some []
  | .tuple [k, v] :: r => (pairsD r).map ((k, v) :: ·)
  | _ => none
/-- may be sorted: all alike, ints or tuples that are not empty -/
def sortOk (xs : List PyData) : Bool :=
  xs.all (sh 7) && xs.all (fun x => xs.all (PySem.W.alike x)) && (xs.all (fun | .tuple (_ :: _) => true | _ => false) || xs.all (fun | .int _ => true | _ => false)) && decide (xs.length ≤ lim)
def leD (a b : PyData) : Bool := !PySem.W.dataLt b a
def sortD (xs : List PyData) : List PyData := xs.mergeSort leD
/-- each once, where it first stands -/
def onceD : List PyData → List PyData → List PyData
  | acc, [] => acc
  | acc, x :: r => if acc.any (fun y => PyData.eqv y x) then onceD acc r else onceD (acc ++ [x]) r
def minD : List PyData → PyData → PyData
  | [], m => m
  | x :: r, m => minD r (if PySem.W.dataLt x m then x else m)
def maxD : List PyData → PyData → PyData
  | [], m => m
  | x :: r, m => maxD r (if PySem.W.dataLt m x then x else m)
inductive Bi where
  | len | list | tuple | sorted | min | max | sum | all | abs | dict | sset | lset
  deriving DecidableEq
def dictOf (ps : List (PyData × PyData)) : List (PyData × PyData) := ps.foldl (fun acc p => putD acc p.1 p.2) []
def lenD : PyData → Option PyData
  | .str x => if x.length ≤ lim then some (.int x.length) else none
  | .list x => some (.int x.length)
  | .tuple x => some (.int x.length)
  | _ => none
def listD : PyData → Option PyData
  | .list x => some (.list x)
  | .tuple x => some (.list x)
  | .dict x => some (.list (x.map (·.1)))
  | _ => none
def tupleD : PyData → Option PyData
  | .list x => some (.tuple x)
  | .tuple x => some (.tuple x)
  | _ => none
def sortedD : PyData → Option PyData
  | .list x => if sortOk x then some (.list (sortD x)) else none
  | _ => none
def minL : List Int → Option Int
  | [] => none
  | n :: r => some (r.foldl (fun a b => if b < a then b else a) n)
def maxL : List Int → Option Int
  | [] => none
  | n :: r => some (r.foldl (fun a b => if a < b then b else a) n)
def minLD : PyData → Option PyData
  | .list x => (intsD x).bind fun ns => (minL ns).map .int
  | _ => none
def maxLD : PyData → Option PyData
  | .list x => (intsD x).bind fun ns => (maxL ns).map .int
  | _ => none
def sumD : PyData → Option PyData
  | .list x => (intsD x).map fun ns => .int ns.sum
  | _ => none
def allD : PyData → Option PyData
  | .list x => (boolsD x).map fun bs => .bool (bs.all id)
  | _ => none
def absD : PyData → Option PyData
  | .int i => some (.int (if i < 0 then -i else i))
  | _ => none
def dictD : PyData → Option PyData
  | .list x => (pairsD x).bind fun ps => if ps.all (fun p => isKey p.1) && decide (ps.length ≤ lim) then some (.dict (dictOf ps)) else none
  | _ => none
def biD : Bi → PyData → Option PyData
  | .len => lenD
  | .list => listD
  | .tuple => tupleD
  | .sorted => sortedD
  | .min => minLD
  | .max => maxLD
  | .sum => sumD
  | .all => allD
  | .abs => absD
  | .dict => dictD
  | .sset => fun _ => none
  | .lset => fun _ => none
def mmD (mx : Bool) (a b : PyData) : Option PyData :=
  match a, b with
  | .int i, .int j => some (.int (if mx then (if j > i then j else i) else (if j < i then j else i)))
  | _, _ => none
inductive Me where
  | join | strip | split | count | index | get
  deriving DecidableEq
def joinD (a b : PyData) : Option PyData :=
  match a, b with
  | .str s, .list xs => (strsD xs).bind fun ys => if (ys.map (·.length)).sum + ys.length * s.length ≤ lim then some (.str (Txt.join s ys)) else none
  | .str s, .tuple xs => (strsD xs).bind fun ys => if (ys.map (·.length)).sum + ys.length * s.length ≤ lim then some (.str (Txt.join s ys)) else none
  | _, _ => none
def stripD (a b : PyData) : Option PyData :=
  match a, b with
  | .str a, .str b => if a.length ≤ lim then some (.str (Txt.stripChars a b)) else none
  | _, _ => none
def splitD (a b : PyData) : Option PyData :=
  match a, b with
  | .str a, .str b => if b.length = 1 ∧ a.length ≤ lim then some (.list ((Txt.split a b).map .str)) else none
  | _, _ => none
def countD (a y : PyData) : Option PyData :=
  match a with
  | .list xs => if sh 7 y && xs.all (sh 7) then some (.int ((xs.countP fun x => PyData.eqv x y : Nat) : Int)) else none
  | _ => none
def indexD (a y : PyData) : Option PyData :=
  match a with
  | .list xs => if sh 7 y && xs.all (sh 7) && xs.any (fun x => PyData.eqv x y) then some (.int ((xs.findIdx fun x => PyData.eqv x y : Nat) : Int)) else none
  | _ => none
def getD1 (a k : PyData) : Option PyData :=
  match a with
  | .dict kvs => if isKey k then some ((lookD kvs k).getD .none) else none
  | _ => none
def isDict : PyData → Bool
  | .dict _ => true
  | _ => false
/-- whose method it is -/
def meT : Me → PyData → Bool
  | .join, .str _ => true
  | .strip, .str _ => true
  | .split, .str _ => true
  | .count, .list _ => true
  | .index, .list _ => true
  | .get, .dict _ => true
  | _, _ => false
def meD : Me → PyData → PyData → Option PyData
  | .join => joinD
  | .strip => stripD
  | .split => splitD
  | .count => countD
  | .index => indexD
  | .get => getD1
def get2D (o k d : PyData) : Option PyData :=
  match o with
  | .dict kvs => if isKey k then some ((lookD kvs k).getD d) else none
  | _ => none

/-! ## 7. the small language -/
mutual
inductive Tg where
  | n (i : Nat)
  | t (ts : Tgs)
inductive Tgs where
  | nil
  | cons (t : Tg) (ts : Tgs)
end
mutual
inductive E where
  | v (i : Nat)
  | k (d : PyData)
  | g (x : Str) (d : PyData)
  | gix (x : Str) (d : List (List Int)) (a b : E)
  | gin (x : Str) (d : List Str) (neg : Bool) (a : E)
  | bin (op : Operator) (a b : E)
  | neg (a : E)
  | cmp (op : CmpOp) (a b : E)
  | chn (op op2 : CmpOp) (a b c : E)
  | and (a : E) (es : Es)
  | or (a : E) (es : Es)
  | not (a : E)
  | ite (c a b : E)
  | tup (es : Es)
  | lst (es : Es)
  | ix (a b : E)
  | slT (a lo : E)
  | slH (a hi : E)
  | slB (a lo hi : E)
  | rev (a : E)
  | bi (f : Bi) (a : E)
  | mm (mx : Bool) (a b : E)
  | isi (a : E) (t : Ty)
  | me (m : Me) (a b : E)
  | get2 (a b c : E)
  | call (id : Nat) (as : As)
  | sel (ids : List Nat) (i : E) (as : As)
  | lc (e : E) (t : Tg) (it : It) (cs : Es) (own : List Nat)
  | dic0
  | dic1 (a b : E)
  | lenM (i : Nat)
  | ixM (i : Nat) (b : E)
  | inM (neg : Bool) (a : E) (i : Nat)
  | nilM (neg : Bool) (i : Nat)
  | getM (i : Nat) (a b : E)
  | popM (i : Nat)
  | lenS (i : Nat)
  | ixS (i : Nat) (b : E)
  | nilS (i : Nat)
  | any
inductive Es where
  | nil
  | cons (e : E) (es : Es)
inductive As where
  | nil
  | e (e : E) (as : As)
  | r (i : Nat) (as : As)
  | s (i : Nat) (as : As)
inductive It where
  | ex (e : E)
  | rng1 (e : E)
  | rng2 (a b : E)
  | enm (e : E)
  | zip (a b : E)
end
/-- a target of several: a name, or an item of what is owned -/
inductive MT where
  | n (i : Nat)
  | s (i : Nat) (k : E)
mutual
inductive St where
  | as (own : Bool) (i : Nat) (e : E)
  | unp (t : Tg) (e : E)
  | par (ps : Ps)
  | app (i : Nat) (e : E)
  | ext (i : Nat) (e : E)
  | set (i : Nat) (a e : E)
  | upd (i : Nat) (e : E)
  | ex (e : E)
  | ret (e : E)
  | brk
  | cnt
  | ite (c : E) (a b : Ss)
  | for_ (t : Tg) (it : It) (b : Ss) (fg : List Nat)
  | whl (n : Nat) (c : E) (b : Ss) (fg : List Nat)
  | rse (c : Str) (txt : Bool) (e : E)
  | frz (i : Nat)
  | fgt (is : List Nat)
  | asL (i : Nat)
  | appL (i : Nat) (e : E)
  | set2 (i a b : Nat) (e : E)
  | mset (ts : List MT) (es : Es)
  | any
inductive Ss where
  | nil
  | cons (s : St) (ss : Ss)
inductive Ps where
  | nil
  | cons (own : Bool) (i : Nat) (e : E) (ps : Ps)
end
inductive Fl where
  | nx | brk | cnt | rt (d : PyData)

/-! ## 8. its meaning -/
mutual
def Tg.slots : Tg → List Nat
  | Tg.n i => [i]
  | Tg.t ts => Tgs.slots ts
def Tgs.slots : Tgs → List Nat
  | Tgs.nil => []
  | Tgs.cons t ts => t.slots ++ ts.slots
end
def setS (ρ : En) (i : Nat) (s : S) : Option En :=
  match ρ[i]? with
  | some (.rf _) => none
  | some _ => some (ρ.set i s)
  | none => none
mutual
def bindT : Tg → PyData → En → Option En
  | Tg.n i, d, ρ => setS ρ i (.im d)
  | Tg.t ts, PyData.tuple ds, ρ => bindTs ts ds ρ
  | Tg.t _, _, _ => none
def bindTs : Tgs → List PyData → En → Option En
  | .nil, [], ρ => some ρ
  | .cons t ts, d :: ds, ρ => (bindT t d ρ).bind (bindTs ts ds)
  | _, _, _ => none
end
def getI (ρ : En) (i : Nat) : Option PyData :=
  match ρ[i]? with
  | some (.im d) => some d
  | _ => none
/-- an owned dict -/
def getD (ρ : En) (i : Nat) : Option (List (PyData × PyData)) :=
  match ρ[i]? with
  | some (.mu (.d kvs)) => some kvs
  | some (.rf (.d kvs)) => some kvs
  | _ => none
/-- an owned list -/
def getL (ρ : En) (i : Nat) : Option (List PyData) :=
  match ρ[i]? with
  | some (.mu (.l xs)) => some xs
  | some (.rf (.l xs)) => some xs
  | _ => none
def getS (ρ : En) (i : Nat) : Option (List Int) :=
  match ρ[i]? with
  | some (.sc ns) => some ns
  | _ => none
def getM (ρ : En) (i : Nat) : Option M :=
  match ρ[i]? with
  | some (.mu m) => some m
  | some (.rf m) => some m
  | _ => none
/-- the slot i holds another owned thing -/
def putM (ρ : En) (i : Nat) (m : M) : Option En :=
  match ρ[i]? with
  | some (.mu _) => some (ρ.set i (.mu m))
  | some (.rf _) => some (ρ.set i (.rf m))
  | _ => none
/-- an owned thing as data -/
def M.toD : M → PyData
  | .l xs => .list xs
  | .d kvs => .dict kvs
  | .ll xs => .list (xs.map .list)
  | .dl kvs => .dict (kvs.map fun p => (p.1, .list p.2))
/-- owned, from fresh data -/
def ownD : PyData → Option M
  | .list xs => some (.l xs)
  | .dict kvs => some (.d kvs)
  | _ => none
def forget : List Nat → En → En
  | [], ρ => ρ
  | i :: r, ρ => forget r (ρ.set i .un)
def isOwn : S → Bool
  | .mu _ => true
  | .rf _ => true
  | .sc _ => true
  | _ => false
/-- the slots own as in the first -/
def restore (own : List Nat) (ρ0 ρ : En) : En := own.foldl (fun ρ i => match ρ0[i]? with
  | some s => ρ.set i s
  | none => ρ) ρ
def cleanAt (ρ : En) (own : List Nat) : Bool := own.all fun i => match ρ[i]? with
  | some s => !isOwn s
  | none => false
/-- only where the slot is so -/
def R.gd {α β : Type} (o : Option α) (r : R β) : R β := match o with
  | some _ => r
  | none => .st
/-- is it in what is owned? -/
def inM (x : PyData) : M → Option Bool
  | .l xs => inD x (.list xs)
  | .d kvs => inD x (.dict kvs)
  | _ => none
def asBool : PyData → Option Bool
  | .bool b => some b
  | _ => none
def rangeD (lo : Int) (n : Nat) : List PyData := (List.range n).map fun i => .int (lo + (i : Nat))
def itemsD : PyData → Option (List PyData)
  | .list xs => some xs
  | .tuple xs => some xs
  | .str x => if x.length ≤ lim then some (x.cps.toList.map fun c => .str ⟨#[c]⟩) else none
  | _ => none
def enumD : Nat → List PyData → List PyData
  | _, [] => []
  | n, x :: r => .tuple [.int (n : Nat), x] :: enumD (n + 1) r
def zipD (xs ys : List PyData) : List PyData := (xs.zip ys).map fun p => .tuple [p.1, p.2]
/-- the turns of a comprehension: f gives the item, if it is kept -/
def lcLoop (f : PyData → En → R (Option PyData)) (w : En → En) : List PyData → List PyData → En → R (List PyData)
  | [], acc, ρ => .ok acc ρ
  | x :: xs, acc, ρ => (f x ρ).bind fun o ρ1 => lcLoop f w xs (match o with
    | some y => acc ++ [y]
    | none => acc) (w ρ1)
def forLoop (f : PyData → En → R Fl) (w : En → En) : List PyData → En → R Fl
  | [], ρ => .ok .nx ρ
  | x :: xs, ρ => match f x ρ with
    | .ok .nx ρ1 => forLoop f w xs (w ρ1)
    | .ok .cnt ρ1 => forLoop f w xs (w ρ1)
    | .ok .brk ρ1 => .ok .nx (w ρ1)
    | .ok (.rt d) ρ1 => .ok (.rt d) ρ1
    | .ex c g ρ1 => .ex c g ρ1
    | .st => .st
def whlLoop (c : En → R Bool) (f : En → R Fl) (w : En → En) : Nat → En → R Fl
  | 0, _ => .st
  | n + 1, ρ => (c ρ).bind fun b ρ0 => if b then (match f ρ0 with
    | .ok .nx ρ1 => whlLoop c f w n (w ρ1)
    | .ok .cnt ρ1 => whlLoop c f w n (w ρ1)
    | .ok .brk ρ1 => .ok .nx (w ρ1)
    | .ok (.rt d) ρ1 => .ok (.rt d) ρ1
    | .ex c g ρ1 => .ex c g ρ1
    | .st => .st) else .ok .nx (w ρ0)
/-- no exception leaves -/
def R.calm {α : Type} : R α → R α
  | .ok a ρ => .ok a ρ
  | .ex _ _ _ => .st
  | .st => .st
inductive Ar where
  | d (d : PyData)
  | r (i : Nat)
  | s (i : Nat)
/-- the arguments as slots; each owned one once -/
def argsS (ρ : En) : List Ar → Option (List S)
  | [] => some []
  | .d d :: r => (argsS ρ r).map (.im d :: ·)
  | .r i :: r => (getM ρ i).bind fun m => (argsS ρ r).map (.rf m :: ·)
  | .s i :: r => (getS ρ i).bind fun m => (argsS ρ r).map (.sc m :: ·)
/-- what the callee leaves of the owned ones -/
def giveBack : List Ar → List S → En → Option En
  | [], _, ρ => some ρ
  | .d _ :: r, _ :: ss, ρ => giveBack r ss ρ
  | .s _ :: r, _ :: ss, ρ => giveBack r ss ρ
  | .r i :: r, .rf m :: ss, ρ => (putM ρ i m).bind (giveBack r ss)
  | _, _, _ => none
def refsA : List Ar → List Nat
  | [] => []
  | .d _ :: r => refsA r
  | .s _ :: r => refsA r
  | .r i :: r => i :: refsA r
/-- an item of an item of a table of ints -/
def rowD (d : List (List Int)) (x : PyData) : Option (List Int) := match x with
  | .int i => atI d i
  | _ => none
def colD (r : List Int) (y : PyData) : Option PyData := match y with
  | .int j => (atI r j).map .int
  | _ => none
def tsD (d : List Str) (neg : Bool) (x : PyData) : Option PyData := match x with
  | .str s => if sh 7 (.str s) && d.all (fun y => sh 7 (.str y)) then some (.bool (if neg then !(d.any fun y => PyData.eqv (.str y) (.str s)) else d.any fun y => PyData.eqv (.str y) (.str s))) else none
  | _ => none
/-- the hash of a tuple of ints; where a dict takes another one's keys in, they are to be unlike -/
def hashI (ns : List Int) : Int := reduceHash (Builtin.Tuple.tupleHashOf (ns.map hashInt))
def keyInts? : PyData → Option (List Int)
  | .tuple xs => intsD xs
  | _ => none
def hashOk (more : List (PyData × PyData)) : Bool := match more.mapM (fun p => keyInts? p.1) with
  | some nss => decide (nss.map hashI).Nodup
  | none => false
abbrev CallF := Nat → List S → R PyData
def callR (cf : CallF) (id : Nat) (as : List Ar) (ρ : En) : R PyData :=
  if (refsA as).Nodup then
    match argsS ρ as with
    | none => .st
    | some ss => match cf id ss with
      | .ok d ρo => R.of ((giveBack as ρo ρ).map fun ρ' => ρ') ρ |>.bind fun ρ' _ => .ok d ρ'
      | .ex c f ρo => R.of (giveBack as ρo ρ) ρ |>.bind fun ρ' _ => .ex c f ρ'
      | .st => .st
  else .st
mutual
def ev (cf : CallF) : E → En → R PyData
  | .v i, ρ => R.of (getI ρ i) ρ
  | .k d, ρ => .ok d ρ
  | .g _ d, ρ => .ok d ρ
  | .gix _ d a b, ρ => (ev cf a ρ).bind fun x ρ1 => (R.of (rowD d x) ρ1).bind fun r ρ2 => (ev cf b ρ2).bind fun y ρ3 => R.of (colD r y) ρ3
  | .gin _ d neg a, ρ => (ev cf a ρ).bind fun x ρ1 => R.of (tsD d neg x) ρ1
  | .bin op a b, ρ => (ev cf a ρ).bind fun x ρ1 => (ev cf b ρ1).bind fun y ρ2 => R.of (binD op x y) ρ2
  | .neg a, ρ => (ev cf a ρ).bind fun x ρ1 => match x with
    | .int i => .ok (.int (-i)) ρ1
    | _ => .st
  | .cmp op a b, ρ => (ev cf a ρ).bind fun x ρ1 => (ev cf b ρ1).bind fun y ρ2 => R.of ((cmpD op x y).map .bool) ρ2
  | .chn op op2 a b c, ρ => (ev cf a ρ).bind fun x ρ1 => (ev cf b ρ1).bind fun y ρ2 => (R.of (cmpD op x y) ρ2).bind fun t ρ3 =>
      if t then (ev cf c ρ3).bind fun z ρ4 => R.of ((cmpD op2 y z).map .bool) ρ4 else .ok (.bool false) ρ3
  | .and a es, ρ => (ev cf a ρ).bind fun x ρ1 => match x with
    | .bool true => evAnd cf es ρ1
    | .bool false => .ok (.bool false) ρ1
    | _ => .st
  | .or a es, ρ => (ev cf a ρ).bind fun x ρ1 => match x with
    | .bool false => evOr cf es ρ1
    | .bool true => .ok (.bool true) ρ1
    | _ => .st
  | .not a, ρ => (ev cf a ρ).bind fun x ρ1 => match x with
    | .bool b => .ok (.bool (!b)) ρ1
    | _ => .st
  | .ite c a b, ρ => (ev cf c ρ).bind fun x ρ1 => match x with
    | .bool true => ev cf a ρ1
    | .bool false => ev cf b ρ1
    | _ => .st
  | .tup es, ρ => (evs cf es ρ).bind fun xs ρ1 => .ok (.tuple xs) ρ1
  | .lst es, ρ => (evs cf es ρ).bind fun xs ρ1 => .ok (.list xs) ρ1
  | .ix a b, ρ => (ev cf a ρ).bind fun x ρ1 => (ev cf b ρ1).bind fun y ρ2 => R.of (itemD x y) ρ2
  | .slT a lo, ρ => (ev cf a ρ).bind fun x ρ1 => (ev cf lo ρ1).bind fun i ρ2 => match i with
    | .int i => R.of (sliceD (some i) none x) ρ2
    | _ => .st
  | .slH a hi, ρ => (ev cf a ρ).bind fun x ρ1 => (ev cf hi ρ1).bind fun i ρ2 => match i with
    | .int i => R.of (sliceD none (some i) x) ρ2
    | _ => .st
  | .slB a lo hi, ρ => (ev cf a ρ).bind fun x ρ1 => (ev cf lo ρ1).bind fun i ρ2 => match i with
    | .int i => (ev cf hi ρ2).bind fun j ρ3 => match j with
      | .int j => R.of (sliceD (some i) (some j) x) ρ3
      | _ => .st
    | _ => .st
  | .rev a, ρ => (ev cf a ρ).bind fun x ρ1 => R.of (revD x) ρ1
  | .bi f a, ρ => (ev cf a ρ).bind fun x ρ1 => R.of (biD f x) ρ1
  | .mm mx a b, ρ => (ev cf a ρ).bind fun x ρ1 => (ev cf b ρ1).bind fun y ρ2 => R.of (mmD mx x y) ρ2
  | .isi a t, ρ => (ev cf a ρ).bind fun x ρ1 => R.of ((isD t x).map .bool) ρ1
  | .me m a b, ρ => (ev cf a ρ).bind fun x ρ1 => if meT m x then (ev cf b ρ1).bind fun y ρ2 => R.of (meD m x y) ρ2 else .st
  | .get2 a b c, ρ => (ev cf a ρ).bind fun x ρ1 => if isDict x then (ev cf b ρ1).bind fun y ρ2 => (ev cf c ρ2).bind fun z ρ3 => R.of (get2D x y z) ρ3 else .st
  | .call id as, ρ => (evas cf as ρ).bind fun xs ρ1 => callR cf id xs ρ1
  | .sel ids i as, ρ => (ev cf i ρ).bind fun x ρ1 => match x with
    | .int j => (R.of (atI ids j) ρ1).bind fun id ρ2 => (evas cf as ρ2).bind fun xs ρ3 => callR cf id xs ρ3
    | _ => .st
  | .lc e t it cs own, ρ => (evIt cf it ρ).bind fun xs ρ1 =>
      if cleanAt ρ1 own then
        ((lcLoop (fun x ρ2 => (R.of (bindT t x ρ2) ρ2).bind fun ρ3 _ => (evAnd cf cs ρ3).bind fun b ρ4 => match b with
          | .bool true => (ev cf e ρ4).bind fun y ρ5 => .ok (some y) ρ5
          | .bool false => .ok none ρ4
          | _ => .st) (forget own) xs [] (forget own ρ1)).calm).bind fun ys ρ6 => .ok (.list ys) (restore own ρ1 ρ6)
      else .st
  | .dic0, ρ => .ok (.dict []) ρ
  | .dic1 a b, ρ => (ev cf a ρ).bind fun x ρ1 => (ev cf b ρ1).bind fun y ρ2 => if isKey x then .ok (.dict [(x, y)]) ρ2 else .st
  | .lenM i, ρ => R.of ((getM ρ i).bind fun m => match m with
    | .l xs => some (.int xs.length)
    | _ => none) ρ
  | .ixM i b, ρ => R.gd (getM ρ i) <| (ev cf b ρ).bind fun y ρ1 => R.of ((getM ρ1 i).bind fun m => match m with
    | .l xs => itemD (.list xs) y
    | .d kvs => itemD (.dict kvs) y
    | _ => none) ρ1
  | .inM neg a i, ρ => (ev cf a ρ).bind fun x ρ1 => R.of (((getM ρ1 i).bind (inM x)).map fun b => .bool (if neg then !b else b)) ρ1
  | .nilM neg i, ρ => R.of ((getM ρ i).bind fun m => match m with
    | .l xs => if xs.all (sh 7) then some (.bool (if neg then !xs.isEmpty else xs.isEmpty)) else none
    | _ => none) ρ
  | .getM i a b, ρ => R.gd (getD ρ i) <| (ev cf a ρ).bind fun x ρ1 => (ev cf b ρ1).bind fun y ρ2 => R.of ((getM ρ2 i).bind fun m => match m with
    | .d kvs => get2D (.dict kvs) x y
    | _ => none) ρ2
  | .popM i, ρ => R.gd (getL ρ i) <| (R.of ((getL ρ i).bind fun xs => xs.getLast?) ρ).bind fun x ρ1 => (R.of ((getL ρ i).bind fun xs => putM ρ i (.l xs.dropLast)) ρ1).bind fun ρ' _ => .ok x ρ'
  | .lenS i, ρ => R.of ((getS ρ i).map fun ns => .int ns.length) ρ
  | .ixS i b, ρ => R.gd (getS ρ i) <| (ev cf b ρ).bind fun y ρ1 => R.of ((getS ρ1 i).bind fun ns => itemD (.list (ns.map .int)) y) ρ1
  | .nilS i, ρ => R.of ((getS ρ i).map fun ns => .bool ns.isEmpty) ρ
  | .any, _ => .st
def evs (cf : CallF) : Es → En → R (List PyData)
  | .nil, ρ => .ok [] ρ
  | .cons e es, ρ => (ev cf e ρ).bind fun x ρ1 => (evs cf es ρ1).bind fun xs ρ2 => .ok (x :: xs) ρ2
def evAnd (cf : CallF) : Es → En → R PyData
  | .nil, ρ => .ok (.bool true) ρ
  | .cons e es, ρ => (ev cf e ρ).bind fun x ρ1 => match x with
    | .bool true => evAnd cf es ρ1
    | .bool false => .ok (.bool false) ρ1
    | _ => .st
def evOr (cf : CallF) : Es → En → R PyData
  | .nil, ρ => .ok (.bool false) ρ
  | .cons e es, ρ => (ev cf e ρ).bind fun x ρ1 => match x with
    | .bool false => evOr cf es ρ1
    | .bool true => .ok (.bool true) ρ1
    | _ => .st
def evas (cf : CallF) : As → En → R (List Ar)
  | .nil, ρ => .ok [] ρ
  | .e e as, ρ => (ev cf e ρ).bind fun x ρ1 => (evas cf as ρ1).bind fun xs ρ2 => .ok (.d x :: xs) ρ2
  | .r i as, ρ => R.gd (getM ρ i) <| (evas cf as ρ).bind fun xs ρ2 => .ok (.r i :: xs) ρ2
  | .s i as, ρ => R.gd (getS ρ i) <| (evas cf as ρ).bind fun xs ρ2 => .ok (.s i :: xs) ρ2
def evIt (cf : CallF) : It → En → R (List PyData)
  | .ex e, ρ => (ev cf e ρ).bind fun x ρ1 => R.of (itemsD x) ρ1
  | .rng1 e, ρ => (ev cf e ρ).bind fun x ρ1 => match x with
    | .int j => if j ≤ 1000000 ∧ -1000000 ≤ j then .ok (rangeD 0 j.toNat) ρ1 else .st
    | _ => .st
  | .rng2 a b, ρ => (ev cf a ρ).bind fun x ρ1 => (ev cf b ρ1).bind fun y ρ2 => match x, y with
    | .int i, .int j => if (j ≤ 1000000 ∧ -1000000 ≤ j) ∧ (i ≤ 1000000 ∧ -1000000 ≤ i) then .ok (rangeD i (j - i).toNat) ρ2 else .st
    | _, _ => .st
  | .enm e, ρ => (ev cf e ρ).bind fun x ρ1 => match x with
    | .list xs => .ok (enumD 0 xs) ρ1
    | _ => .st
  | .zip a b, ρ => (ev cf a ρ).bind fun x ρ1 => (ev cf b ρ1).bind fun y ρ2 => match x, y with
    | .list xs, .list ys => .ok (zipD xs ys) ρ2
    | .tuple xs, .tuple ys => .ok (zipD xs ys) ρ2
    | _, _ => .st
end
def evPs (cf : CallF) : Ps → En → R (List (Nat × S))
  | .nil, ρ => .ok [] ρ
  | .cons own i e ps, ρ => (ev cf e ρ).bind fun x ρ1 => (R.of (if own then (ownD x).map .mu else some (.im x)) ρ1).bind fun s ρ2 =>
      (evPs cf ps ρ2).bind fun ss ρ3 => .ok ((i, s) :: ss) ρ3
/-- an owned list of owned lists -/
def getLL (ρ : En) (i : Nat) : Option (List (List PyData)) :=
  match ρ[i]? with
  | some (.mu (.ll xs)) => some xs
  | some (.rf (.ll xs)) => some xs
  | _ => none
def appLL (ρ1 : En) (i : Nat) (x : PyData) : Option En := (getLL ρ1 i).bind fun xss => match x with
  | .list xs => if xss.length < lim then putM ρ1 i (.ll (xss ++ [xs])) else none
  | _ => none
/-- x[a][b] = v -/
def setLL (ρ1 : En) (i a b : Nat) (x : PyData) : Option En := (getLL ρ1 i).bind fun xss => match getI ρ1 a, getI ρ1 b with
  | some (.int j), some (.int k) => (ixN xss.length j).bind fun j' => (xss[j']?).bind fun row => (ixN row.length k).bind fun k' => putM ρ1 i (.ll (xss.set j' (row.set k' x)))
  | _, _ => none
/-- x[k] = v, x owned -/
def setM (ρ2 : En) (i : Nat) (x k : PyData) : Option En := (getM ρ2 i).bind fun m => match m, k with
    | .l xs, .int j => (ixN xs.length j).bind fun j => putM ρ2 i (.l (xs.set j x))
    | .d kvs, k => if isKey k && decide (kvs.length < lim) then putM ρ2 i (.d (putD kvs k x)) else none
    | _, _ => none
def setMt (cf : CallF) (t : MT) (x : PyData) (ρ : En) : R Fl := match t with
  | .n i => (R.of (setS ρ i (.im x)) ρ).bind fun ρ3 _ => .ok .nx ρ3
  | .s i k => R.gd (getM ρ i) <| (ev cf k ρ).calm.bind fun kd ρ2 => (R.of (setM ρ2 i x kd) ρ2).bind fun ρ3 _ => .ok .nx ρ3
def setMs (cf : CallF) : List MT → List PyData → En → R Fl
  | [], [], ρ => .ok .nx ρ
  | t :: ts, x :: xs, ρ => (setMt cf t x ρ).bind fun _ ρ1 => setMs cf ts xs ρ1
  | _, _, _ => .st
def setAll : List (Nat × S) → En → Option En
  | [], ρ => some ρ
  | (i, s) :: r, ρ => (setS ρ i s).bind (setAll r)
mutual
def evS (cf : CallF) : St → En → R Fl
  | .as own i e, ρ => (ev cf e ρ).bind fun x ρ1 => (R.of (if own then (ownD x).map .mu else some (.im x)) ρ1).bind fun s ρ2 => (R.of (setS ρ2 i s) ρ2).bind fun ρ3 _ => .ok .nx ρ3
  | .unp t e, ρ => (ev cf e ρ).bind fun x ρ1 => (R.of (bindT t x ρ1) ρ1).bind fun ρ3 _ => .ok .nx ρ3
  | .par ps, ρ => (evPs cf ps ρ).bind fun ss ρ1 => (R.of (setAll ss ρ1) ρ1).bind fun ρ3 _ => .ok .nx ρ3
  | .app i e, ρ => R.gd (getL ρ i) <| (ev cf e ρ).bind fun x ρ1 => (R.of ((getM ρ1 i).bind fun m => match m with
    | .l xs => if xs.length < lim then putM ρ1 i (.l (xs ++ [x])) else none
    | _ => none) ρ1).bind fun ρ2 _ => .ok .nx ρ2
  | .ext i e, ρ => R.gd (getL ρ i) <| (ev cf e ρ).bind fun x ρ1 => (R.of ((getM ρ1 i).bind fun m => match m, x with
    | .l xs, .list ys => if xs.length + ys.length < lim then putM ρ1 i (.l (xs ++ ys)) else none
    | _, _ => none) ρ1).bind fun ρ2 _ => .ok .nx ρ2
  | .set i a e, ρ => (ev cf e ρ).bind fun x ρ1 => R.gd (getM ρ1 i) <| (ev cf a ρ1).bind fun k ρ2 => (R.of (setM ρ2 i x k) ρ2).bind fun ρ3 _ => .ok .nx ρ3
  | .upd i e, ρ => R.gd (getD ρ i) <| (ev cf e ρ).bind fun x ρ1 => (R.of ((getM ρ1 i).bind fun m => match m, x with
    | .d kvs, .dict more => if kvs.length + more.length < lim ∧ (!kvs.isEmpty || hashOk more) then putM ρ1 i (.d (more.foldl (fun acc p => putD acc p.1 p.2) kvs)) else none
    | _, _ => none) ρ1).bind fun ρ2 _ => .ok .nx ρ2
  | .ex e, ρ => (ev cf e ρ).bind fun _ ρ1 => .ok .nx ρ1
  | .ret e, ρ => (ev cf e ρ).bind fun x ρ1 => .ok (.rt x) ρ1
  | .brk, ρ => .ok .brk ρ
  | .cnt, ρ => .ok .cnt ρ
  | .ite c a b, ρ => (ev cf c ρ).bind fun x ρ1 => match x with
    | .bool true => evSs cf a ρ1
    | .bool false => evSs cf b ρ1
    | _ => .st
  | .for_ t it b fg, ρ => (evIt cf it ρ).bind fun xs ρ1 => forLoop (fun x ρ2 => (R.of (bindT t x ρ2) ρ2).bind fun ρ3 _ => evSs cf b ρ3) (forget fg) xs ρ1
  | .whl n c b fg, ρ => whlLoop (fun ρ => (ev cf c ρ).bind fun x ρ1 => R.of (asBool x) ρ1) (evSs cf b) (forget fg) n ρ
  | .rse c txt e, ρ => if txt then .ex c none ρ else (ev cf e ρ).bind fun x ρ1 => .ex c (some x) ρ1
  | .frz i, ρ => R.of (match ρ[i]? with
    | some (.mu m) => some (.nx, ρ.set i (.im m.toD))
    | _ => none) ρ |>.bind fun p _ => .ok p.1 p.2
  | .fgt is, ρ => .ok .nx (forget is ρ)
  | .asL i, ρ => (R.of (setS ρ i (.mu (.ll []))) ρ).bind fun ρ3 _ => .ok .nx ρ3
  | .appL i e, ρ => R.gd (getLL ρ i) <| (ev cf e ρ).bind fun x ρ1 => (R.of (appLL ρ1 i x) ρ1).bind fun ρ2 _ => .ok .nx ρ2
  | .set2 i a b e, ρ => (ev cf e ρ).bind fun x ρ1 => (R.of (setLL ρ1 i a b x) ρ1).bind fun ρ2 _ => .ok .nx ρ2
  | .mset ts es, ρ => (evs cf es ρ).bind fun xs ρ1 => setMs cf ts xs ρ1
  | .any, _ => .st
def evSs (cf : CallF) : Ss → En → R Fl
  | .nil, ρ => .ok .nx ρ
  | .cons s ss, ρ => (evS cf s ρ).bind fun f ρ1 => match f with
    | .nx => evSs cf ss ρ1
    | f => .ok f ρ1
end
/-- a def: its parameters, its slots, its body -/
structure Df where
  np : Nat
  ns : Nat
  body : Ss
/-- what the caller sees of the slots -/
def outS : S → S
  | .rf m => .rf m
  | _ => .un
def outE (n : Nat) (ρ : En) : En := (ρ.take n).map outS
def runDf (cf : CallF) (d : Df) (args : List S) : R PyData :=
  if args.length = d.np then
    match evSs cf d.body (args ++ List.replicate (d.ns - d.np) .un) with
    | .ok (.rt x) ρ => .ok x (outE d.np ρ)
    | .ok .nx ρ => .ok .none (outE d.np ρ)
    | .ok _ _ => .st
    | .ex c f ρ => .ex c f (outE d.np ρ)
    | .st => .st
  else .st
/-- all defs, to a depth of calls -/
def evF (tbl : Nat → Option Df) : Nat → CallF
  | 0 => fun _ _ => .st
  | n + 1 => fun id args => match tbl id with
    | some d => runDf (evF tbl n) d args
    | none => .st
end AF

set_option maxHeartbeats 4000000
namespace AF
open PySem PySem.Spec L2
open PyProof.Rows hiding St
/-! ## 9. the operations over the heap -/
/-- fresh, or data -/
def Fv (H H' : Hp) (v : V) : PyData → Prop
  | .list ds => ∃ p vs, v = .ref p ∧ H p = none ∧ H' p = some (.lst vs) ∧ FpAll H' vs ds
  | .dict kvs => ∃ p ks, v = .ref p ∧ H p = none ∧ H' p = some (.dT ks) ∧ FpKv H' ks kvs
  | d => Fp H' v d
/-- what a two-place operation asks, its answer fresh -/
def rD (g : PyData → PyData → Option PyData) : R2 := fun x y H Q => ∃ a b d, Fp H x a ∧ Fp H y b ∧ g a b = some d ∧ ∀ v H', Sam H H' → Fv H H' v d → Q v H'
/-- .. its answer a bool -/
def rB (g : PyData → PyData → Option Bool) : R2 := fun x y H Q => ∃ a b k, Fp H x a ∧ Fp H y b ∧ g a b = some k ∧ Q (.bl k) H
theorem lim_line : lim ≤ sizeLine := by rw [sizeLine_eq]; decide
theorem Fp.int_inv {H : Hp} {v : V} {i : Int} (h : Fp H v (.int i)) : v = .int i := by cases h; rfl
theorem Fp.str_inv {H : Hp} {v : V} {i : Str} (h : Fp H v (.str i)) : v = .str i := by cases h; rfl
theorem Fp.bl_inv {H : Hp} {v : V} {i : Bool} (h : Fp H v (.bool i)) : v = .bl i := by cases h; rfl
theorem Fp.non_inv {H : Hp} {v : V} (h : Fp H v .none) : v = .non := by cases h; rfl
theorem Fp.lst_inv {H : Hp} {v : V} {ds : List PyData} (h : Fp H v (.list ds)) : ∃ a xs, v = .ref a ∧ FzL H a xs ∧ FpAll H xs ds := by cases h with | lst a b => exact ⟨_, _, rfl, a, b⟩
theorem Fp.tup_inv {H : Hp} {v : V} {ds : List PyData} (h : Fp H v (.tuple ds)) : ∃ a xs, v = .ref a ∧ H a = some (.tup xs) ∧ FpAll H xs ds := by cases h with | tup a b => exact ⟨_, _, rfl, a, b⟩
theorem Fp.dic_inv {H : Hp} {v : V} {ds : List (PyData × PyData)} (h : Fp H v (.dict ds)) : ∃ a o xs, v = .ref a ∧ H a = some (.frz o (.dT xs)) ∧ FpKv H xs ds := by cases h with | dic a b => exact ⟨_, _, _, rfl, a, b⟩
section
variable {X : Cx} {pins : List (Addr × Obj)} {σ : L2.St} {H : Hp} {s : Shared}
/-- a frozen list, its object -/
theorem lstF (I : Inv X pins σ H s) {a : Addr} {xs : List V} (h : FzL H a xs) : xs.length ≤ sizeLine ∧ ∃ (its : List Value) (n : Nat), Vals xs its ∧ xs.length = its.length ∧ s.heap.get? a = some { cls := .type "list", data := .seq its.toArray n } := by
  obtain ⟨o, h⟩ := h
  obtain ⟨_, z, its, n, r, e⟩ := I.hok a _ h
  exact ⟨z, its, n, r, r.length, e⟩
end
section
variable {X : Cx}
theorem or_cat : OpR X (binaryOp .Add) (fun x y H Q => ∃ l b xs zs, x = .ref l ∧ y = .ref b ∧ FzL H l xs ∧ FzL H b zs ∧ xs.length + zs.length ≤ sizeLine ∧ ∀ p, H p = none → Q (.ref p) (upd H p (.lst (xs ++ zs)))) := by
  intro pins s σ H x y v u Q I rx ry h
  obtain ⟨l, b, xs, zs, rfl, rfl, hH, hB, hz, q⟩ := h
  cases rx
  cases ry
  obtain ⟨z, its, n, r, hl, e⟩ := lstF I hH
  obtain ⟨z2, its2, n2, r2, hl2, e2⟩ := lstF I hB
  refine PySem.P.add_list e e2 ?_ (by rw [List.size_toArray, List.size_toArray]; omega)
  have ea : its.toArray ++ its2.toArray = (its ++ its2).toArray := by simp
  rw [ea]
  exact ⟨.ref _, _, I.lnew (t' := s.toks) (r.append r2) (by rw [List.length_append]; omega), rfl, q _ I.fresh⟩
theorem flat_rep (ws : List Value) (m : Nat) : List.foldl (fun p q => p ++ q) #[] (List.replicate m ws.toArray) = (List.replicate m ws).flatten.toArray := by
  have z := foldl_rep ws m []
  simpa using z
/-- xs * k, xs frozen -/
theorem or_rep : OpR X (binaryOp .Mult) (fun x y H Q => ∃ l k xs, x = .ref l ∧ y = .int k ∧ FzL H l xs ∧ 0 ≤ k ∧ k ≤ 1000 ∧ xs.length ≤ 1000 ∧
    ∀ p, H p = none → Q (.ref p) (upd H p (.lst (List.replicate k.toNat xs).flatten))) := by
  intro pins s σ H x y v u Q I rx ry h
  obtain ⟨a, k, xs, rfl, rfl, hz, k0, k1, xl, q⟩ := h
  cases rx
  obtain ⟨tk, rfl⟩ := ry
  obtain ⟨_, ws, n, rw, wl, ea⟩ := lstF I hz
  have big : ws.length * k.toNat ≤ 1000 * 1000 := Nat.mul_le_mul (by omega) (by omega)
  have line : 1000 * 1000 ≤ (sizeLine : Nat) := by rw [sizeLine_eq]; decide
  have sz : ws.toArray.size * k.toNat ≤ 1000 * 1000 := by simpa using big
  have c1 : ¬ (!Builtin.List.listFitsIndex k) = true := by rw [fitsIndex_both (by omega) (by omega)]; simp
  have c2 : ¬ ws.toArray.size * k.toNat > (2 ^ 63 - 1) / 8 := by
    have : 1000 * 1000 ≤ (2 ^ 63 - 1) / 8 := by decide
    omega
  have c3 : ¬ Builtin.List.listTooLong (ws.toArray.size * k.toNat) = true := by rw [notLongL (Nat.le_trans sz line)]; simp
  have made : List.foldl (fun p q => p ++ q) #[] (List.replicate (if ws.toArray.isEmpty = true then 0 else k.toNat) ws.toArray) = (List.replicate k.toNat ws).flatten.toArray := by
    rw [flat_rep]
    cases ws <;> simp
  have inner := AutoListH.list___mul___list_int_3 a ws.toArray n k tk c1 c2 c3
  have outer := int___rmul___int_list k tk a ws.toArray n
  have ty : s.TypeIs (.ref a) "list" := ⟨_, ea, rfl⟩
  have ti : ∀ s' : Shared, s'.TypeIs (.int k tk) "int" := fun s' => typeIs_int s' k tk
  refine wpAny_binaryOp_repeat_ref (by decide) ty ti noFill_list_mul F.fills_int_mul F.slot_int_rmul repeat_list F.slot_int_index.lookup ?_
  refine call_meets F.slot_int_rmul (ti s) F.entry_int_rmul (F.args_int_rmul_2 _ _) outer ⟨ea, rfl, ty, ?_⟩
  refine call_meets F.slot_list_mul ty F.entry_list_mul (F.args_list_mul_2 _ _) inner ⟨ea, ?_⟩
  rw [made]
  exact ⟨.ref _, _, I.lnew (t' := s.toks) (rw.rep k.toNat) (by rw [PyProof.Rows.lm_len_rep_flat, Nat.mul_comm]; rw [wl]; omega), rfl, q _ I.fresh⟩
theorem small_cmul {i j : Int} (h : (small i || small j) = true) : CMul i j := by
  unfold small at h
  simp only [Bool.or_eq_true, Bool.and_eq_true, decide_eq_true_eq] at h
  exact h
theorem txt_mul_ok {x : Str} {k : Int} (h0 : 0 ≤ k) (h1 : k ≤ 1000) (h2 : x.length ≤ 1000) : MulOk x k := by
  have line : 1000 * 1000 ≤ (sizeLine : Nat) := by rw [sizeLine_eq]; decide
  have big : x.length * k.toNat ≤ 1000 * 1000 := Nat.mul_le_mul (by omega) (by omega)
  refine ⟨?_, fun a b => ?_, fun a b => ?_⟩
  · simp; omega
  · have hk : (2 ^ 63 - 1 : Int) / 1000 ≤ (2 ^ 63 - 1) / k := by
      apply Int.le_ediv_of_mul_le (by omega)
      have h3 : (2 ^ 63 - 1 : Int) / 1000 * k ≤ (2 ^ 63 - 1) / 1000 * 1000 := Int.mul_le_mul_of_nonneg_left h1 (by decide)
      exact Int.le_trans h3 (by decide)
    have h4 : (1000 : Int) ≤ (2 ^ 63 - 1) / 1000 := by decide
    omega
  · have z : x.length * k.toNat ≤ sizeLine := Nat.le_trans big line
    show decide _ = false
    simpa using z
theorem or_bin (op : Operator) : OpR X (binaryOp op) (rD (binD op)) := by
  intro pins s σ H x y v u Q I rx ry h
  obtain ⟨a, b, d, fa, fb, g, q⟩ := h
  have same : ∀ {v : V}, Fp H v d → Fv H H v d → Q v H := fun {v} _ f => q v H (Sam.refl H) f
  unfold binD at g
  split at g
  · obtain rfl := Option.some.inj g
    obtain rfl := fa.int_inv; obtain rfl := fb.int_inv
    exact op_add pins s σ H _ _ v u Q I rx ry ⟨_, _, rfl, rfl, q _ H (Sam.refl H) (.int _)⟩
  · split at g
    · obtain rfl := Option.some.inj g
      obtain rfl := fa.str_inv; obtain rfl := fb.str_inv
      exact op_add_str pins s σ H _ _ v u Q I rx ry ⟨_, _, rfl, rfl, Nat.le_trans (by assumption) lim_line, q _ H (Sam.refl H) (.str _)⟩
    · cases g
  · split at g
    · obtain rfl := Option.some.inj g
      obtain ⟨a1, xs, rfl, z1, f1⟩ := fa.lst_inv
      obtain ⟨a2, ys, rfl, z2, f2⟩ := fb.lst_inv
      refine or_cat pins s σ H _ _ v u Q I rx ry ⟨a1, a2, xs, ys, rfl, rfl, z1, z2, by rw [f1.length, f2.length]; exact Nat.le_trans (by assumption) lim_line, fun p hp => ?_⟩
      exact q _ _ (Sam.new hp) ⟨p, _, rfl, hp, upd_same, FpAll.mono (Ext.new hp) _ (f1.append f2)⟩
    · cases g
  · split at g
    · rename_i xd yd hle
      obtain rfl := Option.some.inj g
      obtain ⟨a1, xs, rfl, z1, f1⟩ := fa.tup_inv
      obtain ⟨a2, ys, rfl, z2, f2⟩ := fb.tup_inv
      refine op_catA pins s σ H _ _ v u Q I rx ry ⟨a1, a2, xs, ys, rfl, rfl, .of z1, .of z2, by rw [f1.length, f2.length]; exact Nat.le_trans hle lim_line, fun e => ?_, fun _ e => ?_, fun _ _ p hp => ?_⟩
      · have e' : xd = [] := by
          have := f1.length
          rw [e] at this
          exact List.length_eq_zero_iff.mp this.symm
        subst e'
        exact q _ H (Sam.refl H) (.tup z2 f2)
      · have e' : yd = [] := by
          have := f2.length
          rw [e] at this
          exact List.length_eq_zero_iff.mp this.symm
        subst e'
        refine q _ H (Sam.refl H) ?_
        rw [List.append_nil]
        exact .tup z1 f1
      · exact q _ _ (Sam.new hp) (.tup upd_same (FpAll.mono (Ext.new hp) _ (f1.append f2)))
    · cases g
  · obtain rfl := Option.some.inj g
    obtain rfl := fa.int_inv; obtain rfl := fb.int_inv
    exact op_sub pins s σ H _ _ v u Q I rx ry ⟨_, _, rfl, rfl, q _ H (Sam.refl H) (.int _)⟩
  · split at g
    · obtain rfl := Option.some.inj g
      obtain rfl := fa.int_inv; obtain rfl := fb.int_inv
      exact op_mul pins s σ H _ _ v u Q I rx ry ⟨_, _, rfl, rfl, small_cmul (by assumption), q _ H (Sam.refl H) (.int _)⟩
    · cases g
  · split at g
    · rename_i hh
      obtain rfl := Option.some.inj g
      obtain rfl := fa.str_inv; obtain rfl := fb.int_inv
      obtain ⟨t1, rfl⟩ := rx
      obtain ⟨t2, rfl⟩ := ry
      exact SB.mul (txt_mul_ok hh.1 hh.2.1 hh.2.2) fun t' k => ⟨.str _, H, I.tok _, ⟨_, rfl⟩, q _ H (Sam.refl H) (.str _)⟩
    · cases g
  · split at g
    · rename_i hh
      obtain rfl := Option.some.inj g
      obtain ⟨a1, xs, rfl, z1, f1⟩ := fa.lst_inv
      obtain rfl := fb.int_inv
      refine or_rep pins s σ H _ _ v u Q I rx ry ⟨a1, _, xs, rfl, rfl, z1, hh.1, hh.2.1, by rw [f1.length]; exact hh.2.2, fun p hp => ?_⟩
      refine q _ _ (Sam.new hp) ⟨p, _, rfl, hp, upd_same, FpAll.mono (Ext.new hp) _ ?_⟩
      rename_i kk
      generalize kk.toNat = m
      induction m with
      | zero => simp; exact .nil
      | succ m ih => rw [List.replicate_succ, List.replicate_succ, List.flatten_cons, List.flatten_cons]; exact f1.append ih
    · cases g
  · split at g
    · rename_i xd kk hh
      obtain rfl := Option.some.inj g
      obtain ⟨a1, xs, rfl, z1, f1⟩ := fa.tup_inv
      obtain rfl := fb.int_inv
      obtain ⟨h1, h2, h3, h4⟩ := hh
      refine op_repT pins s σ H _ _ v u Q I rx ry ⟨a1, _, xs, rfl, rfl, .of z1, fun e => ?_, h1, h2, by rw [f1.length]; exact h3, fun p hp => ?_⟩
      · have := f1.length
        rw [e] at this
        rw [List.length_eq_zero_iff.mp this.symm] at h4
        simp at h4
      refine q _ _ (Sam.new hp) (.tup upd_same (FpAll.mono (Ext.new hp) _ ?_))
      generalize kk.toNat = m
      induction m with
      | zero => simp; exact .nil
      | succ m ih => rw [List.replicate_succ, List.replicate_succ, List.flatten_cons, List.flatten_cons]; exact f1.append ih
    · cases g
  · split at g
    · rename_i hh
      obtain rfl := Option.some.inj g
      obtain rfl := fa.int_inv; obtain rfl := fb.int_inv
      exact op_fdiv pins s σ H _ _ v u Q I rx ry ⟨_, _, rfl, rfl, hh, q _ H (Sam.refl H) (.int _)⟩
    · cases g
  · split at g
    · rename_i hh
      obtain rfl := Option.some.inj g
      obtain rfl := fa.int_inv; obtain rfl := fb.int_inv
      exact op_mod pins s σ H _ _ v u Q I rx ry ⟨_, _, rfl, rfl, hh, q _ H (Sam.refl H) (.int _)⟩
    · cases g
  · split at g
    · rename_i hh
      obtain rfl := Option.some.inj g
      obtain rfl := fa.int_inv; obtain rfl := fb.int_inv
      exact op_pow pins s σ H _ _ v u Q I rx ry ⟨_, _, rfl, rfl, hh, q _ H (Sam.refl H) (.int _)⟩
    · cases g
  · split at g
    · rename_i hh
      obtain rfl := Option.some.inj g
      obtain rfl := fa.int_inv; obtain rfl := fb.int_inv
      exact op_shl pins s σ H _ _ v u Q I rx ry ⟨_, _, rfl, rfl, hh, q _ H (Sam.refl H) (.int _)⟩
    · cases g
  · split at g
    · rename_i hh
      obtain rfl := Option.some.inj g
      obtain rfl := fa.int_inv; obtain rfl := fb.int_inv
      exact op_shr pins s σ H _ _ v u Q I rx ry ⟨_, _, rfl, rfl, hh, q _ H (Sam.refl H) (.int _)⟩
    · cases g
  · obtain rfl := Option.some.inj g
    obtain rfl := fa.int_inv; obtain rfl := fb.int_inv
    exact op_and pins s σ H _ _ v u Q I rx ry ⟨_, _, rfl, rfl, q _ H (Sam.refl H) (.int _)⟩
  · cases g
end
end AF

set_option maxHeartbeats 4000000
namespace AF
open PySem PySem.Spec L2
open PyProof.Rows hiding St
/-! ## 10. keys -/
theorem eqv_keyD (a b : Key) : PyData.eqv (keyD a) (keyD b) = decide (a = b) := by
  cases a with
  | inl i =>
    cases b with
    | inl j =>
      by_cases h : i = j
      · subst h; simp [keyD, PyData.eqv]
      · simp [keyD, PyData.eqv, h]
    | inr y => simp [keyD, PyData.eqv]
  | inr x =>
    cases b with
    | inl j => simp [keyD, PyData.eqv]
    | inr y =>
      by_cases h : x = y
      · subst h; simp [keyD, PyData.eqv]
      · simp [keyD, PyData.eqv, h]
theorem eqvAll_keys : ∀ a b : List Key, PyData.eqvAll (a.map keyD) (b.map keyD) = decide (a = b)
  | [], [] => by simp [PyData.eqvAll]
  | [], _ :: _ => by simp [PyData.eqvAll]
  | _ :: _, [] => by simp [PyData.eqvAll]
  | x :: a, y :: b => by
    rw [List.map_cons, List.map_cons, PyData.eqvAll, eqv_keyD, eqvAll_keys a b]
    by_cases h : x = y
    · by_cases g : a = b
      · simp [h, g]
      · simp [h, g]
    · simp [h]
theorem eqv_keysD (a b : List Key) : PyData.eqv (keysD a) (keysD b) = decide (a = b) := by
  unfold keysD
  rw [PyData.eqv]
  exact eqvAll_keys a b
theorem key_mapM : ∀ (xs : List PyData) (k : List Key), (xs.mapM fun
    | PyData.int i => some (Sum.inl i : Key)
    | .str x => some (.inr x)
    | _ => none) = some k → k.map keyD = xs
  | [], k, h => by
    simp at h
    subst h
    rfl
  | x :: xs, k, h => by
    rw [List.mapM_cons] at h
    cases x with
    | int i =>
      simp only [Option.bind_eq_bind, Option.bind_some, Option.bind_eq_some_iff, Option.pure_def, Option.some.injEq] at h
      obtain ⟨k', h1, rfl⟩ := h
      rw [List.map_cons, key_mapM xs k' h1]; rfl
    | str i =>
      simp only [Option.bind_eq_bind, Option.bind_some, Option.bind_eq_some_iff, Option.pure_def, Option.some.injEq] at h
      obtain ⟨k', h1, rfl⟩ := h
      rw [List.map_cons, key_mapM xs k' h1]; rfl
    | _ => simp at h
theorem isKey_inv {x : PyData} (h : isKey x = true) : ∃ k, x = keysD k := by
  unfold isKey at h
  obtain ⟨k, hk⟩ := Option.isSome_iff_exists.mp h
  cases x with
  | tuple xs =>
    refine ⟨k, ?_⟩
    unfold keysD
    rw [key_mapM xs k hk]
  | _ => simp [keyOf?] at hk
theorem Fp.key_inv {H : Hp} {v : V} {k : List Key} (h : Fp H v (keysD k)) : ∃ b, v = .ref b ∧ H b = some (.tup (k.map kV)) := by
  obtain ⟨b, xs, rfl, hb, f⟩ := Fp.tup_inv h
  refine ⟨b, rfl, ?_⟩
  have e : ∀ (k : List Key) (xs : List V), FpAll H xs (k.map keyD) → xs = k.map kV := by
    intro k
    induction k with
    | nil => intro xs f; cases f; rfl
    | cons a k ih =>
      intro xs f
      rw [List.map_cons] at f
      cases f with
      | cons f1 f2 =>
        rw [List.map_cons, ih _ f2]
        cases a with
        | inl i => rw [Fp.int_inv f1]; rfl
        | inr i => rw [Fp.str_inv f1]; rfl
  rw [← e k xs f]
  exact hb
theorem fp_key {H : Hp} {b : Addr} {k : List Key} (h : H b = some (.tup (k.map kV))) : Fp H (.ref b) (keysD k) := by
  refine .tup h ?_
  clear h
  induction k with
  | nil => exact .nil
  | cons a k ih =>
    refine .cons ?_ ih
    cases a with
    | inl i => exact .int i
    | inr i => exact .str i
theorem look_val {H : Hp} : ∀ {ks : List (List Key × V)} {kvs : List (PyData × PyData)} (k : List Key), FpKv H ks kvs →
    (lookD kvs (keysD k) = none ∧ valV ks k = none) ∨ ∃ d v, lookD kvs (keysD k) = some d ∧ valV ks k = some v ∧ Fp H v d
  | _, [], k, h => by cases h; exact .inl ⟨rfl, rfl⟩
  | _, (p, d) :: kvs, k, h => by
    cases h with
    | @cons k0 v ks _ _ f g =>
      by_cases e : k0 = k
      · subst e
        refine .inr ⟨d, v, ?_, valV_pos rfl, f⟩
        unfold lookD
        rw [List.find?_cons]
        have : PyData.eqv (keysD k0) (keysD k0) = true := by rw [eqv_keysD]; simp
        simp [this]
      · have e1 : lookD ((keysD k0, d) :: kvs) (keysD k) = lookD kvs (keysD k) := by
          unfold lookD
          rw [List.find?_cons]
          have : PyData.eqv (keysD k0) (keysD k) = false := by rw [eqv_keysD]; simp [e]
          simp [this]
        have e2 : valV ((k0, v) :: ks) k = valV ks k := valV_neg e
        rw [e1, e2]
        exact look_val k g
theorem any_key {H : Hp} : ∀ {ks : List (List Key × V)} {kvs : List (PyData × PyData)} (k : List Key), FpKv H ks kvs →
    (kvs.any fun p => PyData.eqv p.1 (keysD k)) = (ks.any fun kv => decide (kv.1 = k))
  | _, [], k, h => by cases h; rfl
  | _, (p, d) :: kvs, k, h => by
    cases h with
    | @cons k0 v ks _ _ f g => rw [List.any_cons, List.any_cons, any_key k g, eqv_keysD]
theorem FpKv.append {H : Hp} : ∀ {vs ws : List (List Key × V)} {ds es : List (PyData × PyData)}, FpKv H vs ds → FpKv H ws es → FpKv H (vs ++ ws) (ds ++ es)
  | _, _, [], es, h, g => by cases h; exact g
  | _, _, d :: ds, es, h, g => by
    cases h with
    | cons a b => exact .cons a (FpKv.append b g)
theorem FpKv.repl {H : Hp} {w : V} {e : PyData} (k : List Key) (f : Fp H w e) : ∀ {ks : List (List Key × V)} {kvs : List (PyData × PyData)}, FpKv H ks kvs →
    FpKv H (ks.map fun kv => if kv.1 = k then (kv.1, w) else kv) (kvs.map fun p => if PyData.eqv p.1 (keysD k) then (p.1, e) else p)
  | _, [], h => by cases h; exact .nil
  | _, (p, d) :: kvs, h => by
    cases h with
    | @cons k0 v ks _ _ a b =>
      rw [List.map_cons, List.map_cons]
      by_cases q : k0 = k
      · have : PyData.eqv (keysD k0) (keysD k) = true := by rw [eqv_keysD]; simp [q]
        simp only [q, if_true]
        rw [q] at this
        simp only [this, if_true]
        exact .cons f (FpKv.repl k f b)
      · have : PyData.eqv (keysD k0) (keysD k) = false := by rw [eqv_keysD]; simp [q]
        simp only [q, if_false, this, Bool.false_eq_true]
        exact .cons a (FpKv.repl k f b)
theorem FpKv.put {H : Hp} {w : V} {e : PyData} (k : List Key) (f : Fp H w e) {ks : List (List Key × V)} {kvs : List (PyData × PyData)} (h : FpKv H ks kvs) :
    FpKv H (putK ks k w) (putD kvs (keysD k) e) := by
  unfold putK putD
  rw [any_key k h]
  by_cases q : (ks.any fun kv => decide (kv.1 = k)) = true
  · rw [if_pos q, if_pos q]
    exact FpKv.repl k f h
  · rw [if_neg q, if_neg q]
    exact h.append (.cons f .nil)
theorem FpKv.keys {H : Hp} : ∀ {ks : List (List Key × V)} {kvs : List (PyData × PyData)}, FpKv H ks kvs → kvs.map (·.1) = ks.map fun p => keysD p.1
  | _, [], h => by cases h; rfl
  | _, (p, d) :: kvs, h => by
    cases h with
    | cons a b => rw [List.map_cons, List.map_cons, FpKv.keys b]
/-! ## 11. comparisons -/
section
variable {X : Cx} {pins : List (Addr × Obj)} {σ : L2.St} {H : Hp} {s : Shared}
theorem fp_reads (I : Inv X pins σ H s) {d : PyData} {v : V} {u : Value} {n : Nat} (f : Fp H v d) (h : sh n d = true) (r : RelV v u) : ∃ as, Reads s.heap u d as :=
  Dp.reads I d v u (Fp.dp d f (sh_lay n d h).1) r
theorem sh_all : ∀ {n : Nat} {ds : List PyData}, ds.all (sh n) = true → PyData.canLayAll0 ds = true ∧ PyData.depthAll ds ≤ n
  | n, [], _ => ⟨by simp [PyData.canLayAll0], by simp [PyData.depthAll]⟩
  | n, d :: ds, h => by
    rw [List.all_cons, Bool.and_eq_true] at h
    obtain ⟨a1, a2⟩ := sh_lay n d h.1
    obtain ⟨b1, b2⟩ := sh_all h.2
    refine ⟨by rw [PyData.canLayAll0, a1, b1]; rfl, ?_⟩
    rw [PyData.depthAll]; omega
theorem sh_list {n : Nat} {ds : List PyData} (h : ds.all (sh n) = true) : sh (n + 1) (.list ds) = true := by rw [sh]; exact h
theorem sh_tup {n : Nat} {ds : List PyData} (h : ds.all (sh n) = true) : sh (n + 1) (.tuple ds) = true := by rw [sh]; exact h
theorem dget_fp {a b : Addr} {o : Obj} {ks : List (List Key × V)} {k : List Key} (e : H a = some (.frz o (.dT ks))) (eb : H b = some (.tup (k.map kV))) : DGet H a (.ref b) (valV ks k) := .inr ⟨ks, k, b, .inr ⟨o, e⟩, rfl, eb, rfl⟩
theorem bool_end (I : Inv X pins σ H s) {Q : VK} {k : Bool} (q : Q (.bl k) H) : EP X pins σ Q (.bool k) s := ⟨.bl k, H, I, rfl, q⟩
end
section
variable {X : Cx}
theorem tru_room {n : Nat} (h : X.A.units + 65 < cLine) (hn : n ≤ 8) : X.A.units + n < cLine := by omega
/-- x in y; neg: not in -/
theorem or_in (hu : X.A.units + 65 < cLine) (neg : Bool) : OpR X (compareOp (if neg then .NotIn else .In)) (rB fun a b => (inD a b).map fun k => if neg then !k else k) := by
  intro pins s σ H x y v u Q I rx ry h
  obtain ⟨a, b, k, fa, fb, g, q⟩ := h
  obtain ⟨k0, g, ek⟩ := Option.map_eq_some_iff.mp g
  unfold inD at g
  split at g
  · rename_i ys _
    split at g
    · rename_i hs
      obtain rfl := Option.some.inj g
      rw [Bool.and_eq_true] at hs
      obtain ⟨as, r1⟩ := fp_reads I fa hs.1 rx
      obtain ⟨bs, r2⟩ := fp_reads I fb (sh_list hs.2) ry
      obtain ⟨c1, c2⟩ := sh_lay 7 a hs.1
      obtain ⟨c3, c4⟩ := sh_all hs.2
      have hu2 : X.A.units + 1 + min (PyData.depthAll ys) a.depth < cLine := by omega
      subst ek
      cases neg with
      | true => exact SeqAt.notIn_list_reads r2 r1 c3 c1 hu2 (bool_end I q)
      | false => exact SeqAt.in_list_reads r2 r1 c3 c1 hu2 (bool_end I q)
    · cases g
  · rename_i ys _
    split at g
    · rename_i hs
      obtain rfl := Option.some.inj g
      rw [Bool.and_eq_true] at hs
      obtain ⟨as, r1⟩ := fp_reads I fa hs.1 rx
      obtain ⟨bs, r2⟩ := fp_reads I fb (sh_tup hs.2) ry
      obtain ⟨c1, c2⟩ := sh_lay 7 a hs.1
      obtain ⟨c3, c4⟩ := sh_all hs.2
      have hu2 : X.A.units + 1 + min (PyData.depthAll ys) a.depth < cLine := by omega
      subst ek
      cases neg with
      | true => exact SeqAt.notIn_tuple_reads r2 r1 c3 c1 hu2 (bool_end I q)
      | false => exact SeqAt.in_tuple_reads r2 r1 c3 c1 hu2 (bool_end I q)
    · cases g
  · rename_i kvs _
    split at g
    · rename_i hk
      obtain rfl := Option.some.inj g
      obtain ⟨key, rfl⟩ := isKey_inv hk
      obtain ⟨c, rfl, hc⟩ := fa.key_inv
      obtain ⟨d, o, ks, rfl, hd, fk⟩ := fb.dic_inv
      obtain rfl : u = Value.ref d := ry
      have gt := dget_fp (k := key) hd hc
      have e : (lookD kvs (keysD key)).isSome = (valV ks key).isSome := by
        rcases look_val key fk with ⟨e1, e2⟩ | ⟨_, _, e1, e2, _⟩ <;> simp [e1, e2]
      subst ek
      rw [e] at q
      cases neg with
      | true => exact d_notIn (by omega) I gt rx fun s' I' => bool_end I' q
      | false => exact d_in (by omega) I gt rx fun s' I' => bool_end I' q
    · cases g
  · rename_i z _
    split at g
    · rename_i w _
      split at g
      · rename_i hw
        obtain rfl := Option.some.inj g
        obtain rfl := fa.str_inv
        obtain rfl := fb.str_inv
        have ew : w = ⟨#[w.cps.getD 0 0]⟩ := by
          obtain ⟨⟨l⟩⟩ := w
          match l, hw with
          | [c], _ => rfl
        subst ek
        rw [ew] at rx
        cases neg with
        | true => exact op_notIn_sign pins s σ H _ _ v u Q I rx ry ⟨_, z, rfl, rfl, q⟩
        | false => exact op_in_sign pins s σ H _ _ v u Q I rx ry ⟨_, z, rfl, rfl, q⟩
      · cases g
    · cases g
  · cases g
theorem dec_beq : ∀ i j : Bool, decide (i = j) = (i == j) := by decide
theorem or_cmp (hu : X.A.units + 65 < cLine) (op : CmpOp) : OpR X (compareOp op) (rB (cmpD op)) := by
  intro pins s σ H x y v u Q I rx ry h
  obtain ⟨a, b, k, fa, fb, g, q⟩ := h
  unfold cmpD at g
  split at g
  · split at g
    · rename_i hs
      rw [Bool.and_eq_true] at hs
      obtain rfl := Option.some.inj g
      exact op_eqD (by omega) pins s σ H x y v u Q I rx ry ⟨a, b, Fp.dp a fa (sh_lay 8 a hs.1).1, Fp.dp b fb (sh_lay 8 b hs.2).1, sh_shaped hs.1, sh_shaped hs.2, q⟩
    · cases g
  · split at g
    · rename_i hs
      rw [Bool.and_eq_true] at hs
      obtain rfl := Option.some.inj g
      exact op_neD (by omega) pins s σ H x y v u Q I rx ry ⟨a, b, Fp.dp a fa (sh_lay 8 a hs.1).1, Fp.dp b fb (sh_lay 8 b hs.2).1, sh_shaped hs.1, sh_shaped hs.2, q⟩
    · cases g
  · obtain rfl := Option.some.inj g
    obtain rfl := fa.int_inv; obtain rfl := fb.int_inv
    exact op_lt pins s σ H _ _ v u Q I rx ry ⟨_, _, rfl, rfl, q⟩
  · obtain rfl := Option.some.inj g
    obtain rfl := fa.int_inv; obtain rfl := fb.int_inv
    exact op_le pins s σ H _ _ v u Q I rx ry ⟨_, _, rfl, rfl, q⟩
  · obtain rfl := Option.some.inj g
    obtain rfl := fa.int_inv; obtain rfl := fb.int_inv
    exact op_gt pins s σ H _ _ v u Q I rx ry ⟨_, _, rfl, rfl, q⟩
  · obtain rfl := Option.some.inj g
    obtain rfl := fa.int_inv; obtain rfl := fb.int_inv
    exact op_ge pins s σ H _ _ v u Q I rx ry ⟨_, _, rfl, rfl, q⟩
  · split at g
    · rename_i hs
      obtain rfl := Option.some.inj g
      unfold ltOk at hs
      split at hs
      · rename_i xs ys
        rw [Bool.and_eq_true, Bool.and_eq_true] at hs
        obtain ⟨as, r1⟩ := fp_reads I fa hs.1.1 rx
        obtain ⟨bs, r2⟩ := fp_reads I fb hs.1.2 ry
        have c1 := (sh_lay 8 _ hs.1.1).2
        exact PySem.W.rcLt_alike _ _ X.A s v u as bs r1 r2 hs.2 (fun z => by cases z) (by omega) _ _ _ _ (bool_end I q)
      · cases hs
    · cases g
  · refine or_in hu false pins s σ H x y v u Q I rx ry ⟨a, b, k, fa, fb, (by show Option.map _ (inD a b) = some k; rw [g]; rfl), q⟩
  · refine or_in hu true pins s σ H x y v u Q I rx ry ⟨a, b, k, fa, fb, ?_, q⟩
    exact g
  · obtain rfl := Option.some.inj g
    obtain rfl := fb.non_inv
    refine op_isN pins s σ H _ _ v u Q I rx ry ⟨rfl, ?_⟩
    cases fa <;> exact q
  · obtain rfl := Option.some.inj g
    obtain rfl := fb.non_inv
    refine op_notN pins s σ H _ _ v u Q I rx ry ⟨rfl, ?_⟩
    cases fa <;> exact q
  · obtain rfl := Option.some.inj g
    obtain rfl := fa.bl_inv; obtain rfl := fb.bl_inv
    exact op_isBl pins s σ H _ _ v u Q I rx ry ⟨_, _, rfl, rfl, by rw [dec_beq]; exact q⟩
  · obtain rfl := Option.some.inj g
    obtain rfl := fa.bl_inv; obtain rfl := fb.bl_inv
    exact op_notBl pins s σ H _ _ v u Q I rx ry ⟨_, _, rfl, rfl, by rw [dec_beq]; exact q⟩
  · cases g
end
end AF

set_option maxHeartbeats 4000000
namespace AF
open PySem PySem.Spec L2
open PyProof.Rows hiding St
/-! ## 12. items, parts -/
theorem atI_fp {H : Hp} {vs : List V} {ds : List PyData} {i : Int} {d : PyData} (f : FpAll H vs ds) (h : atI ds i = some d) : ∃ v, atI vs i = some v ∧ Fp H v d := by
  unfold atI at h ⊢
  rw [f.length]
  obtain ⟨j, h1, h2⟩ := Option.bind_eq_some_iff.mp h
  obtain ⟨v, h3, h4⟩ := f.get h2
  exact ⟨v, by rw [h1]; exact h3, h4⟩
theorem cut_fp {H : Hp} {vs : List V} {ds : List PyData} (f : FpAll H vs ds) (lo hi : Option Int) : FpAll H (cutV vs lo hi) (cutD ds lo hi) := by
  unfold cutV cutD
  rw [f.length]
  exact (f.drop _).take _
theorem cut_whole {H : Hp} {vs : List V} {ds : List PyData} {lo hi : Option Int} (f : FpAll H vs ds) (h : HT.sIx vs.length 0 lo = 0 ∧ HT.sIx vs.length vs.length hi = vs.length) : cutD ds lo hi = ds := by
  unfold cutD
  rw [← f.length, h.1, h.2, List.drop_zero, Nat.sub_zero, f.length, List.take_length]
/-- what an item asks -/
def rItem (g : PyData → PyData → Option PyData) : R2 := fun x y H Q => ∃ a b d, Fp H x a ∧ Fp H y b ∧ g a b = some d ∧ ∀ v, Fp H v d → Q v H
section
variable {X : Cx}
/-- a[i], a no dict -/
theorem ix_item : IxR X (fun x y H Q => ∃ a b d, isDict a = false ∧ Fp H x a ∧ Fp H y b ∧ itemD a b = some d ∧ ∀ v, Fp H v d → Q v H) := by
  intro value slice pins s σ H x y v u Q I rx ry h hs
  obtain ⟨a, b, d, hd, fa, fb, g, q⟩ := h
  unfold itemD at g
  split at g
  · obtain ⟨p, xs, rfl, z, f⟩ := fa.lst_inv
    obtain rfl := fb.int_inv
    obtain ⟨w, h1, h2⟩ := atI_fp f g
    exact ix_list value slice pins s σ H _ _ v u Q I rx ry ⟨p, xs, _, w, rfl, rfl, z.sq, h1, q w h2⟩ hs
  · obtain ⟨p, xs, rfl, z, f⟩ := fa.tup_inv
    obtain rfl := fb.int_inv
    obtain ⟨w, h1, h2⟩ := atI_fp f g
    exact ix_tup value slice pins s σ H _ _ v u Q I rx ry ⟨p, xs, _, w, rfl, rfl, .of z, h1, q w h2⟩ hs
  · split at g
    · rename_i hl
      obtain rfl := fa.str_inv
      obtain rfl := fb.int_inv
      obtain ⟨c, h1, rfl⟩ := Option.map_eq_some_iff.mp g
      exact ix_str value slice pins s σ H _ _ v u Q I rx ry ⟨_, _, c, rfl, rfl, Nat.le_trans hl lim_line, h1, q _ (.str _)⟩ hs
    · cases g
  · cases hd
  · cases g
theorem item_dict {H : Hp} {x y : V} {kvs : List (PyData × PyData)} {b d : PyData} (fa : Fp H x (.dict kvs)) (fb : Fp H y b) (g : itemD (.dict kvs) b = some d) :
    ∃ a v, x = .ref a ∧ DGet H a y (some v) ∧ Fp H v d := by
  have g : (if isKey b then lookD kvs b else none) = some d := g
  split at g
  · rename_i hk
    obtain ⟨key, rfl⟩ := isKey_inv hk
    obtain ⟨c, rfl, hc⟩ := fb.key_inv
    obtain ⟨a, o, ks, rfl, hd, fk⟩ := fa.dic_inv
    have gt := dget_fp (k := key) hd hc
    rcases look_val key fk with ⟨e1, e2⟩ | ⟨d', v, e1, e2, f⟩
    · rw [e1] at g; cases g
    · rw [e1] at g
      obtain rfl := Option.some.inj g
      rw [e2] at gt
      exact ⟨a, v, rfl, gt, f⟩
  · cases g
theorem sl_part : SlR X (fun x lo hi H Q => ∃ a d, Fp H x a ∧ sliceD lo hi a = some d ∧ ∀ v H', Sam H H' → Fv H H' v d → Q v H') := by
  intro pins s σ H x v vl vu lo hi sl Q I rx hs pl pu h
  obtain ⟨a, d, fa, g, q⟩ := h
  unfold sliceD at g
  split at g
  · obtain rfl := Option.some.inj g
    obtain ⟨p, xs, rfl, z, f⟩ := fa.lst_inv
    refine sl_list pins s σ H _ v vl vu lo hi sl Q I rx hs pl pu ⟨p, xs, rfl, z.sq, fun p hp => ?_⟩
    exact q _ _ (Sam.new hp) ⟨p, _, rfl, hp, upd_same, FpAll.mono (Ext.new hp) _ (cut_fp f lo hi)⟩
  · obtain rfl := Option.some.inj g
    obtain ⟨p, xs, rfl, z, f⟩ := fa.tup_inv
    refine sl_tupA pins s σ H _ v vl vu lo hi sl Q I rx hs pl pu ⟨p, xs, rfl, .of z, fun w => ?_, fun w p hp => ?_⟩
    · refine q _ H (Sam.refl H) ?_
      rw [cut_whole f w]
      exact .tup z f
    · exact q _ _ (Sam.new hp) (.tup upd_same (FpAll.mono (Ext.new hp) _ (cut_fp f lo hi)))
  · split at g
    · rename_i hl
      obtain rfl := Option.some.inj g
      obtain rfl := fa.str_inv
      exact sl_str pins s σ H _ v vl vu lo hi sl Q I rx hs pl pu ⟨_, rfl, Nat.le_trans hl lim_line, q _ H (Sam.refl H) (.str _)⟩
    · cases g
  · cases g
end
end AF

set_option maxHeartbeats 4000000
namespace AF
open PySem PySem.Spec L2
open PyProof.Rows hiding St
/-! ## 13. built-in functions -/
/-- what a call of one argument asks -/
def rC1 (g : PyData → Option PyData) : List V → Hp → VK → Prop := fun xs H Q => ∃ x a d, xs = [x] ∧ Fp H x a ∧ g a = some d ∧ ∀ v H', Sam H H' → Fv H H' v d → Q v H'
theorem ints_fp {H : Hp} : ∀ {vs : List V} {ds : List PyData} {ns : List Int}, FpAll H vs ds → intsD ds = some ns → vs = ns.map V.int ∧ ds = ns.map PyData.int
  | _, [], ns, f, h => by
    cases f
    cases h
    exact ⟨rfl, rfl⟩
  | _, d :: ds, ns, f, h => by
    cases f with
    | cons f1 f2 =>
      cases d with
      | int i =>
        obtain ⟨r, h1, rfl⟩ := Option.map_eq_some_iff.mp (show (intsD ds).map (i :: ·) = some ns from h)
        obtain ⟨e1, e2⟩ := ints_fp f2 h1
        rw [e1, e2, Fp.int_inv f1]
        exact ⟨rfl, rfl⟩
      | _ => cases h
theorem bools_fp {H : Hp} : ∀ {vs : List V} {ds : List PyData} {ns : List Bool}, FpAll H vs ds → boolsD ds = some ns → vs = ns.map V.bl
  | _, [], ns, f, h => by
    cases f
    cases h
    rfl
  | _, d :: ds, ns, f, h => by
    cases f with
    | cons f1 f2 =>
      cases d with
      | bool i =>
        obtain ⟨r, h1, rfl⟩ := Option.map_eq_some_iff.mp (show (boolsD ds).map (i :: ·) = some ns from h)
        rw [bools_fp f2 h1, Fp.bl_inv f1]
        rfl
      | _ => cases h
theorem strs_fp {H : Hp} : ∀ {vs : List V} {ds : List PyData} {ns : List Str}, FpAll H vs ds → strsD ds = some ns → vs = ns.map V.str
  | _, [], ns, f, h => by
    cases f
    cases h
    rfl
  | _, d :: ds, ns, f, h => by
    cases f with
    | cons f1 f2 =>
      cases d with
      | str i =>
        obtain ⟨r, h1, rfl⟩ := Option.map_eq_some_iff.mp (show (strsD ds).map (i :: ·) = some ns from h)
        rw [strs_fp f2 h1, Fp.str_inv f1]
        rfl
      | _ => cases h
theorem max_is (r : List Int) : ∀ (n m : Int), m ∈ n :: r → (∀ y, y ∈ n :: r → y ≤ m) → r.foldl (fun a b => if a < b then b else a) n = m := by
  induction r with
  | nil =>
    intro n m hm _
    have : m = n := by simpa using hm
    simp [this]
  | cons x r ih =>
    intro n m hm hy
    rw [List.foldl_cons]
    have h1 := hy n (by simp)
    have h2 := hy x (by simp)
    refine ih _ m ?_ fun y hy' => ?_
    · rcases List.mem_cons.mp hm with e | hm
      · have : ¬ n < x := by omega
        simp [this, e]
      · rcases List.mem_cons.mp hm with e | hm
        · by_cases q : n < x
          · simp [q, e]
          · have : m = n := by omega
            simp [q, this]
        · simp [hm]
    · rcases List.mem_cons.mp hy' with e | hy'
      · split at e <;> omega
      · exact hy y (by simp [hy'])
theorem min_is (r : List Int) : ∀ (n m : Int), m ∈ n :: r → (∀ y, y ∈ n :: r → m ≤ y) → r.foldl (fun a b => if b < a then b else a) n = m := by
  induction r with
  | nil =>
    intro n m hm _
    have : m = n := by simpa using hm
    simp [this]
  | cons x r ih =>
    intro n m hm hy
    rw [List.foldl_cons]
    have h1 := hy n (by simp)
    have h2 := hy x (by simp)
    refine ih _ m ?_ fun y hy' => ?_
    · rcases List.mem_cons.mp hm with e | hm
      · have : ¬ x < n := by omega
        simp [this, e]
      · rcases List.mem_cons.mp hm with e | hm
        · by_cases q : x < n
          · simp [q, e]
          · have : m = n := by omega
            simp [q, this]
        · simp [hm]
    · rcases List.mem_cons.mp hy' with e | hy'
      · split at e <;> omega
      · exact hy y (by simp [hy'])
theorem sortOk_inv {xs : List PyData} (h : sortOk xs = true) : xs.all (sh 7) = true ∧ PySem.W.AllAlike xs ∧ PySem.W.Sortable xs ∧ xs.length ≤ lim := by
  unfold sortOk at h
  simp only [Bool.and_eq_true, Bool.or_eq_true, decide_eq_true_eq, List.all_eq_true] at h
  obtain ⟨⟨⟨h1, h2⟩, h3⟩, h4⟩ := h
  refine ⟨by simpa using h1, fun d hd d' hd' => h2 d hd d' hd', ?_, h4⟩
  rcases h3 with h3 | h3
  · left
    intro d hd
    have := h3 d hd
    split at this
    · exact ⟨_, _, rfl⟩
    · cases this
  · right
    intro d hd
    have := h3 d hd
    split at this
    · exact ⟨(fun z => by cases z), fun xs z => by cases z⟩
    · cases this
section
variable {X : Cx} {pins : List (Addr × Obj)} {σ : L2.St} {H : Hp} {s : Shared}
theorem each_fp {H : Hp} : ∀ {vs : List V} {us : List Value} {ds : List PyData}, Vals vs us → FpAll H vs ds → PySem.W.EachIs (fun u d => ∃ v, RelV v u ∧ Fp H v d) us ds
  | _, _, [], r, f => by cases f; cases r; exact .nil
  | _, _, d :: ds, r, f => by
    cases f with
    | cons f1 f2 =>
      cases r with
      | cons r1 r2 => exact .cons ⟨_, r1, f1⟩ (each_fp r2 f2)
theorem fp_each {H : Hp} : ∀ {us : List Value} {ds : List PyData}, PySem.W.EachIs (fun u d => ∃ v, RelV v u ∧ Fp H v d) us ds → ∃ vs, Vals vs us ∧ FpAll H vs ds
  | _, _, .nil => ⟨[], .nil, .nil⟩
  | _, _, .cons ⟨v, r, f⟩ t => by
    obtain ⟨vs, r2, f2⟩ := fp_each t
    exact ⟨v :: vs, .cons r r2, .cons f f2⟩
theorem each_reads (I : Inv X pins σ H s) : ∀ {vs : List V} {us : List Value} {ds : List PyData}, Vals vs us → FpAll H vs ds → ds.all (sh 7) = true → PySem.W.EachIs (fun u d => ∃ as, Reads s.heap u (id d) as) us ds
  | _, _, [], r, f, _ => by cases f; cases r; exact .nil
  | _, _, d :: ds, r, f, h => by
    rw [List.all_cons, Bool.and_eq_true] at h
    cases f with
    | cons f1 f2 =>
      cases r with
      | cons r1 r2 => exact .cons (fp_reads I f1 h.1 r1) (each_reads I r2 f2 h.2)
theorem leD_eq : leD = PySem.W.dataLe false (id : PyData → PyData) := by
  rw [PySem.W.dataLe_eq]
  rfl
end
section
variable {X : Cx}
theorem cr_len : CallR X (.builtin "len") (rC1 lenD) := by
  intro pins s σ H xs us Q I r h
  obtain ⟨x, a, d, rfl, f, g, q⟩ := h
  refine call_len pins s σ H _ us Q I r ?_
  unfold lenD at g
  split at g
  · split at g
    · obtain rfl := Option.some.inj g
      obtain rfl := f.str_inv
      exact ⟨_, _, rfl, ⟨Nat.le_trans (by assumption) lim_line, rfl⟩, q _ H (Sam.refl H) (.int _)⟩
    · cases g
  · obtain rfl := Option.some.inj g
    obtain ⟨p, ys, rfl, z, fa⟩ := f.lst_inv
    exact ⟨_, _, rfl, .inl ⟨_, z.sq, fa.length.symm⟩, q _ H (Sam.refl H) (.int _)⟩
  · obtain rfl := Option.some.inj g
    obtain ⟨p, ys, rfl, z, fa⟩ := f.tup_inv
    exact ⟨_, _, rfl, .inr ⟨_, .of z, fa.length.symm⟩, q _ H (Sam.refl H) (.int _)⟩
  · cases g
theorem keys_fp {H : Hp} : ∀ {ks : List (List Key × V)} {kvs : List (PyData × PyData)} {bs : List Addr}, FpKv H ks kvs → IsKeys H ks bs → FpAll H (bs.map V.ref) (kvs.map (·.1)) := by
  intro ks
  induction ks with
  | nil =>
    intro kvs bs f k
    cases f
    cases k
    exact .nil
  | cons p ks ih =>
    intro kvs bs f k
    cases f with
    | cons f1 f2 =>
      cases k with
      | cons k1 k2 => exact .cons (fp_key k1) (ih f2 k2)
theorem cr_list (hc : X.calm = true) : CallR X (.type "list") (rC1 listD) := by
  intro pins s σ H xs us Q I r h
  obtain ⟨x, a, d, rfl, f, g, q⟩ := h
  unfold listD at g
  split at g
  · obtain rfl := Option.some.inj g
    obtain ⟨p, ys, rfl, z, fa⟩ := f.lst_inv
    refine call_list_of pins s σ H _ us Q I r ⟨_, _, rfl, .inl z.sq, fun l hl => ?_⟩
    exact q _ _ (Sam.new hl) ⟨l, _, rfl, hl, upd_same, FpAll.mono (Ext.new hl) _ fa⟩
  · obtain rfl := Option.some.inj g
    obtain ⟨p, ys, rfl, z, fa⟩ := f.tup_inv
    refine call_list_of pins s σ H _ us Q I r ⟨_, _, rfl, .inr (.of z), fun l hl => ?_⟩
    exact q _ _ (Sam.new hl) ⟨l, _, rfl, hl, upd_same, FpAll.mono (Ext.new hl) _ fa⟩
  · obtain rfl := Option.some.inj g
    obtain ⟨p, o, ks, rfl, hd, fk⟩ := f.dic_inv
    refine call_list_dT hc pins s σ H _ us Q I r ⟨_, _, rfl, .inr ⟨o, hd⟩, fun l bs hl hb => ?_⟩
    exact q _ _ (Sam.new hl) ⟨l, _, rfl, hl, upd_same, FpAll.mono (Ext.new hl) _ (keys_fp fk hb)⟩
  · cases g
theorem cr_tuple : CallR X (.type "tuple") (rC1 tupleD) := by
  intro pins s σ H xs us Q I r h
  obtain ⟨x, a, d, rfl, f, g, q⟩ := h
  unfold tupleD at g
  split at g
  · obtain rfl := Option.some.inj g
    obtain ⟨p, ys, rfl, z, fa⟩ := f.lst_inv
    refine call_tuple_of pins s σ H _ us Q I r ⟨_, _, rfl, .inl ⟨z.sq, fun l hl => ?_⟩⟩
    exact q _ _ (Sam.new hl) (.tup upd_same (FpAll.mono (Ext.new hl) _ fa))
  · obtain rfl := Option.some.inj g
    obtain ⟨p, ys, rfl, z, fa⟩ := f.tup_inv
    exact call_tuple_of pins s σ H _ us Q I r ⟨_, _, rfl, .inr ⟨.of z, q _ H (Sam.refl H) (.tup z fa)⟩⟩
  · cases g
theorem cr_sortedA (hu : X.A.units + 65 < cLine) : CallR X (.builtin "sorted") (rC1 sortedD) := by
  intro pins s σ H xs us Q I r h
  obtain ⟨x, a, d, rfl, f, g, q⟩ := h
  unfold sortedD at g
  split at g
  · rename_i ds
    split at g
    · rename_i ho
      obtain rfl := Option.some.inj g
      obtain ⟨o1, o2, o3, o4⟩ := sortOk_inv ho
      obtain ⟨p, ys, rfl, z, fa⟩ := f.lst_inv
      obtain ⟨u, rfl, ru⟩ := vals1 r
      cases ru
      obtain ⟨its, rv, pl, _⟩ := I.list z.sq
      have hm : ds.map (id : PyData → PyData) = ds := List.map_id ds
      refine PySem.W.sorted_data (bs := ds) (enc := id) (R := fun u d => ∃ v, RelV v u ∧ Fp H v d) pl.isList (each_fp rv fa) (each_reads I rv fa o1) (by rw [hm]; exact o2) (by rw [hm]; exact o3) (Nat.le_trans o4 lim_line) (fun b hb => ?_) fun out hl eo => ?_
      · have := (sh_lay 7 b (List.all_eq_true.mp o1 b hb)).2
        show X.A.units + 2 + PyData.depth b < cLine
        omega
      · rw [← leD_eq] at eo
        obtain ⟨vs, rvs, fvs⟩ := fp_each eo
        obtain ⟨c, hc⟩ := PyProof.Rows.sortedAll_at s.heap its out.toArray
        have hp : H (s.heap.objs.size + 1) = none := I.hok.fresh (Nat.le_succ _)
        have len : vs.length ≤ sizeLine := by
          rw [rvs.length, hl]
          exact Nat.le_trans o4 lim_line
        refine ⟨.ref (s.heap.objs.size + 1), upd H (s.heap.objs.size + 1) (.lst vs), I.laid (t' := s.toks) (fun b ob e => PyProof.Rows.sortedAll_old e) (Nat.le_succ _) ⟨len, out, c, rvs, hc⟩, rfl, ?_⟩
        exact q _ _ (Sam.new hp) ⟨_, _, rfl, hp, upd_same, FpAll.mono (Ext.new hp) _ fvs⟩
    · cases g
  · cases g
theorem cr_minA (hc : X.calm = true) : CallR X (.builtin "min") (rC1 minLD) := by
  intro pins s σ H xs us Q I r h
  obtain ⟨x, a, d, rfl, f, g, q⟩ := h
  unfold minLD at g
  split at g
  · obtain ⟨ns, h1, h2⟩ := Option.bind_eq_some_iff.mp g
    obtain ⟨m, h3, rfl⟩ := Option.map_eq_some_iff.mp h2
    obtain ⟨p, ys, rfl, z, fa⟩ := f.lst_inv
    obtain ⟨rfl, _⟩ := ints_fp fa h1
    cases ns with
    | nil => cases h3
    | cons n ns =>
      refine cr_min hc pins s σ H _ us Q I r ⟨p, _, rfl, z.sq, by simp, fun m' hm hy => ?_⟩
      obtain rfl := Option.some.inj h3
      rw [← min_is ns n m' hm hy]
      exact q _ H (Sam.refl H) (.int _)
  · cases g
theorem cr_maxA (hc : X.calm = true) : CallR X (.builtin "max") (rC1 maxLD) := by
  intro pins s σ H xs us Q I r h
  obtain ⟨x, a, d, rfl, f, g, q⟩ := h
  unfold maxLD at g
  split at g
  · obtain ⟨ns, h1, h2⟩ := Option.bind_eq_some_iff.mp g
    obtain ⟨m, h3, rfl⟩ := Option.map_eq_some_iff.mp h2
    obtain ⟨p, ys, rfl, z, fa⟩ := f.lst_inv
    obtain ⟨rfl, _⟩ := ints_fp fa h1
    cases ns with
    | nil => cases h3
    | cons n ns =>
      refine cr_max hc pins s σ H _ us Q I r ⟨p, _, rfl, z.sq, by simp, fun m' hm hy => ?_⟩
      obtain rfl := Option.some.inj h3
      rw [← max_is ns n m' hm hy]
      exact q _ H (Sam.refl H) (.int _)
  · cases g
theorem cr_sumA (hc : X.calm = true) : CallR X (.builtin "sum") (rC1 sumD) := by
  intro pins s σ H xs us Q I r h
  obtain ⟨x, a, d, rfl, f, g, q⟩ := h
  unfold sumD at g
  split at g
  · obtain ⟨ns, h1, rfl⟩ := Option.map_eq_some_iff.mp g
    obtain ⟨p, ys, rfl, z, fa⟩ := f.lst_inv
    obtain ⟨rfl, _⟩ := ints_fp fa h1
    exact cr_sum hc pins s σ H _ us Q I r ⟨p, ns, rfl, z.sq, q _ H (Sam.refl H) (.int _)⟩
  · cases g
theorem cr_allA (hc : X.calm = true) : CallR X (.builtin "all") (rC1 allD) := by
  intro pins s σ H xs us Q I r h
  obtain ⟨x, a, d, rfl, f, g, q⟩ := h
  unfold allD at g
  split at g
  · obtain ⟨ns, h1, rfl⟩ := Option.map_eq_some_iff.mp g
    obtain ⟨p, ys, rfl, z, fa⟩ := f.lst_inv
    obtain rfl := bools_fp fa h1
    exact cr_all hc pins s σ H _ us Q I r ⟨p, ns, rfl, z.sq, q _ H (Sam.refl H) (.bl _)⟩
  · cases g
theorem cr_absA : CallR X (.builtin "abs") (rC1 absD) := by
  intro pins s σ H xs us Q I r h
  obtain ⟨x, a, d, rfl, f, g, q⟩ := h
  unfold absD at g
  split at g
  · obtain rfl := Option.some.inj g
    obtain rfl := f.int_inv
    exact call_abs pins s σ H _ us Q I r ⟨_, rfl, q _ H (Sam.refl H) (.int _)⟩
  · cases g
end
end AF

set_option maxHeartbeats 4000000
namespace AF
open PySem PySem.Spec L2
open PyProof.Rows hiding St
/-! ## 14. methods -/
/-- what a method's call of one argument asks -/
def rM1 (g : PyData → PyData → Option PyData) : V → List V → Hp → VK → Prop := fun x xs H Q => ∃ y a b d, xs = [y] ∧ Fp H x a ∧ Fp H y b ∧ g a b = some d ∧ ∀ v H', Sam H H' → Fv H H' v d → Q v H'
theorem lim_16 : lim ≤ 16777216 := by decide
theorem strs_map {H : Hp} : ∀ ys : List Str, FpAll H (ys.map V.str) (ys.map PyData.str)
  | [] => .nil
  | y :: ys => .cons (.str y) (strs_map ys)
section
variable {X : Cx}
theorem me_join : MtR X "str.join" (rM1 joinD) := by
  intro pins s σ H x xs v us Q I rx rs h
  obtain ⟨y, a, b, d, rfl, fa, fb, g, q⟩ := h
  unfold joinD at g
  split at g
  · obtain ⟨ys, h1, h2⟩ := Option.bind_eq_some_iff.mp g
    split at h2
    · obtain rfl := Option.some.inj h2
      obtain rfl := fa.str_inv
      obtain ⟨p, zs, rfl, z, f⟩ := fb.lst_inv
      obtain rfl := strs_fp f h1
      exact mt_join pins s σ H _ _ v us Q I rx rs ⟨_, p, ys, rfl, rfl, .inl z.sq, Nat.le_trans (by assumption) lim_16, q _ H (Sam.refl H) (.str _)⟩
    · cases h2
  · obtain ⟨ys, h1, h2⟩ := Option.bind_eq_some_iff.mp g
    split at h2
    · obtain rfl := Option.some.inj h2
      obtain rfl := fa.str_inv
      obtain ⟨p, zs, rfl, z, f⟩ := fb.tup_inv
      obtain rfl := strs_fp f h1
      exact mt_join pins s σ H _ _ v us Q I rx rs ⟨_, p, ys, rfl, rfl, .inr (.of z), Nat.le_trans (by assumption) lim_16, q _ H (Sam.refl H) (.str _)⟩
    · cases h2
  · cases g
theorem me_strip : MtR X "str.strip" (rM1 stripD) := by
  intro pins s σ H x xs v us Q I rx rs h
  obtain ⟨y, a, b, d, rfl, fa, fb, g, q⟩ := h
  unfold stripD at g
  split at g
  · split at g
    · obtain rfl := Option.some.inj g
      obtain rfl := fa.str_inv
      obtain rfl := fb.str_inv
      exact mt_stripChars pins s σ H _ _ v us Q I rx rs ⟨_, _, rfl, rfl, Nat.le_trans (by assumption) lim_line, q _ H (Sam.refl H) (.str _)⟩
    · cases g
  · cases g
theorem me_split : MtR X "str.split" (rM1 splitD) := by
  intro pins s σ H x xs v us Q I rx rs h
  obtain ⟨y, a, b, d, rfl, fa, fb, g, q⟩ := h
  unfold splitD at g
  split at g
  · split at g
    · rename_i hh
      obtain rfl := Option.some.inj g
      obtain rfl := fa.str_inv
      obtain rfl := fb.str_inv
      refine mt_split pins s σ H _ _ v us Q I rx rs ⟨_, _, rfl, rfl, by rw [hh.1]; rfl, ?_, fun p hp => ?_⟩
      · have := hh.2
        rw [sizeLine_eq]
        unfold lim at this
        omega
      · exact q _ _ (Sam.new hp) ⟨p, _, rfl, hp, upd_same, strs_map _⟩
    · cases g
  · cases g
theorem find_first (p : PyData → Bool) : ∀ xs : List PyData, xs.any p = true → ∃ z, xs[xs.findIdx p]? = some z ∧ p z = true ∧ ∀ (m : Nat) (z' : PyData), m < xs.findIdx p → xs[m]? = some z' → p z' = false := by
  intro xs h
  have hl : xs.findIdx p < xs.length := by
    rw [List.findIdx_lt_length]
    obtain ⟨x, h1, h2⟩ := List.any_eq_true.mp h
    exact ⟨x, h1, h2⟩
  refine ⟨xs[xs.findIdx p], by simp [hl], List.findIdx_getElem, fun m z' hm e => ?_⟩
  have hm2 : m < xs.length := by omega
  have := List.not_of_lt_findIdx hm
  rw [List.getElem?_eq_getElem hm2] at e
  obtain rfl := Option.some.inj e
  simpa using this
theorem me_index (hu : X.A.units + 65 < cLine) : MtR X "list.index" (rM1 indexD) := by
  intro pins s σ H x xs v us Q I rx rs h
  obtain ⟨y, a, b, d, rfl, fa, fb, g, q⟩ := h
  unfold indexD at g
  split at g
  · rename_i ds
    split at g
    · rename_i hh
      rw [Bool.and_eq_true, Bool.and_eq_true] at hh
      obtain rfl := Option.some.inj g
      obtain ⟨z, h1, h2, h3⟩ := find_first (fun x => PyData.eqv x b) ds hh.2
      obtain ⟨p, zs, rfl, _, _⟩ := fa.lst_inv
      have c1 := sh_list hh.1.2
      exact mt_indexD hu pins s σ H _ _ v us Q I rx rs ⟨p, y, b, ds, _, z, rfl, rfl, Fp.dp _ fa (sh_lay 8 _ c1).1, Fp.dp b fb (sh_lay 7 b hh.1.1).1, sh_shaped c1, by
        unfold SeqAt.shaped
        obtain ⟨e1, e2⟩ := sh_lay 7 b hh.1.1
        rw [e1]
        simp
        omega, h1, h2, h3, q _ H (Sam.refl H) (.int _)⟩
    · cases g
  · cases g
theorem me_count (hu : X.A.units + 65 < cLine) : MtR X "list.count" (rM1 countD) := by
  intro pins s σ H x xs v us Q I rx rs h
  obtain ⟨y, a, b, d, rfl, fa, fb, g, q⟩ := h
  unfold countD at g
  split at g
  · rename_i ds
    split at g
    · rename_i hh
      rw [Bool.and_eq_true] at hh
      obtain rfl := Option.some.inj g
      obtain ⟨p, zs, rfl, z, f⟩ := fa.lst_inv
      cases rx
      obtain ⟨u, rfl, ru⟩ := vals1 rs
      obtain ⟨c1, c2⟩ := sh_lay 7 b hh.1
      obtain ⟨c3, c4⟩ := sh_all hh.2
      obtain ⟨bs, rb⟩ := fp_reads I fb hh.1 ru
      obtain ⟨_, its, n, rv, _, ho⟩ := lstF I z
      obtain ⟨as, ra⟩ := Dp.readsAll I ds zs its (FpAll.dp ds f c3) rv
      have e := SeqAt.readsAll_map ds its as c3 ra
      have room : X.A.units + 1 + min (PyData.depthAll ds) b.depth < cLine := by omega
      have each := SeqAt.items_eqAt (vs := its.toArray) (show ReadsAll s.heap its.toArray.toList ds as from ra) rb c3 c1 room
      refine call_meets PySem.F.slot_list_count ⟨_, ho, rfl⟩ PySem.F.entry_list_count (PySem.F.args_list_count_2 _ _) (SeqAt.list_countAt p its.toArray n none #[] u (fun w => PyData.eqv (SeqAt.readOf s.heap w) b)) ⟨ho, each, ?_⟩
      have ec : its.toArray.toList.countP (fun w => PyData.eqv (SeqAt.readOf s.heap w) b) = ds.countP fun x => PyData.eqv x b := by
        rw [← e, List.countP_map]
        rfl
      rw [ec]
      exact ⟨.int ((ds.countP fun x => PyData.eqv x b : Nat) : Int), H, I.tok _, ⟨_, rfl⟩, q _ H (Sam.refl H) (.int _)⟩
    · cases g
  · cases g
end
/-! ## 15. forms of syntax -/
def nstar : Expr → Bool
  | .Starred .. => false
  | _ => true
def nsl : Expr → Bool
  | .Slice .. => false
  | _ => true
def nsup : Expr → Bool
  | .Call (.Name _ _) [] [] _ => false
  | _ => true
theorem star1 {e : Expr} (h : nstar e = true) (es : List Expr) (env : PySem.Env) : starEach (e :: es) env = (false, eval e env) :: starEach es env := by
  cases e <;> first | rfl | cases h
theorem ix_plain {b : Expr} (h : nsl b = true) : PlainIx b := by
  intro o i
  cases b <;> first | rfl | cases h
theorem base_of {o : Expr} (h : nsup o = true) (n : Str) (env : PySem.Env) : attributeBase o n env (eval o env) = eval o env := by
  cases o with
  | Call f as ks pos =>
    cases f with
    | Name x p =>
      cases as with
      | nil =>
        cases ks with
        | nil => cases h
        | cons k ks => rfl
      | cons a as => rfl
    | _ => rfl
  | _ => rfl
/-- the trees of plain arguments -/
theorem star_plain (env : PySem.Env) : ∀ es : List Expr, es.all nstar = true → starEach es env = es.map fun e => (false, eval e env)
  | [], _ => rfl
  | e :: es, h => by
    rw [List.all_cons, Bool.and_eq_true] at h
    rw [star1 h.1, star_plain env es h.2]
    rfl
theorem back_plain (pos : Pos) (env : PySem.Env) (es : List Expr) (h : es.all nstar = true) : backTo pos (starEach es env) = es.map fun e => (false, eval e env) := by
  rw [star_plain env es h]
  unfold backTo
  rw [List.map_map]
  rfl
theorem plain_any (pos : Pos) (env : PySem.Env) (es : List Expr) (h : es.all nstar = true) : (backTo pos (starEach es env)).any (·.1) = false := by
  rw [back_plain pos env es h]
  simp
theorem plain_all (pos : Pos) (env : PySem.Env) (es : List Expr) (h : es.all nstar = true) : (backTo pos (starEach es env)).all (fun x => !x.1) = true := by
  rw [back_plain pos env es h]
  simp
end AF

set_option maxHeartbeats 4000000
namespace AF
open PySem PySem.Spec L2
open PyProof.Rows hiding St
/-! ## dict(pairs), d.update(d2), keys tuples -/
theorem KT.putAll {H : Hp} : ∀ {ms : List (List Key × V)} {ps : List (List Key × Addr × Value)} {kvs : List (List Key × V)} {xs : List (List Key × Addr × Value)}, KT H kvs xs → KT H ms ps → KT H (ms.foldl (fun acc p => putK acc p.1 p.2) kvs) (storedAllH xs ps)
  | _, _, _, _, r, .nil => r
  | _, _, _, _, r, .cons (a := m) (b := p) h t => by
    obtain ⟨e1, e2, e3⟩ := h
    have := KT.put r m.1 e2 e3
    rw [List.foldl_cons]
    unfold storedAllH
    rw [List.foldl_cons, ← e1]
    exact KT.putAll this t
theorem putAll_len : ∀ (ms kvs : List (List Key × V)), (ms.foldl (fun acc p => putK acc p.1 p.2) kvs).length ≤ kvs.length + ms.length
  | [], kvs => Nat.le_refl _
  | m :: ms, kvs => by
    have h1 := putAll_len ms (putK kvs m.1 m.2)
    have h2 := length_putK kvs m.1 m.2
    rw [List.foldl_cons, List.length_cons]
    omega
theorem FpKv.putAll {H : Hp} : ∀ {ms : List (List Key × V)} {ps : List (PyData × PyData)} {ks : List (List Key × V)} {kvs : List (PyData × PyData)}, FpKv H ks kvs → FpKv H ms ps →
    FpKv H (ms.foldl (fun acc p => putK acc p.1 p.2) ks) (ps.foldl (fun acc p => putD acc p.1 p.2) kvs)
  | _, [], _, _, r, h => by cases h; exact r
  | _, (p, d) :: ps, _, _, r, h => by
    cases h with
    | @cons k v _ _ _ f g =>
      have h2 := FpKv.put k f r
      rw [List.foldl_cons, List.foldl_cons]
      exact FpKv.putAll (ps := ps) h2 g
theorem KT.look {H : Hp} {ms : List (List Key × V)} {xs : List (List Key × Addr × Value)} (q : KT H ms xs) : ∀ (j : Nat) (x : List Key × Addr × Value), xs[j]? = some x → ∃ m, ms[j]? = some m ∧ H x.2.1 = some (.tup (x.1.map kV)) := by
  induction q with
  | nil => intro j x h; simp at h
  | @cons m y ms xs hq t ih =>
    intro j x h
    cases j with
    | zero => simp at h; subst h; exact ⟨m, rfl, by rw [← hq.1]; exact hq.2.1⟩
    | succ j => obtain ⟨m', h1, h2⟩ := ih j x (by simpa using h); exact ⟨m', by simpa using h1, h2⟩
section
variable {X : Cx} {pins : List (Addr × Obj)} {σ : L2.St} {H : Hp} {s : Shared}
/-- the pairs of a list, laid -/
theorem pairs_fp (I : Inv X pins σ H s) : ∀ {vs : List V} {us : List Value} {ds : List PyData} {ps : List (PyData × PyData)}, FpAll H vs ds → Vals vs us → pairsD ds = some ps → ps.all (fun p => isKey p.1) = true →
    ∃ (ms : List (List Key × V)) (xs : List (List Key × Addr × Value)) (ts : List Addr), FpKv H ms ps ∧ KT H ms xs ∧ us = ts.map Value.ref ∧ ts.length = xs.length ∧ ∀ (j : Nat) (x : List Key × Addr × Value), xs[j]? = some x → ∃ t, ts[j]? = some t ∧ IsTup s.heap t #[.ref x.2.1, x.2.2]
  | _, _, [], ps, f, r, e, _ => by
    cases f
    cases r
    cases e
    exact ⟨[], [], [], .nil, .nil, rfl, rfl, fun j x h => by simp at h⟩
  | _, _, d :: ds, ps, f, r, e, hk => by
    cases f with
    | cons f1 f2 =>
      cases r with
      | cons r1 r2 =>
        unfold pairsD at e
        split at e
        · cases ‹_ :: _ = []›
        · rename_i k v rest heq
          cases heq
          obtain ⟨ps', e', rfl⟩ := Option.map_eq_some_iff.mp e
          rw [List.all_cons, Bool.and_eq_true] at hk
          obtain ⟨ms, xs, ts, g1, g2, g3, g4, g5⟩ := pairs_fp I f2 r2 e' hk.2
          obtain ⟨p, ys, rfl, z, fa⟩ := f1.tup_inv
          cases fa with
          | cons fk fa =>
            cases fa with
            | cons fv fa =>
              cases fa
              obtain ⟨key, rfl⟩ := isKey_inv hk.1
              obtain ⟨b, rfl, eb⟩ := fk.key_inv
              cases r1
              obtain ⟨its, rv, ht, _⟩ := I.tuple (SqT.of z)
              obtain ⟨u, y, ei, ru, ry⟩ := vals2 rv
              subst ei
              cases ru
              refine ⟨(key, _) :: ms, (key, b, y) :: xs, p :: ts, .cons fv g1, .cons ⟨rfl, eb, ry⟩ g2, by rw [g3]; rfl, by simp [g4], fun j x hx => ?_⟩
              cases j with
              | zero =>
                simp at hx
                subst hx
                exact ⟨p, rfl, ht⟩
              | succ j =>
                obtain ⟨t, h1, h2⟩ := g5 j x (by simpa using hx)
                exact ⟨t, by simpa using h1, h2⟩
        · cases e
end
section
variable {X : Cx}
theorem cr_dict (hc : X.calm = true) (hu : X.A.units + 65 < cLine) : CallR X (.type "dict") (rC1 dictD) := by
  intro pins s σ H xs us Q I r h
  obtain ⟨x, a, d, rfl, f, g, q⟩ := h
  unfold dictD at g
  split at g
  · rename_i ds
    obtain ⟨ps, e1, e2⟩ := Option.bind_eq_some_iff.mp g
    split at e2
    · rename_i hk
      cases e2
      rw [Bool.and_eq_true, decide_eq_true_eq] at hk
      obtain ⟨p, ys, rfl, z, fa⟩ := f.lst_inv
      obtain ⟨u, rfl, ru⟩ := vals1 r
      cases ru
      obtain ⟨its, rv, pl, hz⟩ := I.list z.sq
      obtain ⟨ms, xs, ts, g1, g2, rfl, g4, g5⟩ := pairs_fp I fa rv e1 hk.1
      have lx : ms.length = xs.length := g2.length
      have hlen : ms.length ≤ lim := by rw [g1.length]; exact hk.2
      have key := fun (h : Heap) (hok : HOk X.prog X.w H h) (x : List Key × Addr × Value) (hx : x ∈ xs) => (show (tupleKind (mixKind X.prog X.w)).is h x.1 x.2.1 from by
        obtain ⟨j, hj⟩ := List.getElem?_of_mem hx
        obtain ⟨m, hm, e⟩ := KT.look g2 j x hj
        exact key_of hok e)
      refine call_dict_pairsH (knd := tupleKind (mixKind X.prog X.w)) (ps := xs) (PairArg.list p (ts.map Value.ref).toArray (fun j => ts.getD j 0) (xs.map fun x => (.ref x.2.1, x.2.2))) (I.ok.hd hc) (by show X.A.units + 1 + 1 < cLine; omega) ⟨pl, by simp [g4], fun j k v e => ?_⟩ ⟨by simp, fun i kk v e => ?_⟩ (fun h' hk' x hx => ?_) (by rw [List.length_map]; exact Nat.le_trans (by omega) lim_line) fun h' tk hd' hk' => ?_
      · obtain ⟨x, hx, e⟩ := Option.map_eq_some_iff.mp (by rw [List.getElem?_map] at e; exact e)
        cases e
        obtain ⟨t, h1, h2⟩ := g5 j x hx
        refine ⟨by simp [h1], .inl ?_⟩
        have : ts.getD j 0 = t := by simp [h1]
        show s.heap.IsTuple (ts.getD j 0) _
        rw [this]
        obtain ⟨o, ho, hc, n, hd⟩ := h2
        exact ⟨o, ho, hc, n, hd⟩
      · obtain ⟨x, hx, e⟩ := Option.map_eq_some_iff.mp (by rw [← List.getElem?_map]; exact e)
        cases e
        exact ⟨x.1, x.2.1, by rw [hx], rfl⟩
      · obtain ⟨j, hj⟩ := List.getElem?_of_mem hx
        have kk := key s.heap I.hok x hx
        refine tupleKind_stays.stays (fun b o vs n hb hd => ?_) kk
        refine hk' b o (Nat.ne_of_lt (Heap.lt_size hb)) (by simp) hb
      · have hm : (s.heap.objs.size == sysModules) = false := beq_eq_false_iff_ne.mpr (Nat.ne_of_gt I.big)
        have hl2 : (ms.foldl (fun acc p => putK acc p.1 p.2) []).length ≤ sizeLine := by
          refine Nat.le_trans (putAll_len ms []) (Nat.le_trans ?_ lim_line)
          simpa using hlen
        have hf : H s.heap.objs.size = none := I.hok.fresh (Nat.le_refl _)
        obtain ⟨o, es, ep, ho, h2, h3, h4, _, h5⟩ := hd'
        refine ⟨.ref s.heap.objs.size, upd H s.heap.objs.size (.dT (ms.foldl (fun acc p => putK acc p.1 p.2) [])), I.laid (t' := tk) (fun b o hb => hk' b o (by simp) hb) (Nat.le_refl _) ⟨hl2, hm, _, (KT.putAll (.nil : KT H [] []) g2).keeps fun c ys ec => ?_, o, es, ep, ho, h2, h3, h4, h5⟩, rfl, q _ _ (Sam.new hf) ⟨_, _, rfl, hf, upd_same, FpKv.mono (Ext.new hf) _ (FpKv.putAll .nil g1)⟩⟩
        rw [upd_ne (ne_of_none ec hf)]
        exact ec
    · cases e2
  · cases g
/-- d.update(d2) -/
theorem mt_update (hu : X.A.units + 65 < cLine) : MtR X "dict.update" (fun x vs H Q => ∃ a b ks ms, x = .ref a ∧ vs = [.ref b] ∧ H a = some (.dT ks) ∧ H b = some (.dT ms) ∧ a ≠ b ∧ ks.length + ms.length ≤ lim ∧
    (ks ≠ [] ∨ (ms.map fun m => tupleKeyHash (mixKind X.prog X.w) m.1).Nodup) ∧ Q .non (upd H a (.dT (ms.foldl (fun acc p => putK acc p.1 p.2) ks)))) := by
  intro pins s σ H x vs v us Q I rx rv h
  obtain ⟨a, b, ks, ms, rfl, rfl, ha, hb, hab, hl, hh, q⟩ := h
  cases rx
  obtain ⟨u, rfl, ru⟩ := rv.one
  cases ru
  obtain ⟨z1, hd1, xs, r1, d1⟩ := dt_of I.hok ha
  obtain ⟨z2, hd2, ps, r2, d2⟩ := dt_of I.hok hb
  have l1 : ks.length = xs.length := r1.length
  have l2 : ms.length = ps.length := r2.length
  have hs : xs.length + ps.length ≤ sizeLine := Nat.le_trans (by omega) lim_line
  have ehash : ∀ {ms : List (List Key × V)} {ps : List (List Key × Addr × Value)}, KT H ms ps → (ms.map fun m => tupleKeyHash (mixKind X.prog X.w) m.1) = ps.map fun x => (tupleKind (mixKind X.prog X.w)).hash x.1 := by
    intro ms ps r
    induction r with
    | nil => rfl
    | cons h t ih => rw [List.map_cons, List.map_cons, ih, h.1]; rfl
  refine call_update_dictH (knd := tupleKind (mixKind X.prog X.w)) (by show X.A.units + 1 < cLine; omega) hab hd2 d1 d2 ?_ hs fun h' e1 e2 sm => ?_
  · rcases hh with hh | hh
    · left
      intro z
      subst z
      cases r1
      exact hh rfl
    · right
      refine ⟨fun x hx => ?_, by rw [← ehash r2]; exact hh⟩
      obtain ⟨o, es, ep, ho, _, _, _, his, _⟩ := d2
      exact tupleKind_stays.tuple (his x hx)
  · obtain ⟨o, es, ep, ho, h2, h3, h4, _, h5⟩ := e1
    refine ⟨.non, _, d_write (t' := s.toks) (ob := .dT (ms.foldl (fun acc p => putK acc p.1 p.2) ks)) I (by rw [ha]; exact True.intro) sm ⟨o, ho⟩ ⟨Nat.le_trans (putAll_len ms ks) (Nat.le_trans hl lim_line), hd1, _, (KT.putAll r1 r2).keeps fun c ys ec => ?_, o, es, ep, ho, h2, h3, h4, h5⟩, rfl, q⟩
    rw [upd_ne (ne_of ec ha (fun z => nomatch z))]
    exact ec
end
end AF

set_option maxHeartbeats 4000000
namespace AF
open PySem PySem.Spec L2
open PyProof.Rows hiding St
/-! ## 16. the static side: what is checked of the text -/
structure Gs where
  fns : List (Str × Nat × List Str)
  frees : List Str
  cons : List (Str × PyData)
  excs : List Str
  tts : List (Str × List (List Int))
  tss : List (Str × List Str)
structure Sx where
  g : Gs
  N : List Str
  sc : PySem.Scope
  raw : Option PySem.Scope
/-- the promise of a def -/
def spF (K : PySem.W.Frag) (mg : Str → Option Value) (r : List S → R PyData) : Sp := fun vs H Q E => ∃ args fp, Rep K (vs.map some) H args (vs.map some) fp ∧ match r args with
  | .ok d ρo => ∀ v H' fp', Rep K (vs.map some) H' ρo (vs.map some) fp' → Fp H' v d → Stp H fp H' fp' → Q v H'
  | .ex n f ρo => ∀ cls dd H' fp', Rep K (vs.map some) H' ρo (vs.map some) fp' → ExcIs mg n f cls dd H' → Stp H fp H' fp' → E cls dd H'
  | .st => False
structure OkX (q : Sx) (cf : CallF) (c : Ct) (X : Cx) : Prop where
  N : X.N = q.N
  sc : X.env.scope = q.sc
  nd : X.N.Nodup
  calm : X.calm = true
  hu : X.A.units + 65 < cLine
  K : X.K = c.K
  mg : X.mg = c.mg
  free : ∀ x ∈ q.g.frees, X.mg x = none
  con : ∀ p ∈ q.g.cons, ∃ v u, X.mg p.1 = some u ∧ RelV v u ∧ ∀ H, Fp H v p.2
  tt : ∀ p ∈ q.g.tts, ∃ (a : Addr) (bs : List Addr), X.mg p.1 = some (.ref a) ∧ (∀ H, SqT X.K H a (bs.map V.ref)) ∧ bs.length = p.2.length ∧ ∀ (i : Nat) b row, bs[i]? = some b → p.2[i]? = some row → ∀ H, SqT X.K H b (row.map V.int)
  ts : ∀ p ∈ q.g.tss, ∃ a, X.mg p.1 = some (.ref a) ∧ ∀ H, SqT X.K H a (p.2.map V.str)
  fn : ∀ p ∈ q.g.fns, ∃ k f fd, X.mg p.1 = some (.ref f) ∧ PySem.W.keepIn X.K (.ref f) = true ∧ Room k X.A ∧ FnOk X.prog X.w X.K X.mg X.base (CX X.prog X.w) k f fd p.2.2 (spF X.K X.mg (cf p.2.1)) ∧ Binds X.K fd p.2.2 []
  pass : ∀ σ, PassesAt (CX X.prog X.w) X σ (WE c.W σ)
  own : PassesOwn (model X.prog X.w) X.A X.env X.xe
  tk : Takes X c.W
  exc : ∀ x ∈ q.g.excs, ∃ C, X.mg x = some (.ref C) ∧ PySem.W.excIn X.K C [.type "ValueError", .type "Exception", .type "BaseException", .type "object"] "ValueError.__new__" = true ∧ PySem.W.keepIn X.K (.ref C) = true ∧
    PySem.W.subIn X.K (.ref C) (.type "BaseException") = some true ∧ PySem.W.typeIn X.K (.ref C) = some (.type "type")
  fnb : match q.raw with
    | none => ∀ x, X.fn x = true
    | some s => ∀ x, X.fn x = (s.names.lookup x == some NameKind.cell)
def nmD (x : Str) : Bool := (x == Str.ofString "__debug__")
def nmC (x : Str) : Bool := (x == Str.ofString "__classdict__")
def visB (sc : PySem.Scope) (x : Str) : Bool :=
  match sc.names.lookup x with
  | some .local => true
  | some .cell => true
  | some .free => true
  | _ => false
def varOk (q : Sx) (i : Nat) (x : Str) : Bool := (q.N[i]? == some x) && visB q.sc x && !nmD x && !nmC x
def gloB (sc : PySem.Scope) (x : Str) : Bool :=
  match sc.names.lookup x with
  | some .globalImplicit => true
  | _ => false
def gloOk (q : Sx) (x : Str) : Bool := gloB q.sc x && !nmD x
/-- a name of the language itself -/
def freeOk (q : Sx) (x : Str) (n : String) : Bool := gloOk q x && (x == Str.ofString n) && q.g.frees.any (· == x)
theorem visB_ok {sc : PySem.Scope} {x : Str} (h : visB sc x = true) : Vis sc x := by
  unfold visB at h
  split at h <;> first | cases h | skip
  · exact .inl (by assumption)
  · exact .inr (.inl (by assumption))
  · exact .inr (.inr (by assumption))
theorem gloB_ok {sc : PySem.Scope} {x : Str} (h : gloB sc x = true) : sc.names.lookup x = some .globalImplicit := by
  unfold gloB at h
  split at h
  · assumption
  · cases h
section
variable {q : Sx} {cf : CallF} {c : Ct} {X : Cx}
theorem OkX.vis (k : OkX q cf c X) {x : Str} (h : visB q.sc x = true) : Vis X.env.scope x := by rw [k.sc]; exact visB_ok h
theorem OkX.gl (k : OkX q cf c X) {x : Str} (h : gloOk q x = true) : Gl X x ∧ (x == Str.ofString "__debug__") = false := by
  unfold gloOk nmD at h
  simp only [Bool.and_eq_true, Bool.not_eq_true'] at h
  refine ⟨?_, h.2⟩
  unfold Gl Env.kindOf
  rw [k.sc]
  exact gloB_ok h.1
theorem OkX.fr (k : OkX q cf c X) {x : Str} {n : String} (h : freeOk q x n = true) : Gl X x ∧ (x == Str.ofString "__debug__") = false ∧ X.mg x = none ∧ x = Str.ofString n := by
  unfold freeOk at h
  rw [Bool.and_eq_true, Bool.and_eq_true] at h
  obtain ⟨⟨a, b⟩, d⟩ := h
  obtain ⟨e, f⟩ := k.gl a
  rw [List.any_eq_true] at d
  obtain ⟨y, hy, e2⟩ := d
  obtain rfl := eq_of_beq e2
  exact ⟨e, f, k.free _ hy, eq_of_beq b⟩
theorem Rep.at {K : PySem.W.Frag} {σb : L2.St} {H : Hp} {ρ : En} {σ : L2.St} {fp : Nat → List Addr} (r : Rep K σb H ρ σ fp) {i : Nat} {d : PyData} (h : getI ρ i = some d) : ∃ v, σ[i]? = some (some v) ∧ Fp H v d := by
  unfold getI at h
  split at h
  · rename_i d' e
    obtain rfl := Option.some.inj h
    obtain ⟨_, v, e2, f⟩ := r.ok i _ e
    refine ⟨v, ?_, f⟩
    unfold at_ at e2
    cases z : σ[i]? with
    | none => rw [z] at e2; cases e2
    | some o => rw [z] at e2; rw [show o = some v from e2]
  · cases h
/-! ## 17. nodes -/
theorem nd_var (k : OkX q cf c X) {i : Nat} {x : Str} {p : Pos} (h : varOk q i x = true) (ρ : En) : PE X (.Name x p) (tE c ρ (R.of (getI ρ i) ρ)) := by
  unfold varOk nmD nmC at h
  simp only [Bool.and_eq_true, Bool.not_eq_true', beq_iff_eq] at h
  obtain ⟨⟨⟨h1, h2⟩, h3⟩, h4⟩ := h
  refine jE.imp (pv (X := X) i (by rw [k.N]; exact h1) (k.vis h2) (by simpa using h3) (by simpa using h4)) fun σ H Q h => ?_
  cases e : getI ρ i with
  | none => rw [e] at h; exact h.stF.elim
  | some d =>
    rw [e] at h
    obtain ⟨fp, a, b⟩ := h
    obtain ⟨v, e1, f⟩ := a.at e
    exact ⟨v, e1, b v H fp a f Stp.refl⟩
theorem nd_const {e : Expr} {v : V} {d : PyData} (h : PE X e (tC v)) (f : ∀ H, Fp H v d) (ρ : En) : PE X e (tE c ρ (.ok d ρ)) := jE.imp h fun σ H Q h => tR.fin h (Sam.refl H) (f H)
/-- what a fresh answer asks: from the rule's answer -/
theorem tF.fin {ρ : En} {σ : L2.St} {H : Hp} {Q : VK} {d : PyData} {v : V} {H1 : Hp} (h : tF c ρ (.ok d ρ) σ H Q) (s : Sam H H1) (f : Fv H H1 v d) : Q v H1 := by
  obtain ⟨fp, a, b⟩ := h
  refine b v H1 fp (a.same s) ?_ (Stp.same s)
  have nw : ∀ p, H p = none → NewAt H fp fp p := fun p hp => ⟨.inr hp, fun i hi => by
    obtain ⟨u, e, _⟩ := a.cell hi
    rw [hp] at e; cases e⟩
  cases d with
  | list ds =>
    obtain ⟨p, vs, rfl, hp, f⟩ := f
    exact ⟨p, vs, rfl, nw p hp, f⟩
  | dict ds =>
    obtain ⟨p, vs, rfl, hp, f⟩ := f
    exact ⟨p, vs, rfl, nw p hp, f⟩
  | none => exact f
  | bool _ => exact f
  | int _ => exact f
  | str _ => exact f
  | tuple _ => exact f
theorem tF.ofD {ρ : En} {σ : L2.St} {H : Hp} {Q : VK} {o : Option PyData} (h : tF c ρ (R.of o ρ) σ H Q) : ∃ d, o = some d ∧ ∀ v H1, Sam H H1 → Fv H H1 v d → Q v H1 := by
  cases o with
  | none => exact h.stF.elim
  | some d => exact ⟨d, rfl, fun v H1 s f => tF.fin h s f⟩
theorem tE.ofD {ρ : En} {σ : L2.St} {H : Hp} {Q : VK} {o : Option PyData} (h : tE c ρ (R.of o ρ) σ H Q) : ∃ d, o = some d ∧ ∀ v H1, Sam H H1 → Fp H1 v d → Q v H1 := by
  cases o with
  | none => exact h.stF.elim
  | some d => exact ⟨d, rfl, fun v H1 s f => tR.fin h s f⟩
section
variable {a b d : Expr} {fa fb fd : En → R PyData}
theorem nd_bin {op : Operator} {pos : Pos} (ha : ∀ ρ, PE X a (tE c ρ (fa ρ))) (hb : ∀ ρ, PE X b (tE c ρ (fb ρ))) (ρ : En) :
    PE X (.BinOp a op b pos) (tF c ρ ((fa ρ).bind fun x ρ1 => (fb ρ1).bind fun y ρ2 => R.of (binD op x y) ρ2)) :=
  jE.e2 ha hb (G := fun _ v w H Q => rD (binD op) v w H Q) (fun ta tb h1 h2 => pe_op (or_bin op) h1 h2)
    (fun x y ρ σ v w H Q f g h => by obtain ⟨d, e, n⟩ := tF.ofD h; exact ⟨x, y, d, f, g, e, n⟩) ρ
theorem nd_neg {pos : Pos} (ha : ∀ ρ, PE X a (tE c ρ (fa ρ))) (ρ : En) :
    PE X (.UnaryOp .USub a pos) (tE c ρ ((fa ρ).bind fun x ρ1 => match x with
    | .int i => .ok (.int (-i)) ρ1
    | _ => .st)) :=
  jE.e1 ha (G := fun _ v H Q => rU (fun i => V.int (-i)) v H Q) (fun ta h1 => pe_un un_neg h1)
    (fun x ρ σ v H Q f h => by
      cases x with
      | int i => obtain rfl := f.int_inv; exact ⟨i, rfl, tR.fin h (Sam.refl H) (.int _)⟩
      | _ => exact h.stF.elim) ρ
theorem nd_cmp {Z : TE → Prop} (j : Jd Z) {op : CmpOp} (ha : ∀ ρ, PE X a (tE c ρ (fa ρ))) (hb : ∀ ρ, PE X b (tE c ρ (fb ρ)))
    (ru : ∀ ta tb, PE X a ta → PE X b tb → Z (tOp (rB (cmpD op)) ta tb)) (ρ : En) :
    Z (tE c ρ ((fa ρ).bind fun x ρ1 => (fb ρ1).bind fun y ρ2 => R.of ((cmpD op x y).map .bool) ρ2)) :=
  j.e2 ha hb (G := fun _ v w H Q => rB (cmpD op) v w H Q) ru
    (fun x y ρ σ v w H Q f g h => by
      obtain ⟨d, e, n⟩ := tE.ofD h
      cases k : cmpD op x y with
      | none => rw [k] at e; cases e
      | some t =>
        rw [k] at e
        obtain rfl := Option.some.inj e
        exact ⟨x, y, t, f, g, k, n _ H (Sam.refl H) (.bl t)⟩) ρ
theorem nd_not {Z Z1 : TE → Prop} (j : Jd Z) (ha : ∀ ρ, Z1 (tE c ρ (fa ρ))) (ru : ∀ ta, Z1 ta → Z (tNotV ta)) (ρ : En) :
    Z (tE c ρ ((fa ρ).bind fun x ρ1 => match x with
    | .bool b => .ok (.bool (!b)) ρ1
    | _ => .st)) :=
  j.b1 (Z1 := Z1) (V1 := vE) (ha ρ) (G := fun _ v H Q => ∃ t, v = V.bl t ∧ Q (.bl (!t)) H) ru
    (fun x ρ _ σ v _ _ _ H Q f h => by
      cases x with
      | bool t => obtain rfl := (show Fp H v (.bool t) from f).bl_inv; exact ⟨t, rfl, tR.fin h (Sam.refl H) (.bl _)⟩
      | _ => exact h.stF.elim)
end
end
end AF

set_option maxHeartbeats 4000000
namespace AF
open PySem PySem.Spec L2
open PyProof.Rows hiding St
section
variable {q : Sx} {cf : CallF} {c : Ct} {X : Cx}
theorem tb_and (ta tb : TE) : tB (tAndV ta tb) = tAnd (tB ta) (tB tb) := by
  funext σ H Q
  unfold tB tAndV tAnd
  have e : (fun (x : V) (H1 : Hp) => ∃ k, x = V.bl k ∧ if k = true then tb σ H1 fun x H1 => ∃ k, x = V.bl k ∧ Q k H1 else ∃ k, V.bl false = V.bl k ∧ Q k H1) = fun x H1 => ∃ k, x = V.bl k ∧ if k = true then tb σ H1 fun x H1 => ∃ k, x = V.bl k ∧ Q k H1 else Q false H1 := by
    funext x H1
    apply propext
    constructor
    · rintro ⟨k, rfl, h⟩
      refine ⟨k, rfl, ?_⟩
      cases k with
      | true => exact h
      | false => obtain ⟨k, e, h⟩ := (by simpa using h : ∃ k, V.bl false = V.bl k ∧ Q k H1); cases e; exact h
    · rintro ⟨k, rfl, h⟩
      refine ⟨k, rfl, ?_⟩
      cases k with
      | true => exact h
      | false => exact ⟨false, rfl, by simpa using h⟩
  exact congrArg (ta σ H) e
theorem tb_or (ta tb : TE) : tB (tOrV ta tb) = tOr (tB ta) (tB tb) := by
  funext σ H Q
  unfold tB tOrV tOr
  have e : (fun (x : V) (H1 : Hp) => ∃ k, x = V.bl k ∧ if k = true then ∃ k, V.bl true = V.bl k ∧ Q k H1 else tb σ H1 fun x H1 => ∃ k, x = V.bl k ∧ Q k H1) = fun x H1 => ∃ k, x = V.bl k ∧ if k = true then Q true H1 else tb σ H1 fun x H1 => ∃ k, x = V.bl k ∧ Q k H1 := by
    funext x H1
    apply propext
    constructor
    · rintro ⟨k, rfl, h⟩
      refine ⟨k, rfl, ?_⟩
      cases k with
      | true => obtain ⟨k, e, h⟩ := (by simpa using h : ∃ k, V.bl true = V.bl k ∧ Q k H1); cases e; exact h
      | false => exact h
    · rintro ⟨k, rfl, h⟩
      refine ⟨k, rfl, ?_⟩
      cases k with
      | true => exact ⟨true, rfl, by simpa using h⟩
      | false => exact h
  exact congrArg (ta σ H) e
theorem tb_not (ta : TE) : tB (tNotV ta) = tNot (tB ta) := by
  funext σ H Q
  unfold tB tNotV tNot
  have e : (fun (x : V) (H1 : Hp) => ∃ k, x = V.bl k ∧ ∃ k', V.bl (!k) = V.bl k' ∧ Q k' H1) = fun x H1 => ∃ k, x = V.bl k ∧ Q (!k) H1 := by
    funext x H1
    apply propext
    constructor
    · rintro ⟨k, rfl, k', e, h⟩
      cases e
      exact ⟨k, rfl, h⟩
    · rintro ⟨k, rfl, h⟩
      exact ⟨k, rfl, _, rfl, h⟩
  exact congrArg (ta σ H) e
theorem nd_and {Z Z1 Z2 : TE → Prop} (j : Jd Z) (j2 : Jd Z2) {ra : R PyData} {fr : En → R PyData} {ρ : En} (ha : Z1 (tE c ρ ra)) (hr : ∀ ρ, Z2 (tE c ρ (fr ρ))) (ru : ∀ ta tb, Z1 ta → Z2 tb → Z (tAndV ta tb)) :
    Z (tE c ρ (ra.bind fun x ρ1 => match x with
    | .bool true => fr ρ1
    | .bool false => .ok (.bool false) ρ1
    | _ => .st)) := by
  cases ra with
  | st => exact j.imp j.no fun σ H Q h => h.stF
  | ex n f ρ1 => exact j.imp (ru _ _ ha j2.no) fun σ H Q h => tR.ex h
  | ok x ρ1 =>
    cases x with
    | bool b =>
      cases b with
      | true => exact j.imp (ru _ _ ha (hr ρ1)) fun σ H Q h => tR.go h fun _ v H1 _ f _ h1 => ⟨true, f.bl_inv, by simpa using h1⟩
      | false => exact j.imp (ru _ _ ha j2.no) fun σ H Q h => tR.go h fun _ v H1 _ f _ h1 => ⟨false, f.bl_inv, by simpa using tR.fin h1 (Sam.refl H1) (.bl false)⟩
    | _ => exact j.imp j.no fun σ H Q h => h.stF
theorem nd_or {Z Z1 Z2 : TE → Prop} (j : Jd Z) (j2 : Jd Z2) {ra : R PyData} {fr : En → R PyData} {ρ : En} (ha : Z1 (tE c ρ ra)) (hr : ∀ ρ, Z2 (tE c ρ (fr ρ))) (ru : ∀ ta tb, Z1 ta → Z2 tb → Z (tOrV ta tb)) :
    Z (tE c ρ (ra.bind fun x ρ1 => match x with
    | .bool false => fr ρ1
    | .bool true => .ok (.bool true) ρ1
    | _ => .st)) := by
  cases ra with
  | st => exact j.imp j.no fun σ H Q h => h.stF
  | ex n f ρ1 => exact j.imp (ru _ _ ha j2.no) fun σ H Q h => tR.ex h
  | ok x ρ1 =>
    cases x with
    | bool b =>
      cases b with
      | false => exact j.imp (ru _ _ ha (hr ρ1)) fun σ H Q h => tR.go h fun _ v H1 _ f _ h1 => ⟨false, f.bl_inv, by simpa using h1⟩
      | true => exact j.imp (ru _ _ ha j2.no) fun σ H Q h => tR.go h fun _ v H1 _ f _ h1 => ⟨true, f.bl_inv, by simpa using tR.fin h1 (Sam.refl H1) (.bl true)⟩
    | _ => exact j.imp j.no fun σ H Q h => h.stF
/-- one of two, by a test -/
theorem nd_ite {β α : Type} {Z : (L2.St → Hp → (β → Hp → Prop) → Prop) → Prop} {Za Zb : (L2.St → Hp → (β → Hp → Prop) → Prop) → Prop} {Z1 : TE → Prop} (j : Jd Z) (ja : Jd Za) (jb : Jd Zb) {V1 : Vp α β} {rc : R PyData} {fa fb : En → R α} {ρ : En} (hc : Z1 (tE c ρ rc))
    (ha : ∀ ρ, Za (tR V1 c ρ (fa ρ))) (hb : ∀ ρ, Zb (tR V1 c ρ (fb ρ))) (ru : ∀ tc ta tb, Z1 tc → Za ta → Zb tb → Z (fun σ H Q => tc σ H fun x H1 => ∃ k, x = V.bl k ∧ if k = true then ta σ H1 Q else tb σ H1 Q)) :
    Z (tR V1 c ρ (rc.bind fun x ρ1 => match x with
    | .bool true => fa ρ1
    | .bool false => fb ρ1
    | _ => .st)) := by
  cases rc with
  | st => exact j.imp j.no fun σ H Q h => h.stF
  | ex n f ρ1 => exact j.imp (ru _ _ _ hc ja.no jb.no) fun σ H Q h => tR.ex h
  | ok x ρ1 =>
    cases x with
    | bool b =>
      cases b with
      | true => exact j.imp (ru _ _ _ hc (ha ρ1) jb.no) fun σ H Q h => tR.go h fun _ v H1 _ f _ h1 => ⟨true, f.bl_inv, by simpa using h1⟩
      | false => exact j.imp (ru _ _ _ hc ja.no (hb ρ1)) fun σ H Q h => tR.go h fun _ v H1 _ f _ h1 => ⟨false, f.bl_inv, by simpa using h1⟩
    | _ => exact j.imp j.no fun σ H Q h => h.stF
section
variable {a b d : Expr} {fa fb fd : En → R PyData} {es : List Expr} {fs : En → R (List PyData)}
theorem nd_nil (ρ : En) : PA X [] (tR vA c ρ (.ok [] ρ)) := jA.imp pa_nil fun σ H Q h => tR.finB h fun _ _ => .nil
theorem nd_cons (hs : nstar a = true) (ha : ∀ ρ, PE X a (tE c ρ (fa ρ))) (hr : ∀ ρ, PA X es (tR vA c ρ (fs ρ))) (ρ : En) :
    PA X (a :: es) (tR vA c ρ ((fa ρ).bind fun x ρ1 => (fs ρ1).bind fun xs ρ2 => .ok (x :: xs) ρ2)) := by
  have ha := ha ρ
  generalize fa ρ = ra at ha ⊢
  have st := star1 hs es X.env
  cases ra with
  | st => exact jA.imp jA.no fun σ H Q h => h.stF
  | ex n f ρ1 => exact jA.imp (pa_cons ha jA.no st) fun σ H Q h => tR.ex h
  | ok x ρ1 =>
    refine jA.imp (pa_cons ha (hr ρ1) st) fun σ H Q h => tR.go h fun fp v H1 fp1 fv _ h1 => ?_
    rw [R.bind_ok] at h1
    generalize fs ρ1 = rb at h1 ⊢
    cases rb with
    | st => exact h1.stF.elim
    | ex n f ρ2 => exact tR.ex h1
    | ok y ρ2 => exact tR.go h1 fun _ w H2 _ fw e2 h2 => tR.finB h2 fun _ _ => .cons (Fp.mono e2 _ fv) fw
theorem nd_tup {pos : Pos} {n : Nat} (hs : ∀ ρ, PA X es (tR vA c ρ (fs ρ))) (hl : es.length ≤ lim) (ρ : En) (hfs : ∀ ρ xs ρ1, fs ρ = .ok xs ρ1 → xs.length = es.length) :
    PE X (.Tuple es n pos) (tE c ρ ((fs ρ).bind fun xs ρ1 => .ok (.tuple xs) ρ1)) :=
  jE.b1 (G := fun _ xs H1 Q => xs.length ≤ sizeLine ∧ ∀ p, H1 p = none → Q (.ref p) (upd H1 p (.tup xs))) (hs ρ) (fun ta h => pe_tup h) fun xs ρ1 e σ vs H0 fp fp1 H Q f h => by
    have f : FpAll H vs xs := f
    refine ⟨by rw [f.length, hfs ρ xs ρ1 e]; exact Nat.le_trans hl lim_line, fun p hp => ?_⟩
    exact tR.fin h (Sam.new hp) (.tup upd_same (FpAll.mono (Ext.new hp) _ f))
theorem nd_lst {pos : Pos} (hs : ∀ ρ, PA X es (tR vA c ρ (fs ρ))) (hl : es.length ≤ lim) (ρ : En) (hfs : ∀ ρ xs ρ1, fs ρ = .ok xs ρ1 → xs.length = es.length) :
    PE X (.List es pos) (tF c ρ ((fs ρ).bind fun xs ρ1 => .ok (.list xs) ρ1)) :=
  jE.b1 (G := fun _ xs H1 Q => xs.length ≤ sizeLine ∧ ∀ p, H1 p = none → Q (.ref p) (upd H1 p (.lst xs))) (hs ρ) (fun ta h => pe_lst h) fun xs ρ1 e σ vs H0 fp fp1 H Q f h => by
    have f : FpAll H vs xs := f
    refine ⟨by rw [f.length, hfs ρ xs ρ1 e]; exact Nat.le_trans hl lim_line, fun p hp => ?_⟩
    exact tF.fin h (Sam.new hp) ⟨p, _, rfl, hp, upd_same, FpAll.mono (Ext.new hp) _ f⟩
theorem nd_ix (k : OkX q cf c X) {pos : Pos} (hi : nsl b = true) (ha : ∀ ρ, PE X a (tE c ρ (fa ρ))) (hb : ∀ ρ, PE X b (tE c ρ (fb ρ))) (ρ : En) :
    PE X (.Subscript a b pos) (tE c ρ ((fa ρ).bind fun x ρ1 => (fb ρ1).bind fun y ρ2 => R.of (itemD x y) ρ2)) := by
  by_cases hd : ∃ kvs ρ1, fa ρ = .ok (.dict kvs) ρ1
  · obtain ⟨kvs, ρ1, e⟩ := hd
    have ha := ha ρ
    rw [e] at ha ⊢
    refine jE.b1 ha (fun ta h => ?_) (G := fun σ v H1 Q => (tE c ρ1 (fb ρ1)) σ H1 fun y H2 => ∃ a u, v = .ref a ∧ DGet H2 a y (some u) ∧ Q u H2) fun x ρ2 e2 σ v H0 fp fp1 H Q f h => ?_
    · exact pe_dget (by have := k.hu; omega) h (hb ρ1) (ix_plain hi)
    · cases e2
      have f : Fp H v (.dict kvs) := f
      generalize fb ρ1 = rb at h ⊢
      cases rb with
      | st => exact h.stF.elim
      | ex n f ρ2 => exact tR.ex h
      | ok y ρ2 =>
        refine tR.go h fun _ w H2 _ fw e2 h2 => ?_
        obtain ⟨d, e3, n⟩ := tE.ofD h2
        have f2 := Fp.mono e2 _ f
        obtain ⟨a, u, e4, g, fu⟩ := item_dict f2 fw e3
        exact ⟨a, u, e4, g, n u H2 (Sam.refl H2) fu⟩
  · generalize e : fa ρ = ra
    have ha := ha ρ
    rw [e] at ha
    cases ra with
    | st => exact PE.st
    | ex n f ρ1 => exact jE.imp (pe_ix ix_item ha jE.no (ix_plain hi)) fun σ H Q h => tR.ex h
    | ok x ρ1 =>
      have nd : isDict x = false := by
        cases x with
        | dict kvs => exact absurd ⟨kvs, ρ1, e⟩ hd
        | _ => rfl
      refine jE.imp (pe_ix ix_item ha (hb ρ1) (ix_plain hi)) fun σ H Q h => tR.go h fun _ v H1 _ fv _ h1 => ?_
      rw [R.bind_ok] at h1
      generalize fb ρ1 = rb at h1 ⊢
      cases rb with
      | st => exact h1.stF.elim
      | ex n f ρ2 => exact tR.ex h1
      | ok y ρ2 =>
        refine tR.go h1 fun _ w H2 _ fw e2 h2 => ?_
        obtain ⟨d, e3, n⟩ := tE.ofD h2
        exact ⟨x, y, d, nd, Fp.mono e2 _ fv, fw, e3, fun u fu => n u H2 (Sam.refl H2) fu⟩
theorem nd_slT {pos p2 : Pos} (ha : ∀ ρ, PE X a (tE c ρ (fa ρ))) (hb : ∀ ρ, PE X b (tE c ρ (fb ρ))) (ρ : En) :
    PE X (.Subscript a (.Slice (some b) none none p2) pos) (tF c ρ ((fa ρ).bind fun x ρ1 => (fb ρ1).bind fun i ρ2 => match i with
    | .int i => R.of (sliceD (some i) none x) ρ2
    | _ => .st)) :=
  jE.e2 ha hb (G := fun _ v w H Q => ∃ i, w = .int i ∧ ∃ a d, Fp H v a ∧ sliceD (some i) none a = some d ∧ ∀ v H', Sam H H' → Fv H H' v d → Q v H') (fun ta tb h1 h2 => pe_slice sl_part h1 (po_some h2) po_none)
    (fun x y ρ σ v w H Q f g h => by
      cases y with
      | int i => obtain ⟨d, e, n⟩ := tF.ofD h; exact ⟨i, g.int_inv, x, d, f, e, n⟩
      | _ => exact h.stF.elim) ρ
theorem nd_slH {pos p2 : Pos} (ha : ∀ ρ, PE X a (tE c ρ (fa ρ))) (hb : ∀ ρ, PE X b (tE c ρ (fb ρ))) (ρ : En) :
    PE X (.Subscript a (.Slice none (some b) none p2) pos) (tF c ρ ((fa ρ).bind fun x ρ1 => (fb ρ1).bind fun i ρ2 => match i with
    | .int i => R.of (sliceD none (some i) x) ρ2
    | _ => .st)) :=
  jE.e2 ha hb (G := fun _ v w H Q => ∃ i, w = .int i ∧ ∃ a d, Fp H v a ∧ sliceD none (some i) a = some d ∧ ∀ v H', Sam H H' → Fv H H' v d → Q v H') (fun ta tb h1 h2 => pe_slice sl_part h1 po_none (po_some h2))
    (fun x y ρ σ v w H Q f g h => by
      cases y with
      | int i => obtain ⟨d, e, n⟩ := tF.ofD h; exact ⟨i, g.int_inv, x, d, f, e, n⟩
      | _ => exact h.stF.elim) ρ
theorem nd_slB {pos p2 : Pos} (ha : ∀ ρ, PE X a (tE c ρ (fa ρ))) (hb : ∀ ρ, PE X b (tE c ρ (fb ρ))) (hd : ∀ ρ, PE X d (tE c ρ (fd ρ))) (ρ : En) :
    PE X (.Subscript a (.Slice (some b) (some d) none p2) pos) (tF c ρ ((fa ρ).bind fun x ρ1 => (fb ρ1).bind fun i ρ2 => match i with
    | .int i => (fd ρ2).bind fun j ρ3 => match j with
      | .int j => R.of (sliceD (some i) (some j) x) ρ3
      | _ => .st
    | _ => .st)) := by
  have ha := ha ρ
  generalize fa ρ = ra at ha ⊢
  cases ra with
  | st => exact PE.st
  | ex n f ρ1 => exact jE.imp (pe_slice sl_part ha (po_some jE.no) (po_some jE.no)) fun σ H Q h => tR.ex h
  | ok x ρ1 =>
    have hb := hb ρ1
    rw [R.bind_ok]
    generalize fb ρ1 = rb at hb ⊢
    cases rb with
    | st => exact PE.st
    | ex n f ρ2 => exact jE.imp (pe_slice sl_part ha (po_some hb) (po_some jE.no)) fun σ H Q h => tR.go h fun _ v H1 _ fv _ h1 => tR.ex h1
    | ok y ρ2 =>
      rw [R.bind_ok]
      cases y with
      | int i =>
        refine jE.imp (pe_slice sl_part ha (po_some hb) (po_some (hd ρ2))) fun σ H Q h => tR.go h fun _ v H1 _ fv _ h1 => tR.go h1 fun _ w H2 _ fw e2 h2 => ⟨i, fw.int_inv, ?_⟩
        have h2 : tF c ρ2 ((fd ρ2).bind fun j ρ3 => match j with
          | .int j => R.of (sliceD (some i) (some j) x) ρ3
          | _ => .st) σ H2 Q := h2
        generalize fd ρ2 = rd at h2 ⊢
        cases rd with
        | st => exact h2.stF.elim
        | ex n f ρ3 => exact tR.ex h2
        | ok z ρ3 =>
          refine tR.go h2 fun _ u H3 _ fu e3 h3 => ?_
          rw [R.bind_ok] at h3
          cases z with
          | int j =>
            obtain ⟨d, e, n⟩ := tF.ofD h3
            exact ⟨j, fu.int_inv, x, d, Fp.mono e3 _ (Fp.mono e2 _ fv), e, n⟩
          | _ => exact h3.stF.elim
      | _ => exact PE.st
theorem atI_some {α : Type} {xs : List α} {i : Int} {x : α} (h : atI xs i = some x) : ∃ j, ixN xs.length i = some j ∧ xs[j]? = some x := by
  unfold atI at h
  cases e : ixN xs.length i with
  | none => rw [e] at h; cases h
  | some j => rw [e] at h; exact ⟨j, rfl, h⟩
theorem atI_of {α : Type} {xs : List α} {i : Int} {j : Nat} {x : α} (e : ixN xs.length i = some j) (h : xs[j]? = some x) : atI xs i = some x := by
  unfold atI
  rw [e]
  exact h
theorem nd_gix (k : OkX q cf c X) {y : Str} {d : List (List Int)} {sp sp2 p : Pos} (hg : gloOk q y = true) (hd : q.g.tts.any (fun z => z.1 == y && decide (z.2 = d)) = true) (ha' : nsl a = true) (hb' : nsl b = true)
    (ha : ∀ ρ, PE X a (tE c ρ (fa ρ))) (hb : ∀ ρ, PE X b (tE c ρ (fb ρ))) (ρ : En) :
    PE X (.Subscript (.Subscript (.Name y p) a sp) b sp2) (tE c ρ ((fa ρ).bind fun x ρ1 => (R.of (rowD d x) ρ1).bind fun r ρ2 => (fb ρ2).bind fun y ρ3 => R.of (colD r y) ρ3)) := by
  rw [List.any_eq_true] at hd
  obtain ⟨z, hz, e⟩ := hd
  rw [Bool.and_eq_true, beq_iff_eq, decide_eq_true_eq] at e
  obtain ⟨e1, e2⟩ := e
  obtain ⟨t, bs, m1, m2, m3, m4⟩ := k.tt z hz
  rw [e1] at m1
  rw [e2] at m3 m4
  obtain ⟨g1, g2⟩ := k.gl hg
  have ru : ∀ ta tb, PE X a ta → PE X b tb → PE X (.Subscript (.Subscript (.Name y p) a sp) b sp2) (tOp (rIxT X.K) (tOp (rIxT X.K) (tC (.ref t)) ta) tb) := fun ta tb h1 h2 =>
    pe_ix ix_tup (pe_ix ix_tup (pe_glob g1 m1 (v := .ref t) rfl g2) h1 (ix_plain ha')) h2 (ix_plain hb')
  have ha := ha ρ
  generalize fa ρ = ra at ha ⊢
  cases ra with
  | st => exact PE.st
  | ex n f ρ1 => exact jE.imp (ru _ _ ha jE.no) fun σ H Q h => tR.ex h
  | ok x ρ1 =>
    rw [R.bind_ok]
    cases er : rowD d x with
    | none => exact PE.st
    | some row =>
      rw [R.of_some, R.bind_ok]
      have hb := hb ρ1
      refine jE.imp (ru _ _ ha hb) fun σ H Q h => tR.go h fun _ v H1 _ fv _ h1 => ?_
      unfold rowD at er
      split at er
      · rename_i i
        obtain rfl := fv.int_inv
        obtain ⟨j, ej, ex⟩ := atI_some er
        have hj : j < bs.length := by rw [m3]; exact (List.getElem?_eq_some_iff.mp ex).1
        refine ⟨t, bs.map V.ref, i, .ref bs[j], rfl, rfl, m2 H1, atI_of (j := j) (by rw [List.length_map, m3]; exact ej) (by simp [hj]), ?_⟩
        show tE c ρ1 (fb ρ1) σ H1 _
        generalize fb ρ1 = rb at h1 ⊢
        cases rb with
        | st => exact h1.stF.elim
        | ex n f ρ2 => exact tR.ex h1
        | ok y ρ2 =>
          refine tR.go h1 fun _ w H2 _ fw e2 h2 => ?_
          obtain ⟨d', e3, n⟩ := tE.ofD h2
          unfold colD at e3
          split at e3
          · rename_i l
            obtain rfl := fw.int_inv
            obtain ⟨m, e4, rfl⟩ := Option.map_eq_some_iff.mp e3
            obtain ⟨j2, ej2, ex2⟩ := atI_some e4
            exact ⟨bs[j], row.map V.int, l, .int m, rfl, rfl, m4 j bs[j] row (by simp [hj]) ex H2, atI_of (j := j2) (by rw [List.length_map]; exact ej2) (by simp [ex2]), n _ H2 (Sam.refl H2) (.int m)⟩
          · cases e3
      · cases er
/-- in a tuple of texts of the module -/
theorem or_inT (hu : X.A.units + 65 < cLine) (neg : Bool) : OpR X (compareOp (if neg then .NotIn else .In)) (fun x y H Q => ∃ (s : Str) (t : Addr) (ds : List Str), x = .str s ∧ y = .ref t ∧ SqT X.K H t (ds.map V.str) ∧ sh 7 (.str s) = true ∧ ds.all (fun y => sh 7 (.str y)) = true ∧
    Q (.bl (if neg then !(ds.any fun y => PyData.eqv (.str y) (.str s)) else ds.any fun y => PyData.eqv (.str y) (.str s))) H) := by
  intro pins s σ H x y v u Q I rx ry h
  obtain ⟨z, t, ds, rfl, rfl, hq, hs, hd, q⟩ := h
  have dp : ∀ (H : Hp) (ds : List Str), DpAll X.K H (ds.map V.str) (ds.map PyData.str) := fun H ds => by
    induction ds with
    | nil => exact .nil
    | cons x xs ih => exact .cons (.str x) ih
  have hd2 : (ds.map PyData.str).all (sh 7) = true := by simpa [List.all_map] using hd
  obtain ⟨as, r1⟩ := Dp.reads I _ _ _ (Dp.str z) rx
  obtain ⟨bs, r2⟩ := Dp.reads I _ _ _ (Dp.tup hq (dp H ds)) ry
  obtain ⟨c1, c2⟩ := sh_lay 7 _ hs
  obtain ⟨c3, c4⟩ := sh_all hd2
  have hu2 : X.A.units + 1 + min (PyData.depthAll (ds.map PyData.str)) (PyData.str z).depth < cLine := by omega
  have e : (ds.map PyData.str).any (fun y => PyData.eqv y (.str z)) = ds.any fun y => PyData.eqv (.str y) (.str z) := by rw [List.any_map]; rfl
  cases neg with
  | true => exact SeqAt.notIn_tuple_reads r2 r1 c3 c1 hu2 (bool_end I (by rw [e]; exact q))
  | false => exact SeqAt.in_tuple_reads r2 r1 c3 c1 hu2 (bool_end I (by rw [e]; exact q))
theorem nd_gin {Z : TE → Prop} (j : Jd Z) (k : OkX q cf c X) {y : Str} {d : List Str} {neg : Bool} {p : Pos} (hg : gloOk q y = true) (hd : q.g.tss.any (fun z => z.1 == y && decide (z.2 = d)) = true) (ha : ∀ ρ, PE X a (tE c ρ (fa ρ)))
    (ru : ∀ ta tb, PE X a ta → PE X (.Name y p) tb → Z (tOp (fun x y H Q => ∃ (s : Str) (t : Addr) (ds : List Str), x = .str s ∧ y = .ref t ∧ SqT X.K H t (ds.map V.str) ∧ sh 7 (.str s) = true ∧ ds.all (fun y => sh 7 (.str y)) = true ∧
      Q (.bl (if neg then !(ds.any fun y => PyData.eqv (.str y) (.str s)) else ds.any fun y => PyData.eqv (.str y) (.str s))) H) ta tb)) (ρ : En) :
    Z (tE c ρ ((fa ρ).bind fun x ρ1 => R.of (tsD d neg x) ρ1)) := by
  rw [List.any_eq_true] at hd
  obtain ⟨z, hz, e⟩ := hd
  rw [Bool.and_eq_true, beq_iff_eq, decide_eq_true_eq] at e
  obtain ⟨e1, e2⟩ := e
  obtain ⟨t, m1, m2⟩ := k.ts z hz
  rw [e1] at m1
  rw [e2] at m2
  obtain ⟨g1, g2⟩ := k.gl hg
  refine j.e1 ha (fun ta h => ru _ _ h (pe_glob g1 m1 (v := .ref t) rfl g2)) (fun x ρ σ v H Q f h => ?_) ρ
  obtain ⟨d', e3, n⟩ := tE.ofD h
  unfold tsD at e3
  split at e3
  · rename_i s
    split at e3
    · rename_i hs
      rw [Bool.and_eq_true] at hs
      obtain rfl := Option.some.inj e3
      obtain rfl := f.str_inv
      exact ⟨s, t, d, rfl, rfl, m2 H, hs.1, hs.2, n _ H (Sam.refl H) (.bl _)⟩
    · cases e3
  · cases e3
end
end
end AF

set_option maxHeartbeats 4000000
namespace AF
open PySem PySem.Spec L2
open PyProof.Rows hiding St
section
variable {q : Sx} {cf : CallF} {c : Ct} {X : Cx} {a b d : Expr} {fa fb fd : En → R PyData} {es : List Expr} {fs : En → R (List PyData)}
theorem pa1 {ta : TE} (hs : nstar a = true) (h : PE X a ta) : PA X [a] (tCons ta tNil) := pa_cons h pa_nil (star1 hs [] X.env)
theorem pa2 {ta tb : TE} (hs : nstar a = true) (hs2 : nstar b = true) (h : PE X a ta) (h2 : PE X b tb) : PA X [a, b] (tCons ta (tCons tb tNil)) := pa_cons h (pa_cons h2 pa_nil (star1 hs2 [] X.env)) (star1 hs [b] X.env)
/-- a builtin of one place -/
theorem nd_callB (k : OkX q cf c X) {n id : String} {x : Str} {p pos : Pos} {g : PyData → Option PyData} (cr : CallR X (.builtin id) (rC1 g)) (hb : bootBuiltins (Str.ofString n) = some (.builtin id)) (hn : Str.ofString n ≠ Str.ofString "__name__")
    (hf : freeOk q x n = true) (hs : nstar a = true) (ha : ∀ ρ, PE X a (tE c ρ (fa ρ))) (ρ : En) : PE X (.Call (.Name x p) [a] [] pos) (tF c ρ ((fa ρ).bind fun x ρ1 => R.of (g x) ρ1)) := by
  obtain ⟨h1, h2, h3, rfl⟩ := k.fr hf
  exact jE.e1 ha (G := fun _ v H Q => rC1 g [v] H Q) (fun ta h => pe_callB cr h1 h3 hb (pa1 hs h) hn h2 (star1 hs [] X.env) rfl)
    (fun x ρ σ v H Q f h => by obtain ⟨d, e, n⟩ := tF.ofD h; exact ⟨v, x, d, rfl, f, e, n⟩) ρ
theorem nd_callT (k : OkX q cf c X) {n id : String} {x : Str} {p pos : Pos} {g : PyData → Option PyData} (cr : CallR X (.type id) (rC1 g)) (hb : bootBuiltins (Str.ofString n) = some (.type id)) (hn : Str.ofString n ≠ Str.ofString "__name__")
    (hf : freeOk q x n = true) (hs : nstar a = true) (ha : ∀ ρ, PE X a (tE c ρ (fa ρ))) (ρ : En) : PE X (.Call (.Name x p) [a] [] pos) (tF c ρ ((fa ρ).bind fun x ρ1 => R.of (g x) ρ1)) := by
  obtain ⟨h1, h2, h3, rfl⟩ := k.fr hf
  exact jE.e1 ha (G := fun _ v H Q => rC1 g [v] H Q) (fun ta h => pe_callTy cr h1 h3 hb (pa1 hs h) hn h2 (star1 hs [] X.env) rfl)
    (fun x ρ σ v H Q f h => by obtain ⟨d, e, n⟩ := tF.ofD h; exact ⟨v, x, d, rfl, f, e, n⟩) ρ
theorem nd_mm (k : OkX q cf c X) {mx : Bool} {x : Str} {p pos : Pos} (hf : freeOk q x (if mx then "max" else "min") = true) (hs : nstar a = true) (hs2 : nstar b = true)
    (ha : ∀ ρ, PE X a (tE c ρ (fa ρ))) (hb : ∀ ρ, PE X b (tE c ρ (fb ρ))) (ρ : En) :
    PE X (.Call (.Name x p) [a, b] [] pos) (tE c ρ ((fa ρ).bind fun x ρ1 => (fb ρ1).bind fun y ρ2 => R.of (mmD mx x y) ρ2)) := by
  have fin : ∀ (x y : PyData) (ρ : En) (σ : L2.St) (v w : V) (H : Hp) (Q : VK), Fp H v x → Fp H w y → tE c ρ (R.of (mmD mx x y) ρ) σ H Q → ∃ i j, [v, w] = [V.int i, V.int j] ∧ Q (V.int (if mx then (if j > i then j else i) else (if j < i then j else i))) H := by
    intro x y ρ σ v w H Q f g h
    obtain ⟨d, e, n⟩ := tE.ofD h
    unfold mmD at e
    split at e
    · obtain rfl := Option.some.inj e
      obtain rfl := f.int_inv; obtain rfl := g.int_inv
      exact ⟨_, _, rfl, n _ H (Sam.refl H) (.int _)⟩
    · cases e
  cases mx with
  | true =>
    obtain ⟨h1, h2, h3, rfl⟩ := k.fr hf
    exact jE.e2 ha hb (G := fun _ v w H Q => ∃ i j, [v, w] = [V.int i, V.int j] ∧ Q (V.int (if j > i then j else i)) H)
      (fun ta tb h h' => pe_callB (call_max2 k.calm) h1 h3 (by rfl) (pa2 hs hs2 h h') (by decide) h2 (star1 hs [b] X.env) (plain_any _ _ _ (by simp [hs2]))) (fun x y ρ σ v w H Q f g h => fin x y ρ σ v w H Q f g h) ρ
  | false =>
    obtain ⟨h1, h2, h3, rfl⟩ := k.fr hf
    exact jE.e2 ha hb (G := fun _ v w H Q => ∃ i j, [v, w] = [V.int i, V.int j] ∧ Q (V.int (if j < i then j else i)) H)
      (fun ta tb h h' => pe_callB (call_min2 k.calm) h1 h3 (by rfl) (pa2 hs hs2 h h') (by decide) h2 (star1 hs [b] X.env) (plain_any _ _ _ (by simp [hs2]))) (fun x y ρ σ v w H Q f g h => fin x y ρ σ v w H Q f g h) ρ
theorem isD_ty {K : PySem.W.Frag} {H : Hp} {v : V} {x : PyData} {t : Ty} {r : Bool} (f : Fp H v x) (h : isD t x = some r) : ∃ T, TyX K H v (.type T) ∧ kitB T t.nm = some r := by
  have z : ∀ (T : String) (t : Ty) (r : Bool), (match T, t with
    | "int", .int => some true
    | "bool", .int => some true
    | "bool", .bool => some true
    | "str", .str => some true
    | "list", .list => some true
    | "tuple", .tuple => some true
    | _, _ => some false) = some r → (T = "int" ∨ T = "bool" ∨ T = "str" ∨ T = "list" ∨ T = "tuple" ∨ T = "NoneType") → kitB T t.nm = some r := by
    intro T t r h hT
    rcases hT with rfl | rfl | rfl | rfl | rfl | rfl <;> cases t <;> (obtain rfl := Option.some.inj h; decide +kernel)
  cases x with
  | none => obtain rfl := f.non_inv; exact ⟨_, .base .non, z "NoneType" t r (by cases t <;> exact h) (by simp)⟩
  | bool b => obtain rfl := f.bl_inv; exact ⟨_, .base (.bl b), z "bool" t r (by cases t <;> exact h) (by simp)⟩
  | int b => obtain rfl := f.int_inv; exact ⟨_, .base (.int b), z "int" t r (by cases t <;> exact h) (by simp)⟩
  | str b => obtain rfl := f.str_inv; exact ⟨_, .base (.str b), z "str" t r (by cases t <;> exact h) (by simp)⟩
  | list b => obtain ⟨p, xs, rfl, ⟨o, e⟩, _⟩ := f.lst_inv; exact ⟨_, .base (.frz e), z "list" t r (by cases t <;> exact h) (by simp)⟩
  | tuple b => obtain ⟨p, xs, rfl, e, _⟩ := f.tup_inv; exact ⟨_, .base (.tup e), z "tuple" t r (by cases t <;> exact h) (by simp)⟩
  | dict b => cases t <;> cases h
theorem boot_ty (t : Ty) : bootBuiltins (Str.ofString t.nm) = some (.type t.nm) := by cases t <;> rfl
theorem nd_isi (k : OkX q cf c X) {t : Ty} {x y : Str} {p p2 pos : Pos} (hf : freeOk q x "isinstance" = true) (hy : freeOk q y t.nm = true) (hs : nstar a = true) (ha : ∀ ρ, PE X a (tE c ρ (fa ρ))) (ρ : En) :
    PE X (.Call (.Name x p) [a, .Name y p2] [] pos) (tE c ρ ((fa ρ).bind fun x ρ1 => R.of ((isD t x).map .bool) ρ1)) := by
  obtain ⟨h1, h2, h3, rfl⟩ := k.fr hf
  obtain ⟨g1, g2, g3, rfl⟩ := k.fr hy
  have pt : PE X (.Name (Str.ofString t.nm) p2) (tC (.ty t.nm)) := pe_bltn g1 g3 (boot_ty t) rfl (by cases t <;> decide) g2
  exact jE.e1 ha (G := fun _ v H Q => rIsi X.K [v, .ty t.nm] H Q) (fun ta h => pe_callB call_isi h1 h3 (by rfl) (pa2 hs rfl h pt) (by decide) h2 (star1 hs _ X.env) (plain_any _ _ _ rfl))
    (fun x ρ σ v H Q f h => by
      obtain ⟨d, e, n⟩ := tE.ofD h
      cases e2 : isD t x with
      | none => rw [e2] at e; cases e
      | some r =>
        rw [e2] at e
        obtain rfl := Option.some.inj e
        obtain ⟨T, ty, kb⟩ := isD_ty (K := X.K) f e2
        exact ⟨v, _, _, _, r, rfl, .ty _, ty, kit_ty kb, n _ H (Sam.refl H) (.bl r)⟩) ρ
/-! ### methods of one argument -/
theorem few1 {a : Expr} (hs : nstar a = true) (pos : Pos) (env : PySem.Env) : (((backTo pos (starEach [a] env)).all fun x => !x.1) && ((backToKw pos (keywordEach [] env)).all fun x => x.1.isSome) &&
    decide (([a].length + ([] : List Keyword).length + if ([] : List Keyword).isEmpty then 0 else 1) < 30)) = true := by
  rw [plain_all pos env [a] (by simp [hs])]
  rfl
theorem isd_fp {H : Hp} {v : V} {x : PyData} (f : Fp H v x) (h : isDict x = true) : ∃ p o ks kvs, v = .ref p ∧ x = .dict kvs ∧ H p = some (.frz o (.dT ks)) ∧ FpKv H ks kvs := by
  cases x with
  | dict kvs =>
    obtain ⟨p, o, ks, rfl, e, f⟩ := f.dic_inv
    exact ⟨p, o, ks, kvs, rfl, rfl, e, f⟩
  | _ => cases h
theorem dget_opt {H : Hp} {p : Addr} {o : Obj} {ks : List (List Key × V)} {kvs : List (PyData × PyData)} {w : V} {y : PyData} (e : H p = some (.frz o (.dT ks))) (f : FpKv H ks kvs) (fy : Fp H w y) (h : isKey y = true) :
    ∃ r, DGet H p w r ∧ ∀ z u, Fp H u z → Fp H (r.getD u) ((lookD kvs y).getD z) := by
  obtain ⟨k, rfl⟩ := isKey_inv h
  obtain ⟨b, rfl, eb⟩ := fy.key_inv
  refine ⟨_, dget_fp e eb, fun z u fu => ?_⟩
  rcases look_val k f with ⟨e1, e2⟩ | ⟨d, v, e1, e2, fv⟩
  · rw [e1, e2]; exact fu
  · rw [e1, e2]; exact fv
theorem nd_me (k : OkX q cf c X) {T id : String} {nm : Str} {m : Me} {apos cpos : Pos} (pl : PlainAttrs T) (sl : Slot T nm id) (ty : typeOf (.builtin id) = pure (.type "method_descriptor")) (mr : MtR X id (rM1 (meD m)))
    (hT : ∀ (H : Hp) (v : V) (x : PyData), Fp H v x → meT m x = true → tyV X.K T v H) (hs : nstar b = true) (hu : nsup a = true) (hl : (apos.endLine == cpos.line) = true)
    (ha : ∀ ρ, PE X a (tE c ρ (fa ρ))) (hb : ∀ ρ, PE X b (tE c ρ (fb ρ))) (ρ : En) :
    PE X (.Call (.Attribute a nm apos) [b] [] cpos) (tF c ρ ((fa ρ).bind fun x ρ1 => if meT m x then (fb ρ1).bind fun y ρ2 => R.of (meD m x y) ρ2 else .st)) := by
  have ru : ∀ to tb, PE X a to → PE X b tb → PE X (.Call (.Attribute a nm apos) [b] [] cpos) (tBM X.K T (rM1 (meD m)) to (tCons tb tNil)) := fun to tb h1 h2 =>
    pe_bm pl sl ty mr h1 (pa1 hs h2) (base_of hu nm X.env) (few1 hs cpos X.env) hl (star1 hs [] X.env) rfl
  have ha := ha ρ
  generalize fa ρ = ra at ha ⊢
  cases ra with
  | st => exact PE.st
  | ex n f ρ1 => exact jE.imp (ru _ _ ha jE.no) fun σ H Q h => tR.ex h
  | ok x ρ1 =>
    rw [R.bind_ok]
    cases hm : meT m x with
    | false => exact PE.st
    | true =>
      rw [if_pos rfl]
      refine jE.imp (ru _ _ ha (hb ρ1)) fun σ H Q h => tR.go h fun _ v H1 _ fv _ h1 => ⟨hT H1 v x fv hm, ?_⟩
      generalize fb ρ1 = rb at h1 ⊢
      cases rb with
      | st => exact h1.stF.elim
      | ex n f ρ2 => exact tR.ex h1
      | ok y ρ2 =>
        refine tR.go h1 fun _ w H2 _ fw e2 h2 => ?_
        obtain ⟨d, e, n⟩ := tF.ofD h2
        exact ⟨w, x, y, d, rfl, Fp.mono e2 _ fv, fw, e, n⟩
theorem nd_get1 (k : OkX q cf c X) {apos cpos : Pos} (hs : nstar b = true) (hu : nsup a = true) (hl : (apos.endLine == cpos.line) = true)
    (ha : ∀ ρ, PE X a (tE c ρ (fa ρ))) (hb : ∀ ρ, PE X b (tE c ρ (fb ρ))) (ρ : En) :
    PE X (.Call (.Attribute a (Str.ofString "get") apos) [b] [] cpos) (tE c ρ ((fa ρ).bind fun x ρ1 => if meT .get x then (fb ρ1).bind fun y ρ2 => R.of (meD .get x y) ρ2 else .st)) := by
  have ru : ∀ to tb, PE X a to → PE X b tb → PE X (.Call (.Attribute a (Str.ofString "get") apos) [b] [] cpos) (tDGet1 to tb) := fun to tb h1 h2 =>
    pe_dget1 (by have := k.hu; omega) h1 h2 ⟨base_of hu _ X.env, few1 hs cpos X.env, hl, back_plain cpos X.env [b] (by simp [hs])⟩
  have ha := ha ρ
  generalize fa ρ = ra at ha ⊢
  cases ra with
  | st => exact PE.st
  | ex n f ρ1 => exact jE.imp (ru _ _ ha jE.no) fun σ H Q h => tR.ex h
  | ok x ρ1 =>
    rw [R.bind_ok]
    cases hm : meT .get x with
    | false => exact PE.st
    | true =>
      rw [if_pos rfl]
      have hd : isDict x = true := by cases x <;> first | rfl | cases hm
      refine jE.imp (ru _ _ ha (hb ρ1)) fun σ H Q h => tR.go h fun _ v H1 _ fv _ h1 => ?_
      obtain ⟨p, o, ks, kvs, rfl, rfl, ep, fk⟩ := isd_fp fv hd
      refine ⟨p, rfl, .inr ⟨ks, .inr ⟨o, ep⟩⟩, ?_⟩
      generalize fb ρ1 = rb at h1 ⊢
      cases rb with
      | st => exact h1.stF.elim
      | ex n f ρ2 => exact tR.ex h1
      | ok y ρ2 =>
        refine tR.go h1 fun _ w H2 _ fw e2 h2 => ?_
        obtain ⟨d, e, n⟩ := tE.ofD h2
        have e : (if isKey y then some ((lookD kvs y).getD .none) else none) = some d := e
        split at e
        · rename_i hk
          obtain rfl := Option.some.inj e
          obtain ⟨r, g, fr⟩ := dget_opt (e2.frz _ _ _ ep) (FpKv.mono e2 _ fk) fw hk
          exact ⟨r, g, n _ H2 (Sam.refl H2) (fr .none .non .non)⟩
        · cases e
theorem few2 {a b : Expr} (hs : nstar a = true) (hs2 : nstar b = true) (pos : Pos) (env : PySem.Env) : (((backTo pos (starEach [a, b] env)).all fun x => !x.1) && ((backToKw pos (keywordEach [] env)).all fun x => x.1.isSome) &&
    decide (([a, b].length + ([] : List Keyword).length + if ([] : List Keyword).isEmpty then 0 else 1) < 30)) = true := by
  rw [plain_all pos env [a, b] (by simp [hs, hs2])]
  rfl
theorem nd_get2 (k : OkX q cf c X) {apos cpos : Pos} (hs : nstar b = true) (hs2 : nstar d = true) (hu : nsup a = true) (hl : (apos.endLine == cpos.line) = true)
    (ha : ∀ ρ, PE X a (tE c ρ (fa ρ))) (hb : ∀ ρ, PE X b (tE c ρ (fb ρ))) (hd : ∀ ρ, PE X d (tE c ρ (fd ρ))) (ρ : En) :
    PE X (.Call (.Attribute a (Str.ofString "get") apos) [b, d] [] cpos) (tE c ρ ((fa ρ).bind fun x ρ1 => if isDict x then (fb ρ1).bind fun y ρ2 => (fd ρ2).bind fun z ρ3 => R.of (get2D x y z) ρ3 else .st)) := by
  have ru : ∀ to tb td, PE X a to → PE X b tb → PE X d td → PE X (.Call (.Attribute a (Str.ofString "get") apos) [b, d] [] cpos) (tDGet2 to tb td) := fun to tb td h1 h2 h3 =>
    pe_dget2 (by have := k.hu; omega) h1 h2 h3 ⟨base_of hu _ X.env, few2 hs hs2 cpos X.env, hl, back_plain cpos X.env [b, d] (by simp [hs, hs2])⟩
  have ha := ha ρ
  generalize fa ρ = ra at ha ⊢
  cases ra with
  | st => exact PE.st
  | ex n f ρ1 => exact jE.imp (ru _ _ _ ha jE.no jE.no) fun σ H Q h => tR.ex h
  | ok x ρ1 =>
    rw [R.bind_ok]
    cases hm : isDict x with
    | false => exact PE.st
    | true =>
      rw [if_pos rfl]
      have hb := hb ρ1
      generalize fb ρ1 = rb at hb ⊢
      cases rb with
      | st => exact PE.st
      | ex n f ρ2 =>
        refine jE.imp (ru _ _ _ ha hb jE.no) fun σ H Q h => tR.go h fun _ v H1 _ fv _ h1 => ?_
        obtain ⟨p, o, ks, kvs, rfl, rfl, ep, fk⟩ := isd_fp fv hm
        exact ⟨p, rfl, .inr ⟨ks, .inr ⟨o, ep⟩⟩, tR.ex h1⟩
      | ok y ρ2 =>
        refine jE.imp (ru _ _ _ ha hb (hd ρ2)) fun σ H Q h => tR.go h fun _ v H1 _ fv _ h1 => ?_
        obtain ⟨p, o, ks, kvs, rfl, rfl, ep, fk⟩ := isd_fp fv hm
        refine ⟨p, rfl, .inr ⟨ks, .inr ⟨o, ep⟩⟩, tR.go h1 fun _ w H2 _ fw e2 h2 => ?_⟩
        rw [R.bind_ok] at h2
        generalize fd ρ2 = rd at h2 ⊢
        cases rd with
        | st => exact h2.stF.elim
        | ex n f ρ3 => exact tR.ex h2
        | ok z ρ3 =>
          refine tR.go h2 fun _ u H3 _ fu e3 h3 => ?_
          obtain ⟨d, e, n⟩ := tE.ofD h3
          have e : (if isKey y then some ((lookD kvs y).getD z) else none) = some d := e
          split at e
          · rename_i hk
            obtain rfl := Option.some.inj e
            have e23 := e2.trans e3
            obtain ⟨r, g, fr⟩ := dget_opt (e23.frz _ _ _ ep) (FpKv.mono e23 _ fk) (Fp.mono e3 _ fw) hk
            exact ⟨r, g, n _ H3 (Sam.refl H3) (fr z u fu)⟩
          · cases e
end
end AF

set_option maxHeartbeats 4000000
namespace AF
open PySem PySem.Spec L2
open PyProof.Rows hiding St
/-! ## 18. what is owned, and the script -/
theorem at_some {σ : L2.St} {i : Nat} {v : V} (h : at_ σ i = some v) : σ[i]? = some (some v) := by
  unfold at_ at h
  cases z : σ[i]? with
  | none => rw [z] at h; cases h
  | some o => rw [z] at h; rw [show o = some v from h]
theorem Rep.atM {K : PySem.W.Frag} {σb : L2.St} {H : Hp} {ρ : En} {σ : L2.St} {fp : Nat → List Addr} (r : Rep K σb H ρ σ fp) {i : Nat} {m : M} (h : getM ρ i = some m) : ∃ v, σ[i]? = some (some v) ∧ Ow H v (fp i) m := by
  unfold getM at h
  split at h
  · rename_i d' e
    obtain rfl := Option.some.inj h
    obtain ⟨v, e2, f⟩ := r.ok i _ e
    exact ⟨v, at_some e2, f⟩
  · rename_i d' e
    obtain rfl := Option.some.inj h
    obtain ⟨v, e2, _, f⟩ := r.ok i _ e
    exact ⟨v, at_some e2, f⟩
  · cases h
theorem Rep.atS {K : PySem.W.Frag} {σb : L2.St} {H : Hp} {ρ : En} {σ : L2.St} {fp : Nat → List Addr} (r : Rep K σb H ρ σ fp) {i : Nat} {ns : List Int} (h : getS ρ i = some ns) : ∃ a, σ[i]? = some (some (.ref a)) ∧ ScL K H a (ns.map V.int) := by
  unfold getS at h
  split at h
  · rename_i d' e
    obtain rfl := Option.some.inj h
    obtain ⟨_, v, e2, f⟩ := r.ok i _ e
    exact ⟨v, at_some e2, f⟩
  · cases h
section
variable {q : Sx} {cf : CallF} {c : Ct} {X : Cx} {a b d : Expr} {fa fb fd : En → R PyData} {es : List Expr} {fs : En → R (List PyData)}
theorem pv_of (k : OkX q cf c X) {i : Nat} {x : Str} {p : Pos} (h : varOk q i x = true) : PE X (.Name x p) (tVar i) := by
  unfold varOk nmD nmC at h
  simp only [Bool.and_eq_true, Bool.not_eq_true', beq_iff_eq] at h
  obtain ⟨⟨⟨h1, h2⟩, h3⟩, h4⟩ := h
  exact pv (X := X) i (by rw [k.N]; exact h1) (k.vis h2) (by simpa using h3) (by simpa using h4)
theorem nd_lenM (k : OkX q cf c X) {i : Nat} {x y : Str} {p p2 pos : Pos} (hv : varOk q i y = true) (hf : freeOk q x "len" = true) (ρ : En) :
    PE X (.Call (.Name x p) [.Name y p2] [] pos) (tE c ρ (R.of ((getM ρ i).bind fun m => match m with
    | .l xs => some (.int xs.length)
    | _ => none) ρ)) := by
  obtain ⟨h1, h2, h3, rfl⟩ := k.fr hf
  cases e : getM ρ i with
  | none => exact PE.st
  | some m =>
    cases m with
    | l xs =>
      refine jE.imp (pe_callB call_len_seq h1 h3 (by rfl) (pa1 rfl (pv_of k hv)) (by decide) h2 (star1 rfl [] X.env) rfl) fun σ H Q h => ?_
      obtain ⟨fp, r, z⟩ := h
      obtain ⟨v, e3, o⟩ := r.atM e
      obtain ⟨p, vs, rfl, _, ep, f⟩ := o
      refine ⟨_, e3, p, vs, rfl, .inl (SqL.of ep), ?_⟩
      rw [f.length]
      exact tR.fin ⟨fp, r, z⟩ (Sam.refl H) (.int _)
    | d xs => exact PE.st
    | ll xs => exact PE.st
    | dl xs => exact PE.st
/-- an owned list or dict, read -/
inductive Rp (H : Hp) : V → M → Prop
  | l {a : Addr} {vs : List V} {xs : List PyData} : H a = some (.lst vs) → FpAll H vs xs → Rp H (.ref a) (.l xs)
  | d {a : Addr} {ks : List (List Key × V)} {kvs : List (PyData × PyData)} : H a = some (.dT ks) → FpKv H ks kvs → Rp H (.ref a) (.d kvs)
theorem Ow.rp {H : Hp} {v : V} {fp : List Addr} {m : M} (h : Ow H v fp m) (hm : (∃ xs, m = .l xs) ∨ ∃ kvs, m = .d kvs) : Rp H v m := by
  rcases hm with ⟨xs, rfl⟩ | ⟨kvs, rfl⟩
  · obtain ⟨p, vs, rfl, _, ep, f⟩ := h; exact .l ep f
  · obtain ⟨p, vs, rfl, _, ep, f⟩ := h; exact .d ep f
theorem or_inM (hu : X.A.units + 65 < cLine) (neg : Bool) : OpR X (compareOp (if neg then .NotIn else .In)) (fun x y H Q => ∃ a m k, Fp H x a ∧ Rp H y m ∧ inM a m = some k ∧ Q (.bl (if neg then !k else k)) H) := by
  intro pins s σ H x y v u Q I rx ry h
  obtain ⟨a, m, k, fa, fb, g, q⟩ := h
  cases fb with
  | l ep f =>
    rename_i p vs xs
    have g : (if sh 7 a && xs.all (sh 7) then some (xs.any fun y => PyData.eqv y a) else none) = some k := g
    split at g
    · rename_i hs
      obtain rfl := Option.some.inj g
      rw [Bool.and_eq_true] at hs
      obtain ⟨as, r1⟩ := fp_reads I fa hs.1 rx
      obtain ⟨c1, c2⟩ := sh_lay 7 a hs.1
      obtain ⟨c3, c4⟩ := sh_all hs.2
      have hu2 : X.A.units + 1 + min (PyData.depthAll xs) a.depth < cLine := by omega
      have dp : Dp X.K H (.ref p) (.list xs) := .lst (SqL.of ep) (FpAll.dp xs f c3)
      obtain ⟨bs, r2⟩ := Dp.reads I _ _ _ dp ry
      cases neg with
      | true => exact SeqAt.notIn_list_reads r2 r1 c3 c1 hu2 (bool_end I q)
      | false => exact SeqAt.in_list_reads r2 r1 c3 c1 hu2 (bool_end I q)
    · cases g
  | d ep f =>
    rename_i p ks kvs
    have g : (if isKey a then some ((lookD kvs a).isSome) else none) = some k := g
    split at g
    · rename_i hk
      obtain rfl := Option.some.inj g
      obtain ⟨key, rfl⟩ := isKey_inv hk
      obtain ⟨c, rfl, hc⟩ := fa.key_inv
      obtain rfl : u = Value.ref p := ry
      have gt : DGet H p (.ref c) (valV ks key) := .inr ⟨ks, key, c, .inl ep, rfl, hc, rfl⟩
      have e : (lookD kvs (keysD key)).isSome = (valV ks key).isSome := by
        rcases look_val key f with ⟨e1, e2⟩ | ⟨_, _, e1, e2, _⟩ <;> simp [e1, e2]
      rw [e] at q
      cases neg with
      | true => exact d_notIn (by omega) I gt rx fun s' I' => bool_end I' q
      | false => exact d_in (by omega) I gt rx fun s' I' => bool_end I' q
    · cases g
theorem nd_inM {Z : TE → Prop} (j : Jd Z) (k : OkX q cf c X) {neg : Bool} {i : Nat} {y : Str} {p2 : Pos} (hv : varOk q i y = true) (ha : ∀ ρ, PE X a (tE c ρ (fa ρ)))
    (ru : ∀ ta tb, PE X a ta → PE X (.Name y p2) tb → Z (tOp (fun x y H Q => ∃ a m k, Fp H x a ∧ Rp H y m ∧ inM a m = some k ∧ Q (.bl (if neg then !k else k)) H) ta tb)) (ρ : En) :
    Z (tE c ρ ((fa ρ).bind fun x ρ1 => R.of (((getM ρ1 i).bind (inM x)).map fun b => .bool (if neg then !b else b)) ρ1)) :=
  j.e1 ha (G := fun σ v H Q => ∃ w, σ[i]? = some (some w) ∧ ∃ a m k, Fp H v a ∧ Rp H w m ∧ inM a m = some k ∧ Q (.bl (if neg then !k else k)) H) (fun ta h => ru _ _ h (pv_of k hv))
    (fun x ρ σ v H Q f h => by
      obtain ⟨d, e, n⟩ := tE.ofD h
      obtain ⟨t, et, rfl⟩ := Option.map_eq_some_iff.mp e
      obtain ⟨m, e1, e2⟩ := Option.bind_eq_some_iff.mp et
      obtain ⟨fp, r, _⟩ := h
      obtain ⟨w, e3, o⟩ := r.atM e1
      exact ⟨w, e3, x, m, t, f, o.rp (by cases m <;> first | exact .inl ⟨_, rfl⟩ | exact .inr ⟨_, rfl⟩ | cases e2), e2, n _ H (Sam.refl H) (.bl _)⟩) ρ
def eqB (neg : Bool) : CmpOp := if neg then .NotEq else .Eq
theorem or_eqD (hu : X.A.units + 65 < cLine) (neg : Bool) : OpR X (compareOp (eqB neg)) (fun x y H Q => ∃ a b, Dp X.K H x a ∧ Dp X.K H y b ∧ sh 8 a = true ∧ sh 8 b = true ∧ Q (.bl (if neg then !PyData.eqv a b else PyData.eqv a b)) H) := by
  intro pins s σ H x y v u Q I rx ry h
  obtain ⟨a, b, fa, fb, h1, h2, q⟩ := h
  cases neg with
  | false => exact op_eqD (by omega) pins s σ H x y v u Q I rx ry ⟨a, b, fa, fb, sh_shaped h1, sh_shaped h2, q⟩
  | true => exact op_neD (by omega) pins s σ H x y v u Q I rx ry ⟨a, b, fa, fb, sh_shaped h1, sh_shaped h2, q⟩
theorem eqv_nil (xs : List PyData) : PyData.eqv (.list xs) (.list []) = xs.isEmpty := by
  cases xs <;> simp [PyData.eqv, PyData.eqvAll]
/-- x == [], x != [], x owned -/
theorem nd_nilM {Z : TE → Prop} (j : Jd Z) (k : OkX q cf c X) {neg : Bool} {i : Nat} {y : Str} {p2 p3 : Pos} (hv : varOk q i y = true)
    (ru : ∀ ta tb, PE X (.Name y p2) ta → PE X (.List [] p3) tb → Z (tOp (fun x y H Q => ∃ a b, Dp X.K H x a ∧ Dp X.K H y b ∧ sh 8 a = true ∧ sh 8 b = true ∧ Q (.bl (if neg then !PyData.eqv a b else PyData.eqv a b)) H) ta tb)) (ρ : En) :
    Z (tE c ρ (R.of ((getM ρ i).bind fun m => match m with
    | .l xs => if xs.all (sh 7) then some (.bool (if neg then !xs.isEmpty else xs.isEmpty)) else none
    | _ => none) ρ)) := by
  refine j.imp (ru _ _ (pv_of k hv) (pe_lst pa_nil)) fun σ H Q h => ?_
  obtain ⟨d, e, n⟩ := tE.ofD h
  obtain ⟨m, e1, e2⟩ := Option.bind_eq_some_iff.mp e
  obtain ⟨fp, r, _⟩ := h
  obtain ⟨w, e3, o⟩ := r.atM e1
  cases m with
  | l xs =>
    have e2 : (if xs.all (sh 7) then some (PyData.bool (if neg then !xs.isEmpty else xs.isEmpty)) else none) = some d := e2
    split at e2
    · rename_i hs
      obtain rfl := Option.some.inj e2
      obtain ⟨p, vs, rfl, _, ep, f⟩ := o
      refine ⟨_, e3, by simp, fun p2 hp => ⟨.list xs, .list [], ?_, .lst (SqL.of upd_same) .nil, by rw [sh]; exact hs, rfl, ?_⟩⟩
      · exact .lst (SqL.of (by rw [upd_ne (ne_of_none ep hp)]; exact ep)) (FpAll.dp _ (FpAll.mono (Ext.new hp) _ f) (sh_all hs).1)
      · rw [eqv_nil]; exact n _ _ (Sam.new hp) (.bl _)
    · cases e2
  | d xs => cases e2
  | ll xs => cases e2
  | dl xs => cases e2
theorem nd_nilS {Z : TE → Prop} (j : Jd Z) (k : OkX q cf c X) {i : Nat} {y : Str} {p2 p3 : Pos} (hv : varOk q i y = true)
    (ru : ∀ ta tb, PE X (.Name y p2) ta → PE X (.List [] p3) tb → Z (tOp (fun x y H Q => ∃ a b, Dp X.K H x a ∧ Dp X.K H y b ∧ sh 8 a = true ∧ sh 8 b = true ∧ Q (.bl (if false then !PyData.eqv a b else PyData.eqv a b)) H) ta tb)) (ρ : En) :
    Z (tE c ρ (R.of ((getS ρ i).map fun ns => .bool ns.isEmpty) ρ)) := by
  refine j.imp (ru _ _ (pv_of k hv) (pe_lst pa_nil)) fun σ H Q h => ?_
  obtain ⟨d, e, n⟩ := tE.ofD h
  obtain ⟨ns, e1, rfl⟩ := Option.map_eq_some_iff.mp e
  obtain ⟨fp, r, _⟩ := h
  obtain ⟨w, e3, o⟩ := r.atS e1
  have f : ∀ (H : Hp) (ns : List Int), FpAll H (ns.map V.int) (ns.map PyData.int) := fun H ns => by
    induction ns with
    | nil => exact .nil
    | cons x xs ih => exact .cons (.int x) ih
  have hs : ∀ ns : List Int, (ns.map PyData.int).all (sh 7) = true := fun ns => by
    induction ns with
    | nil => rfl
    | cons x xs ih => simp [sh]
  refine ⟨_, e3, by simp, fun p2 hp => ⟨.list (ns.map .int), .list [], ?_, .lst (SqL.of upd_same) .nil, by rw [sh]; exact hs ns, rfl, ?_⟩⟩
  · rw [k.K]
    exact .lst (o.mono (Ext.new hp)).sq (FpAll.dp _ (f _ ns) (sh_all (hs ns)).1)
  · rw [eqv_nil]
    have : (ns.map PyData.int).isEmpty = ns.isEmpty := by cases ns <;> rfl
    rw [this]
    exact n _ _ (Sam.new hp) (.bl _)
theorem nd_lenS (k : OkX q cf c X) {i : Nat} {x y : Str} {p p2 pos : Pos} (hv : varOk q i y = true) (hf : freeOk q x "len" = true) (ρ : En) :
    PE X (.Call (.Name x p) [.Name y p2] [] pos) (tE c ρ (R.of ((getS ρ i).map fun ns => .int ns.length) ρ)) := by
  obtain ⟨h1, h2, h3, rfl⟩ := k.fr hf
  refine jE.imp (pe_callB call_len_seq h1 h3 (by rfl) (pa1 rfl (pv_of k hv)) (by decide) h2 (star1 rfl [] X.env) rfl) fun σ H Q h => ?_
  obtain ⟨d, e, n⟩ := tE.ofD h
  obtain ⟨ns, e1, rfl⟩ := Option.map_eq_some_iff.mp e
  obtain ⟨fp, r, _⟩ := h
  obtain ⟨w, e3, o⟩ := r.atS e1
  exact ⟨_, e3, w, _, rfl, .inl (by rw [k.K]; exact o.sq), n _ H (Sam.refl H) (by rw [List.length_map]; exact .int _)⟩
theorem atI_map {α β : Type} (g : α → β) (xs : List α) (i : Int) : atI (xs.map g) i = (atI xs i).map g := by
  unfold atI
  rw [List.length_map]
  cases ixN xs.length i with
  | none => rfl
  | some j => simp
theorem nd_ixS (k : OkX q cf c X) {i : Nat} {y : Str} {p2 pos : Pos} (hv : varOk q i y = true) (hi : nsl b = true) (hb : ∀ ρ, PE X b (tE c ρ (fb ρ))) (ρ : En) :
    PE X (.Subscript (.Name y p2) b pos) (tE c ρ (R.gd (getS ρ i) <| (fb ρ).bind fun y ρ1 => R.of ((getS ρ1 i).bind fun ns => itemD (.list (ns.map .int)) y) ρ1)) := by
  cases e : getS ρ i with
  | none => exact PE.st
  | some ns0 =>
    refine jE.imp (pe_ix ix_list (pv_of k hv) (hb ρ) (ix_plain hi)) fun σ H Q h => ?_
    have h : tE c ρ ((fb ρ).bind fun y ρ1 => R.of ((getS ρ1 i).bind fun ns => itemD (.list (ns.map .int)) y) ρ1) σ H Q := h
    obtain ⟨w, e3, o⟩ := h.choose_spec.1.atS e
    refine ⟨_, e3, ?_⟩
    generalize fb ρ = rb at h ⊢
    cases rb with
    | st => exact h.stF.elim
    | ex n f ρ1 => exact tR.ex h
    | ok y ρ1 =>
      refine tR.go h fun _ u H1 _ fu e1 h1 => ?_
      obtain ⟨d, ed, n⟩ := tE.ofD h1
      obtain ⟨ns, e4, e5⟩ := Option.bind_eq_some_iff.mp ed
      obtain ⟨w2, e6, o2⟩ := h1.choose_spec.1.atS e4
      rw [e3] at e6
      cases e6
      cases y with
      | int j =>
        obtain rfl := fu.int_inv
        have e5 : atI (ns.map PyData.int) j = some d := e5
        rw [atI_map] at e5
        obtain ⟨m, e7, rfl⟩ := Option.map_eq_some_iff.mp e5
        exact ⟨w, _, j, .int m, rfl, rfl, by rw [k.K]; exact o2.sq, by rw [atI_map, e7]; rfl, n _ H1 (Sam.refl H1) (.int m)⟩
      | _ => cases e5
theorem nd_ixM (k : OkX q cf c X) {i : Nat} {y : Str} {p2 pos : Pos} (hv : varOk q i y = true) (hi : nsl b = true) (hb : ∀ ρ, PE X b (tE c ρ (fb ρ))) (ρ : En) :
    PE X (.Subscript (.Name y p2) b pos) (tE c ρ (R.gd (getM ρ i) <| (fb ρ).bind fun y ρ1 => R.of ((getM ρ1 i).bind fun m => match m with
    | .l xs => itemD (.list xs) y
    | .d kvs => itemD (.dict kvs) y
    | _ => none) ρ1)) := by
  cases e : getM ρ i with
  | none => exact PE.st
  | some m0 =>
    by_cases hd : ∃ y ρ1 kvs, fb ρ = .ok y ρ1 ∧ getM ρ1 i = some (.d kvs)
    · obtain ⟨y, ρ1, kvs, e1, e2⟩ := hd
      have hb := hb ρ
      rw [e1] at hb ⊢
      refine jE.imp (pe_dget (by have := k.hu; omega) (pv_of k hv) hb (ix_plain hi)) fun σ H Q h => ?_
      obtain ⟨w, e3, o⟩ := h.choose_spec.1.atM e
      refine ⟨_, e3, tR.go h fun _ u H1 _ fu _ h1 => ?_⟩
      obtain ⟨d, ed, n⟩ := tE.ofD h1
      rw [e2] at ed
      have ed : (if isKey y then lookD kvs y else none) = some d := ed
      obtain ⟨w2, e6, o2⟩ := h1.choose_spec.1.atM e2
      rw [e3] at e6
      cases e6
      obtain ⟨p, ks, rfl, _, ep, f⟩ := o2
      split at ed
      · rename_i hk
        obtain ⟨key, rfl⟩ := isKey_inv hk
        obtain ⟨b, rfl, eb⟩ := fu.key_inv
        rcases look_val key f with ⟨z1, z2⟩ | ⟨d', v, z1, z2, fv⟩
        · rw [z1] at ed; cases ed
        · rw [z1] at ed
          cases ed
          exact ⟨p, v, rfl, .inr ⟨ks, key, b, .inl ep, rfl, eb, z2.symm⟩, n v H1 (Sam.refl H1) fv⟩
      · cases ed
    · have hb := hb ρ
      generalize eb : fb ρ = rb at hb ⊢
      refine jE.imp (pe_ix ix_list (pv_of k hv) hb (ix_plain hi)) fun σ H Q h => ?_
      have h : tE c ρ (rb.bind fun y ρ1 => R.of ((getM ρ1 i).bind fun m => match m with
        | .l xs => itemD (.list xs) y
        | .d kvs => itemD (.dict kvs) y
        | _ => none) ρ1) σ H Q := h
      obtain ⟨w, e3, o⟩ := h.choose_spec.1.atM e
      refine ⟨_, e3, ?_⟩
      cases rb with
      | st => exact h.stF.elim
      | ex n f ρ1 => exact tR.ex h
      | ok y ρ1 =>
        refine tR.go h fun _ u H1 _ fu e1 h1 => ?_
        obtain ⟨d, ed, n⟩ := tE.ofD h1
        obtain ⟨m, e4, e5⟩ := Option.bind_eq_some_iff.mp ed
        obtain ⟨w2, e6, o2⟩ := h1.choose_spec.1.atM e4
        rw [e3] at e6
        cases e6
        cases m with
        | l xs =>
          obtain ⟨p, vs, rfl, _, ep, f⟩ := o2
          cases y with
          | int j =>
            obtain rfl := fu.int_inv
            have e5 : atI xs j = some d := e5
            obtain ⟨v, e7, fv⟩ := atI_fp f e5
            exact ⟨p, vs, j, v, rfl, rfl, SqL.of ep, e7, n v H1 (Sam.refl H1) fv⟩
          | _ => cases e5
        | d kvs => exact absurd ⟨y, ρ1, kvs, eb, e4⟩ hd
        | ll xs => cases e5
        | dl xs => cases e5
theorem getD_eq {ρ : En} {i : Nat} {kvs : List (PyData × PyData)} (h : getD ρ i = some kvs) : getM ρ i = some (.d kvs) := by
  unfold getD at h
  unfold getM
  split at h
  · rename_i e; rw [e]; cases h; rfl
  · rename_i e; rw [e]; cases h; rfl
  · cases h
theorem nd_getM (k : OkX q cf c X) {i : Nat} {y : Str} {p2 apos cpos : Pos} (hv : varOk q i y = true) (hs : nstar a = true) (hs2 : nstar b = true) (hl : (apos.endLine == cpos.line) = true)
    (ha : ∀ ρ, PE X a (tE c ρ (fa ρ))) (hb : ∀ ρ, PE X b (tE c ρ (fb ρ))) (ρ : En) :
    PE X (.Call (.Attribute (.Name y p2) (Str.ofString "get") apos) [a, b] [] cpos) (tE c ρ (R.gd (getD ρ i) <| (fa ρ).bind fun x ρ1 => (fb ρ1).bind fun y ρ2 => R.of ((getM ρ2 i).bind fun m => match m with
    | .d kvs => get2D (.dict kvs) x y
    | _ => none) ρ2)) := by
  cases e0 : getD ρ i with
  | none => exact PE.st
  | some kvs0 =>
    have e := getD_eq e0
    have ru : ∀ tb td, PE X a tb → PE X b td → PE X (.Call (.Attribute (.Name y p2) (Str.ofString "get") apos) [a, b] [] cpos) (tDGet2 (tVar i) tb td) := fun tb td h2 h3 =>
      pe_dget2 (by have := k.hu; omega) (pv_of k hv) h2 h3 ⟨rfl, few2 hs hs2 cpos X.env, hl, back_plain cpos X.env [a, b] (by simp [hs, hs2])⟩
    have ha := ha ρ
    generalize fa ρ = ra at ha ⊢
    have st : ∀ {σ : L2.St} {H : Hp} {Q : VK} {r : R PyData}, tE c ρ r σ H Q → ∃ p ks, σ[i]? = some (some (.ref p)) ∧ H p = some (.dT ks) := by
      intro σ H Q r h
      obtain ⟨w, e3, o⟩ := h.choose_spec.1.atM e
      obtain ⟨p, ks, rfl, _, ep, f⟩ := o
      exact ⟨p, ks, e3, ep⟩
    cases ra with
    | st => exact PE.st
    | ex n f ρ1 =>
      refine jE.imp (ru _ _ ha jE.no) fun σ H Q h => ?_
      have h : tE c ρ (.ex n f ρ1) σ H Q := h
      obtain ⟨p, ks, e3, ep⟩ := st h
      exact ⟨_, e3, p, rfl, .inr ⟨ks, .inl ep⟩, tR.ex h⟩
    | ok x ρ1 =>
      have hb := hb ρ1
      show PE X _ (tE c ρ ((fb ρ1).bind _))
      generalize fb ρ1 = rb at hb ⊢
      cases rb with
      | st => exact PE.st
      | ex n f ρ2 =>
        refine jE.imp (ru _ _ ha hb) fun σ H Q h => ?_
        have h : tE c ρ (.ex n f ρ2) σ H Q := h
        obtain ⟨p, ks, e3, ep⟩ := st h
        exact ⟨_, e3, p, rfl, .inr ⟨ks, .inl ep⟩, tR.go h fun _ v H1 _ fv _ h1 => tR.ex h1⟩
      | ok y ρ2 =>
        refine jE.imp (ru _ _ ha hb) fun σ H Q h => ?_
        obtain ⟨p, ks, e3, ep⟩ := st h
        refine ⟨_, e3, p, rfl, .inr ⟨ks, .inl ep⟩, tR.go h fun _ v H1 _ fv _ h1 => tR.go h1 fun _ w H2 _ fw ex2 h2 => ?_⟩
        obtain ⟨d, ed, n⟩ := tE.ofD h2
        obtain ⟨m, e4, e5⟩ := Option.bind_eq_some_iff.mp ed
        obtain ⟨w2, e6, o2⟩ := h2.choose_spec.1.atM e4
        rw [e3] at e6
        cases e6
        cases m with
        | d kvs =>
          obtain ⟨p', ks', e7, _, ep', f⟩ := o2
          cases e7
          have e5 : (if isKey x then some ((lookD kvs x).getD y) else none) = some d := e5
          split at e5
          · rename_i hk
            obtain rfl := Option.some.inj e5
            obtain ⟨key, rfl⟩ := isKey_inv hk
            obtain ⟨b, rfl, eb⟩ := (Fp.mono ex2 _ fv).key_inv
            refine ⟨_, .inr ⟨ks', key, b, .inl ep', rfl, eb, rfl⟩, n _ H2 (Sam.refl H2) ?_⟩
            rcases look_val key f with ⟨z1, z2⟩ | ⟨d', v, z1, z2, fv⟩
            · rw [z1, z2]; exact fw
            · rw [z1, z2]; exact fv
          · cases e5
        | l xs => cases e5
        | ll xs => cases e5
        | dl xs => cases e5
end
end AF

set_option maxHeartbeats 4000000
namespace AF
open PySem PySem.Spec L2
open PyProof.Rows hiding St
/-! ## 19. calls -/
inductive ArgsOk (σ : L2.St) (H : Hp) : List Ar → List V → Prop
  | nil : ArgsOk σ H [] []
  | d {d : PyData} {v : V} {as : List Ar} {vs : List V} : Fp H v d → ArgsOk σ H as vs → ArgsOk σ H (.d d :: as) (v :: vs)
  | r {i : Nat} {v : V} {as : List Ar} {vs : List V} : σ[i]? = some (some v) → ArgsOk σ H as vs → ArgsOk σ H (.r i :: as) (v :: vs)
  | s {i : Nat} {v : V} {as : List Ar} {vs : List V} : σ[i]? = some (some v) → ArgsOk σ H as vs → ArgsOk σ H (.s i :: as) (v :: vs)
def vArg : Vp (List Ar) (List V) := ⟨fun σ _ _ _ H' d v => ArgsOk σ H' d v, fun _ h => h⟩
def fpA (fp : Nat → List Addr) (as : List Ar) (i : Nat) : List Addr := match as[i]? with
  | some (.r j) => fp j
  | _ => []
theorem at_zero {v : V} {vs : List V} : at_ ((v :: vs).map some) 0 = some v := rfl
theorem at_succ {v : V} {vs : List V} {i : Nat} : at_ ((v :: vs).map some) (i + 1) = at_ (vs.map some) i := rfl
theorem args_slots {K : PySem.W.Frag} {σb : L2.St} {H : Hp} {ρ : En} {σ : L2.St} {fp : Nat → List Addr} (r : Rep K σb H ρ σ fp) : ∀ {as : List Ar} {vs : List V} {ss : List S}, ArgsOk σ H as vs → argsS ρ as = some ss →
    ss.length = vs.length ∧ as.length = vs.length ∧ ∀ i s, ss[i]? = some s → SlotOk K H (at_ (vs.map some) i) s (at_ (vs.map some) i) (fpA fp as i) := by
  intro as vs ss h
  induction h generalizing ss with
  | nil => intro e; cases e; exact ⟨rfl, rfl, fun i s e => by simp at e⟩
  | @d d v as vs f _ ih =>
    intro e
    obtain ⟨ss', e1, rfl⟩ := Option.map_eq_some_iff.mp e
    obtain ⟨l1, l2, l3⟩ := ih e1
    refine ⟨by simp [l1], by simp [l2], fun i s e => ?_⟩
    cases i with
    | zero => cases e; exact ⟨rfl, v, rfl, f⟩
    | succ i => exact l3 i s (by simpa using e)
  | @r j v as vs f _ ih =>
    intro e
    obtain ⟨m, e0, e⟩ := Option.bind_eq_some_iff.mp e
    obtain ⟨ss', e1, rfl⟩ := Option.map_eq_some_iff.mp e
    obtain ⟨l1, l2, l3⟩ := ih e1
    refine ⟨by simp [l1], by simp [l2], fun i s e => ?_⟩
    cases i with
    | zero =>
      cases e
      obtain ⟨w, e3, o⟩ := r.atM e0
      rw [f] at e3
      cases e3
      exact ⟨v, rfl, rfl, o⟩
    | succ i => exact l3 i s (by simpa using e)
  | @s j v as vs f _ ih =>
    intro e
    obtain ⟨m, e0, e⟩ := Option.bind_eq_some_iff.mp e
    obtain ⟨ss', e1, rfl⟩ := Option.map_eq_some_iff.mp e
    obtain ⟨l1, l2, l3⟩ := ih e1
    refine ⟨by simp [l1], by simp [l2], fun i s e => ?_⟩
    cases i with
    | zero =>
      cases e
      obtain ⟨w, e3, o⟩ := r.atS e0
      rw [f] at e3
      cases e3
      exact ⟨rfl, w, rfl, o⟩
    | succ i => exact l3 i s (by simpa using e)
theorem mem_refs : ∀ {as : List Ar} {i k : Nat}, as[i]? = some (.r k) → k ∈ refsA as
  | [], i, k, e => by simp at e
  | a :: as, 0, k, e => by cases e; exact List.mem_cons_self
  | a :: as, i + 1, k, e => by
    have z := mem_refs (as := as) (i := i) (k := k) (by simpa using e)
    cases a with
    | d d => exact z
    | s d => exact z
    | r d => exact List.mem_cons_of_mem _ z
theorem refs_inj : ∀ {as : List Ar} {i j k : Nat}, (refsA as).Nodup → as[i]? = some (.r k) → as[j]? = some (.r k) → i = j
  | [], i, j, k, _, e, _ => by simp at e
  | a :: as, 0, 0, k, _, _, _ => rfl
  | a :: as, 0, j + 1, k, n, e, e2 => by
    cases e
    exact absurd (mem_refs (as := as) (i := j) (k := k) (by simpa using e2)) (List.nodup_cons.mp n).1
  | a :: as, i + 1, 0, k, n, e2, e => by
    cases e
    exact absurd (mem_refs (as := as) (i := i) (k := k) (by simpa using e2)) (List.nodup_cons.mp n).1
  | a :: as, i + 1, j + 1, k, n, e, e2 => by
    have n2 : (refsA as).Nodup := by cases a <;> first | exact n | exact (List.nodup_cons.mp n).2
    rw [refs_inj n2 (i := i) (j := j) (k := k) (by simpa using e) (by simpa using e2)]
theorem fpA_mem {fp : Nat → List Addr} {as : List Ar} {i : Nat} {b : Addr} (h : b ∈ fpA fp as i) : ∃ k, as[i]? = some (.r k) ∧ b ∈ fp k := by
  unfold fpA at h
  split at h
  · exact ⟨_, by assumption, h⟩
  · cases h
theorem args_rep {K : PySem.W.Frag} {σb : L2.St} {H : Hp} {ρ : En} {σ : L2.St} {fp : Nat → List Addr} (r : Rep K σb H ρ σ fp) {as : List Ar} {vs : List V} {ss : List S} (h : ArgsOk σ H as vs) (e : argsS ρ as = some ss) (n : (refsA as).Nodup) :
    Rep K (vs.map some) H ss (vs.map some) (fpA fp as) := by
  obtain ⟨l1, l2, l3⟩ := args_slots r h e
  refine ⟨by simp [l1], l3, fun i hi => ?_, fun i j b hb hb2 => ?_, rfl⟩
  · have : as[i]? = none := List.getElem?_eq_none (by omega)
    unfold fpA
    rw [this]
  · obtain ⟨k, e1, m1⟩ := fpA_mem hb
    obtain ⟨l, e2, m2⟩ := fpA_mem hb2
    obtain rfl := r.dis k l b m1 m2
    exact refs_inj n e1 e2
def ixR : List Ar → Nat → Option Nat
  | [], _ => none
  | .r j :: r, k => if j = k then some 0 else (ixR r k).map (· + 1)
  | _ :: r, k => (ixR r k).map (· + 1)
theorem ixR_some : ∀ {as : List Ar} {k i : Nat}, ixR as k = some i → as[i]? = some (.r k)
  | [], k, i, e => by cases e
  | .r j :: r, k, i, e => by
    unfold ixR at e
    split at e
    · rename_i z; cases e; subst z; rfl
    · obtain ⟨i', e', rfl⟩ := Option.map_eq_some_iff.mp e; simpa using ixR_some e'
  | .d j :: r, k, i, e => by obtain ⟨i', e', rfl⟩ := Option.map_eq_some_iff.mp e; simpa using ixR_some e'
  | .s j :: r, k, i, e => by obtain ⟨i', e', rfl⟩ := Option.map_eq_some_iff.mp e; simpa using ixR_some e'
theorem ixR_none : ∀ {as : List Ar} {k : Nat}, ixR as k = none → k ∉ refsA as
  | [], k, e => by simp [refsA]
  | .r j :: r, k, e => by
    unfold ixR at e
    split at e
    · cases e
    · rename_i z
      intro h
      rcases List.mem_cons.mp h with h | h
      · exact z h.symm
      · exact ixR_none (Option.map_eq_none_iff.mp e) h
  | .d j :: r, k, e => by
    have e : (ixR r k).map (· + 1) = none := e
    exact ixR_none (as := r) (Option.map_eq_none_iff.mp e)
  | .s j :: r, k, e => by
    have e : (ixR r k).map (· + 1) = none := e
    exact ixR_none (as := r) (Option.map_eq_none_iff.mp e)
theorem ixR_mem {as : List Ar} {k : Nat} (h : k ∉ refsA as) : ixR as k = none := by
  cases e : ixR as k with
  | none => rfl
  | some i => exact absurd (mem_refs (ixR_some e)) h
theorem gb : ∀ {as : List Ar} {ρo : List S} {ρ ρ' : En}, giveBack as ρo ρ = some ρ' → (refsA as).Nodup → ρ'.length = ρ.length ∧ (∀ k, k ∉ refsA as → ρ'[k]? = ρ[k]?) ∧
    ∀ (i k : Nat), as[i]? = some (Ar.r k) → ∃ (m m0 : M), ρo[i]? = some (S.rf m) ∧ ((ρ[k]? = some (S.mu m0) ∧ ρ'[k]? = some (S.mu m)) ∨ (ρ[k]? = some (S.rf m0) ∧ ρ'[k]? = some (S.rf m)))
  | [], ρo, ρ, ρ', e, n => by cases e; exact ⟨rfl, fun _ _ => rfl, fun i k e => by simp at e⟩
  | .d d :: as, [], ρ, ρ', e, n => by cases e
  | .s d :: as, [], ρ, ρ', e, n => by cases e
  | .r d :: as, [], ρ, ρ', e, n => by cases e
  | .d d :: as, s :: ss, ρ, ρ', e, n => by
    obtain ⟨a, b, c⟩ := gb (as := as) (ρo := ss) (ρ := ρ) (ρ' := ρ') e n
    refine ⟨a, b, fun i k e => ?_⟩
    cases i with
    | zero => cases e
    | succ i => simpa using c i k (by simpa using e)
  | .s d :: as, s :: ss, ρ, ρ', e, n => by
    obtain ⟨a, b, c⟩ := gb (as := as) (ρo := ss) (ρ := ρ) (ρ' := ρ') e n
    refine ⟨a, b, fun i k e => ?_⟩
    cases i with
    | zero => cases e
    | succ i => simpa using c i k (by simpa using e)
  | .r j :: as, s :: ss, ρ, ρ', e, n => by
    cases s with
    | rf m =>
      obtain ⟨ρ1, e1, e2⟩ := Option.bind_eq_some_iff.mp (show (putM ρ j m).bind (giveBack as ss) = some ρ' from e)
      have nn := List.nodup_cons.mp n
      obtain ⟨a, b, c⟩ := gb (as := as) (ρo := ss) (ρ := ρ1) (ρ' := ρ') e2 nn.2
      have p : ρ1.length = ρ.length ∧ (∀ k, k ≠ j → ρ1[k]? = ρ[k]?) ∧ ∃ m0, (ρ[j]? = some (.mu m0) ∧ ρ1[j]? = some (.mu m)) ∨ (ρ[j]? = some (.rf m0) ∧ ρ1[j]? = some (.rf m)) := by
        unfold putM at e1
        split at e1
        · rename_i m0 ej
          cases e1
          have hj := (List.getElem?_eq_some_iff.mp ej).1
          exact ⟨by simp, fun k hk => List.getElem?_set_ne (fun z => hk z.symm), m0, .inl ⟨ej, by simp [hj]⟩⟩
        · rename_i m0 ej
          cases e1
          have hj := (List.getElem?_eq_some_iff.mp ej).1
          exact ⟨by simp, fun k hk => List.getElem?_set_ne (fun z => hk z.symm), m0, .inr ⟨ej, by simp [hj]⟩⟩
        · cases e1
      obtain ⟨p1, p2, m0, p3⟩ := p
      refine ⟨by rw [a, p1], fun k hk => ?_, fun i k e => ?_⟩
      · have hk' : k ≠ j ∧ k ∉ refsA as := by
          constructor
          · intro z; exact hk (by subst z; exact List.mem_cons_self)
          · intro z; exact hk (List.mem_cons_of_mem _ z)
        rw [b k hk'.2, p2 k hk'.1]
      · cases i with
        | zero =>
          cases e
          refine ⟨m, m0, rfl, ?_⟩
          rw [b j nn.1]
          exact p3
        | succ i =>
          have e : as[i]? = some (.r k) := by simpa using e
          obtain ⟨m1, m2, h1, h2⟩ := c i k e
          have hk : k ≠ j := fun z => nn.1 (by subst z; exact mem_refs e)
          rw [p2 k hk] at h2
          exact ⟨m1, m2, by simpa using h1, h2⟩
    | un => cases e
    | im _ => cases e
    | mu _ => cases e
    | sc _ => cases e
theorem args_ix : ∀ {σ : L2.St} {H : Hp} {as : List Ar} {vs : List V} {i k : Nat}, ArgsOk σ H as vs → as[i]? = some (.r k) → ∃ v, vs[i]? = some v ∧ σ[k]? = some (some v) := by
  intro σ H as vs i k h
  induction h generalizing i with
  | nil => intro e; simp at e
  | d f _ ih =>
    intro e
    cases i with
    | zero => cases e
    | succ i => simpa using ih (i := i) (by simpa using e)
  | s f _ ih =>
    intro e
    cases i with
    | zero => cases e
    | succ i => simpa using ih (i := i) (by simpa using e)
  | r f _ ih =>
    intro e
    cases i with
    | zero => cases e; exact ⟨_, rfl, f⟩
    | succ i => simpa using ih (i := i) (by simpa using e)
theorem call_back {K : PySem.W.Frag} {σb : L2.St} {H H' : Hp} {ρ ρ' ρo : En} {σ : L2.St} {fp fp' : Nat → List Addr} (r : Rep K σb H ρ σ fp) {as : List Ar} {vs : List V} (h : ArgsOk σ H as vs) (n : (refsA as).Nodup)
    (ro : Rep K (vs.map some) H' ρo (vs.map some) fp') (st : Stp H (fpA fp as) H' fp') (e : giveBack as ρo ρ = some ρ') : ∃ fp2, Rep K σb H' ρ' σ fp2 ∧ Stp H fp H' fp2 := by
  obtain ⟨g1, g2, g3⟩ := gb e n
  let fp2 : Nat → List Addr := fun k => match ixR as k with
    | some i => fp' i
    | none => fp k
  have z1 : ∀ {k i}, ixR as k = some i → fp2 k = fp' i := fun {k i} e => by show (match ixR as k with | some i => fp' i | none => fp k) = _; rw [e]
  have z2 : ∀ {k}, ixR as k = none → fp2 k = fp k := fun {k} e => by show (match ixR as k with | some i => fp' i | none => fp k) = _; rw [e]
  refine ⟨fp2, ⟨by rw [g1, r.len], fun k s hk => ?_, fun k hk => ?_, fun k l b hb hb2 => ?_, r.lb⟩, st.ext, fun b o hb nb => ?_, fun k b hb => ?_⟩
  · cases ek : ixR as k with
    | none =>
      rw [z2 ek]
      rw [g2 k (ixR_none ek)] at hk
      refine (r.ok k s hk).mono st.ext fun b hb u hu => st.keep b u hu fun i hi => ?_
      obtain ⟨l, el, hl⟩ := fpA_mem hi
      obtain rfl := r.dis k l b hb hl
      exact ixR_none ek (mem_refs el)
    | some i =>
      rw [z1 ek]
      have ei := ixR_some ek
      obtain ⟨m, m0, e1, e2⟩ := g3 i k ei
      obtain ⟨v, ev, _, ow⟩ := ro.ok i _ e1
      obtain ⟨v', e3, e4⟩ := args_ix h ei
      have : v' = v := by
        unfold at_ at ev
        rw [List.getElem?_map, e3] at ev
        exact Option.some.inj ev
      subst this
      have ea : at_ σ k = some v' := by unfold at_; rw [e4]; rfl
      rcases e2 with ⟨e5, e6⟩ | ⟨e5, e6⟩
      · rw [e6] at hk
        cases hk
        exact ⟨v', ea, ow⟩
      · rw [e6] at hk
        cases hk
        obtain ⟨w, e7, e8, _⟩ := r.ok k _ e5
        rw [ea] at e7
        cases e7
        exact ⟨v', ea, e8, ow⟩
  · cases ek : ixR as k with
    | none => rw [z2 ek]; exact r.out k (by omega)
    | some i =>
      obtain ⟨m, m0, e1, e2⟩ := g3 i k (ixR_some ek)
      rcases e2 with ⟨e5, e6⟩ | ⟨e5, e6⟩ <;> (have := (List.getElem?_eq_some_iff.mp e6).1; omega)
  · have cross : ∀ {k l i : Nat} {b : Addr}, ixR as k = some i → ixR as l = none → b ∈ fp' i → b ∈ fp l → False := by
      intro k l i b ek el hb hb2
      rcases st.new i b hb with ⟨j, hj⟩ | e0
      · obtain ⟨l', el', hl'⟩ := fpA_mem hj
        obtain rfl := r.dis l l' b hb2 hl'
        exact ixR_none el (mem_refs el')
      · obtain ⟨u, eu, _⟩ := r.cell hb2
        rw [e0] at eu; cases eu
    cases ek : ixR as k with
    | none =>
      cases el : ixR as l with
      | none => rw [z2 ek] at hb; rw [z2 el] at hb2; exact r.dis k l b hb hb2
      | some i => rw [z2 ek] at hb; rw [z1 el] at hb2; exact (cross el ek hb2 hb).elim
    | some i =>
      cases el : ixR as l with
      | none => rw [z1 ek] at hb; rw [z2 el] at hb2; exact (cross ek el hb hb2).elim
      | some i' =>
        rw [z1 ek] at hb; rw [z1 el] at hb2
        obtain rfl := ro.dis i i' b hb hb2
        have a1 := ixR_some ek
        have a2 := ixR_some el
        rw [a1] at a2
        cases a2
        rfl
  · refine st.keep b o hb fun i hi => ?_
    obtain ⟨l, _, hl⟩ := fpA_mem hi
    exact nb l hl
  · cases ek : ixR as k with
    | none => rw [z2 ek] at hb; exact .inl ⟨k, hb⟩
    | some i =>
      rw [z1 ek] at hb
      rcases st.new i b hb with ⟨j, hj⟩ | e0
      · obtain ⟨l, _, hl⟩ := fpA_mem hj
        exact .inl ⟨l, hl⟩
      · exact .inr e0
section
variable {q : Sx} {cf : CallF} {c : Ct} {X : Cx} {a b d : Expr} {fa fb fd : En → R PyData} {es : List Expr} {fs : En → R (List Ar)}
theorem call_fin {id : Nat} {as : List Ar} {vs : List V} {ρ : En} {σ : L2.St} {H : Hp} {Q : VK} (ao : ArgsOk σ H as vs) (h : tE c ρ (callR cf id as ρ) σ H Q) : spF c.K c.mg (cf id) vs H Q (WE c.W σ) := by
  obtain ⟨fp, r, h⟩ := h
  unfold callR at h
  split at h
  · rename_i n
    cases e : argsS ρ as with
    | none => rw [e] at h; exact h.elim
    | some ss =>
      rw [e] at h
      refine ⟨ss, fpA fp as, args_rep r ao e n, ?_⟩
      dsimp only at h
      cases e2 : cf id ss with
      | st => rw [e2] at h; exact h
      | ok d ρo =>
        rw [e2] at h
        dsimp only at h ⊢
        intro v H' fp' ro f st
        cases e3 : giveBack as ρo ρ with
        | none => rw [e3] at h; exact h.elim
        | some ρ' =>
          rw [e3] at h
          obtain ⟨fp2, r2, s2⟩ := call_back r ao n ro st e3
          exact h v H' fp2 r2 f s2
      | ex m f ρo =>
        rw [e2] at h
        dsimp only at h ⊢
        intro cls dd H' fp' ro f st
        cases e3 : giveBack as ρo ρ with
        | none => rw [e3] at h; exact h.elim
        | some ρ' =>
          rw [e3] at h
          obtain ⟨fp2, r2, s2⟩ := call_back r ao n ro st e3
          exact h cls dd H' fp2 r2 f s2
  · exact h.elim
theorem nd_anil (ρ : En) : PA X [] (tR vArg c ρ (.ok [] ρ)) := jA.imp pa_nil fun σ H Q h => tR.finB h fun _ _ => .nil
theorem ArgsOk.mono {σ : L2.St} {H H' : Hp} (e : Ext H H') {as : List Ar} {vs : List V} (h : ArgsOk σ H as vs) : ArgsOk σ H' as vs := by
  induction h with
  | nil => exact .nil
  | d f _ ih => exact .d (Fp.mono e _ f) ih
  | r f _ ih => exact .r f ih
  | s f _ ih => exact .s f ih
theorem nd_ae (hs : nstar a = true) (ha : ∀ ρ, PE X a (tE c ρ (fa ρ))) (hr : ∀ ρ, PA X es (tR vArg c ρ (fs ρ))) (ρ : En) :
    PA X (a :: es) (tR vArg c ρ ((fa ρ).bind fun x ρ1 => (fs ρ1).bind fun xs ρ2 => .ok (.d x :: xs) ρ2)) := by
  have ha := ha ρ
  generalize fa ρ = ra at ha ⊢
  have st := star1 hs es X.env
  cases ra with
  | st => exact jA.imp jA.no fun σ H Q h => h.stF
  | ex n f ρ1 => exact jA.imp (pa_cons ha jA.no st) fun σ H Q h => tR.ex h
  | ok x ρ1 =>
    refine jA.imp (pa_cons ha (hr ρ1) st) fun σ H Q h => tR.go h fun fp v H1 fp1 fv _ h1 => ?_
    rw [R.bind_ok] at h1
    generalize fs ρ1 = rb at h1 ⊢
    cases rb with
    | st => exact h1.stF.elim
    | ex n f ρ2 => exact tR.ex h1
    | ok y ρ2 => exact tR.go h1 fun _ w H2 _ fw e2 h2 => tR.finB h2 fun _ _ => .d (Fp.mono e2 _ fv) fw
theorem nd_ar (k : OkX q cf c X) {i : Nat} {x : Str} {p : Pos} (hv : varOk q i x = true) (hr : ∀ ρ, PA X es (tR vArg c ρ (fs ρ))) (ρ : En) :
    PA X (.Name x p :: es) (tR vArg c ρ (R.gd (getM ρ i) <| (fs ρ).bind fun xs ρ2 => .ok (.r i :: xs) ρ2)) := by
  cases e : getM ρ i with
  | none => exact jA.imp jA.no fun σ H Q h => h.stF
  | some m =>
    refine jA.imp (pa_cons (pv_of k hv) (hr ρ) (star1 rfl es X.env)) fun σ H Q h => ?_
    have h : tR vArg c ρ ((fs ρ).bind fun xs ρ2 => .ok (.r i :: xs) ρ2) σ H Q := h
    obtain ⟨v, e3, _⟩ := h.choose_spec.1.atM e
    refine ⟨v, e3, ?_⟩
    generalize fs ρ = rb at h ⊢
    cases rb with
    | st => exact h.stF.elim
    | ex n f ρ2 => exact tR.ex h
    | ok y ρ2 => exact tR.go h fun _ w H2 _ fw e2 h2 => tR.finB h2 fun _ _ => .r e3 fw
theorem nd_as (k : OkX q cf c X) {i : Nat} {x : Str} {p : Pos} (hv : varOk q i x = true) (hr : ∀ ρ, PA X es (tR vArg c ρ (fs ρ))) (ρ : En) :
    PA X (.Name x p :: es) (tR vArg c ρ (R.gd (getS ρ i) <| (fs ρ).bind fun xs ρ2 => .ok (.s i :: xs) ρ2)) := by
  cases e : getS ρ i with
  | none => exact jA.imp jA.no fun σ H Q h => h.stF
  | some m =>
    refine jA.imp (pa_cons (pv_of k hv) (hr ρ) (star1 rfl es X.env)) fun σ H Q h => ?_
    have h : tR vArg c ρ ((fs ρ).bind fun xs ρ2 => .ok (.s i :: xs) ρ2) σ H Q := h
    obtain ⟨v, e3, _⟩ := h.choose_spec.1.atS e
    refine ⟨_, e3, ?_⟩
    generalize fs ρ = rb at h ⊢
    cases rb with
    | st => exact h.stF.elim
    | ex n f ρ2 => exact tR.ex h
    | ok y ρ2 => exact tR.go h fun _ w H2 _ fw e2 h2 => tR.finB h2 fun _ _ => .s e3 fw
def fnOk (q : Sx) (x : Str) (id : Nat) : Bool := gloOk q x && q.g.fns.any fun p => p.1 == x && p.2.1 == id
theorem nd_call (k : OkX q cf c X) {id : Nat} {x : Str} {p pos : Pos} (hf : fnOk q x id = true) (hs : nstar a = true) (hss : es.all nstar = true) (ha : ∀ ρ, PA X (a :: es) (tR vArg c ρ (fs ρ))) (ρ : En) :
    PE X (.Call (.Name x p) (a :: es) [] pos) (tE c ρ ((fs ρ).bind fun xs ρ1 => callR cf id xs ρ1)) := by
  unfold fnOk at hf
  rw [Bool.and_eq_true, List.any_eq_true] at hf
  obtain ⟨hg, y, hy, e⟩ := hf
  simp only [Bool.and_eq_true, beq_iff_eq] at e
  obtain ⟨e1, e2⟩ := e
  obtain ⟨g1, g2⟩ := k.gl hg
  obtain ⟨lv, f, fd, h1, h2, h3, h4, h5⟩ := k.fn y hy
  rw [e1] at h1
  rw [e2] at h4
  refine jE.b1 (Z1 := PA X (a :: es)) (ha ρ) (G := fun σ vs H1 Q => spF X.K X.mg (cf id) vs H1 Q (WE c.W σ)) (fun ta h => pe_callS h4 h3 g1 h1 h2 h5 k.pass h g2 (star1 hs es X.env) (plain_any _ _ _ hss)) fun xs ρ1 _ σ vs H0 fp fp1 H Q f h => ?_
  rw [k.K, k.mg]
  exact call_fin f h
end
end AF

set_option maxHeartbeats 4000000
namespace AF
open PySem PySem.Spec L2
open PyProof.Rows hiding St
/-! ## 20. what is walked over -/
def WalkD (J : L2.It) (H : Hp) (xs : List PyData) : Prop := xs.length ≤ sizeLine ∧ ∃ G Y, Walk J xs.length G Y ∧ (∀ H2, Ext H H2 → G H2) ∧ ∀ i H2 x H3, Ext H H2 → Y i H2 x H3 → Sam H2 H3 ∧ ∃ d, xs[i]? = some d ∧ Fp H3 x d
def vIt : Vp (List PyData) L2.It := ⟨fun _ _ _ _ H' xs J => WalkD J H' xs, fun _ h => h⟩
theorem jI {X : Cx} {tg e : Expr} : Jd (PI X tg e) := ⟨fun h i => ⟨fun pins s σ H R I q => h.run pins s σ H R I (i σ H R q)⟩, ⟨fun _ _ _ _ _ _ h => False.elim h⟩⟩
/-- data, and of a length within bounds -/
def lenOk : PyData → Bool
  | .list ds => decide (ds.length ≤ sizeLine)
  | .tuple ds => decide (ds.length ≤ sizeLine)
  | _ => true
def vL : Vp PyData V := ⟨fun _ _ _ _ H' d v => Fp H' v d ∧ lenOk d = true, fun _ h => h⟩
theorem toL {X : Cx} {e : Expr} {c : Ct} {ρ : En} {r : R PyData} (h : PE X e (tE c ρ r)) : PE X e (tR vL c ρ r) := by
  refine ⟨fun pins s σ H Q I q => ?_⟩
  obtain ⟨fp, hr, hq⟩ := q
  cases r with
  | st => exact hq.elim
  | ex n f ρ1 => exact h.run pins s σ H Q I ⟨fp, hr, hq⟩
  | ok d ρ1 =>
    have z := h.run pins s σ H (fun v H1 => Fp H1 v d ∧ (lenOk d = true → Q v H1)) I ⟨fp, hr, fun v H1 fp1 a b t => ⟨b, fun l => hq v H1 fp1 a ⟨b, l⟩ t⟩⟩
    refine wpAny_mono z (fun u s1 hu => ?_) (fun _ _ x => x)
    obtain ⟨v, H1, I1, rv, b, t⟩ := hu
    refine ⟨v, H1, I1, rv, t ?_⟩
    cases d with
    | list ds =>
      obtain ⟨p, xs, rfl, z, f⟩ := b.lst_inv
      have := (lstF I1 z).1
      rw [f.length] at this
      exact decide_eq_true this
    | tuple ds =>
      obtain ⟨p, xs, rfl, z, f⟩ := b.tup_inv
      obtain ⟨_, _, _, z⟩ := I1.tuple (SqT.of z)
      rw [f.length] at z
      exact decide_eq_true z
    | _ => rfl
section
variable {K : PySem.W.Frag} {H : Hp}
theorem FpAll.yat {H2 H3 : Hp} {vs : List V} {ds : List PyData} {i : Nat} {x : V} (e : Ext H H2) (f : FpAll H vs ds) (h : YAt vs i H2 x H3) : Sam H2 H3 ∧ ∃ d, ds[i]? = some d ∧ Fp H3 x d := by
  obtain ⟨rfl, h⟩ := h
  obtain ⟨d, e1, f1⟩ := (FpAll.mono e _ f).getV h
  exact ⟨Sam.refl _, d, e1, f1⟩
theorem walk_fl {a : Addr} {vs : List V} {ds : List PyData} (z : FzL H a vs) (f : FpAll H vs ds) (hl : ds.length ≤ sizeLine) : WalkD (Itl K a) H ds :=
  ⟨hl, _, _, by rw [← f.length]; exact walk_list (K := K) (a := a) (xs := vs), fun H2 e => (z.mono e).sq, fun i H2 x H3 e h => f.yat e h⟩
theorem walk_ft {a : Addr} {vs : List V} {ds : List PyData} (z : H a = some (.tup vs)) (f : FpAll H vs ds) (hl : ds.length ≤ sizeLine) : WalkD (Itt K a) H ds :=
  ⟨hl, _, _, by rw [← f.length]; exact walk_tup (K := K) (a := a) (xs := vs), fun H2 e => SqT.of (e.tup _ _ z), fun i H2 x H3 e h => f.yat e h⟩
theorem walk_fs (z : Str) (hl : z.length ≤ lim) : WalkD (Its z) H (z.cps.toList.map fun c => PyData.str ⟨#[c]⟩) :=
  ⟨by rw [List.length_map, Array.length_toList]; exact Nat.le_trans hl lim_line, _, _, by rw [List.length_map, Array.length_toList]; exact walk_str (z := z), fun _ _ => trivial, fun i H2 x H3 e h => by
    obtain ⟨rfl, c, e1, rfl⟩ := h
    refine ⟨Sam.refl _, .str ⟨#[c]⟩, ?_, .str _⟩
    rw [List.getElem?_map, Array.getElem?_toList, e1]
    rfl⟩
theorem walk_fr (lo : Int) (n : Nat) (hl : n ≤ sizeLine) : WalkD (Itr lo n) H (rangeD lo n) :=
  ⟨by unfold rangeD; simpa using hl, (fun _ => True), (fun i H2 x H3 => i < n ∧ YFn (fun i => V.int (lo + (i : Nat))) i H2 x H3), by
    have w := walk_range (lo := lo) (n := n)
    have hn : (rangeD lo n).length = n := by unfold rangeD; simp
    rw [hn]
    exact ⟨w.goes, w.stops, fun i H2 x H3 a b d => ⟨a, w.yields i H2 x H3 a b d⟩⟩, fun _ _ => trivial, fun i H2 x H3 e h => by
    obtain ⟨hi, rfl, rfl⟩ := h
    refine ⟨Sam.refl _, .int (lo + (i : Nat)), ?_, .int _⟩
    unfold rangeD
    rw [List.getElem?_map, List.getElem?_range hi]
    rfl⟩
theorem enumD_get : ∀ (xs : List PyData) (n i : Nat), (enumD n xs)[i]? = (xs[i]?).map fun x => .tuple [.int ((n + i : Nat) : Int), x]
  | [], n, i => by simp [enumD]
  | x :: xs, n, 0 => by simp [enumD]
  | x :: xs, n, i + 1 => by
    rw [enumD, List.getElem?_cons_succ, enumD_get xs (n + 1) i, List.getElem?_cons_succ]
    congr 1
    funext y
    congr 4
    omega
theorem enumD_len : ∀ (xs : List PyData) (n : Nat), (enumD n xs).length = xs.length
  | [], n => rfl
  | x :: xs, n => by rw [enumD, List.length_cons, enumD_len xs (n + 1), List.length_cons]
theorem walk_fe {a : Addr} {vs : List V} {ds : List PyData} (z : FzL H a vs) (f : FpAll H vs ds) (hl : ds.length ≤ sizeLine) : WalkD (Ite K a) H (enumD 0 ds) :=
  ⟨by rw [enumD_len]; exact hl, _, _, by rw [enumD_len, ← f.length]; exact walk_enum (K := K) (a := a) (xs := vs), fun H2 e => (z.mono e).sq, fun i H2 x H3 e h => by
    obtain ⟨T, y, w, rfl, hT, rfl, e1, e2⟩ := h
    obtain rfl := Option.some.inj e1
    obtain ⟨d, e3, f3⟩ := (FpAll.mono e _ f).getV e2
    refine ⟨Sam.new hT, .tuple [.int ((0 + i : Nat) : Int), d], by rw [enumD_get, e3]; rfl, .tup upd_same (.cons ?_ (.cons (Fp.mono (Ext.new hT) _ f3) .nil))⟩
    rw [Nat.zero_add]
    exact .int _⟩
theorem zipD_get : ∀ (xs ys : List PyData) (i : Nat) (x y : PyData), xs[i]? = some x → ys[i]? = some y → (zipD xs ys)[i]? = some (.tuple [x, y])
  | [], ys, i, x, y, h, _ => by simp at h
  | _ :: _, [], i, x, y, _, h => by simp at h
  | x0 :: xs, y0 :: ys, 0, x, y, h, g => by cases h; cases g; rfl
  | x0 :: xs, y0 :: ys, i + 1, x, y, h, g => zipD_get xs ys i x y (by simpa using h) (by simpa using g)
theorem zipD_len (xs ys : List PyData) : (zipD xs ys).length = min xs.length ys.length := by
  unfold zipD
  rw [List.length_map, List.length_zip]
theorem fp_zip {vs ws : List V} {ds es : List PyData} {H2 H3 : Hp} {i : Nat} {x : V} (f : FpAll H vs ds) (g : FpAll H ws es) (e : Ext H H2) (h : YPair (fun i => vs[i]?) (fun i => ws[i]?) i H2 x H3) : Sam H2 H3 ∧ ∃ d, (zipD ds es)[i]? = some d ∧ Fp H3 x d := by
  obtain ⟨T, y, w, rfl, hT, rfl, e1, e2⟩ := h
  obtain ⟨d, e3, f3⟩ := (FpAll.mono e _ f).getV e1
  obtain ⟨d2, e4, f4⟩ := (FpAll.mono e _ g).getV e2
  exact ⟨Sam.new hT, _, zipD_get _ _ _ _ _ e3 e4, .tup upd_same (.cons (Fp.mono (Ext.new hT) _ f3) (.cons (Fp.mono (Ext.new hT) _ f4) .nil))⟩
theorem walk_fz {a b : Addr} {vs ws : List V} {ds es : List PyData} (z : FzL H a vs) (f : FpAll H vs ds) (z2 : FzL H b ws) (g : FpAll H ws es) (hl : ds.length ≤ sizeLine) : WalkD (Itz K a b) H (zipD ds es) :=
  ⟨by rw [zipD_len]; omega, (fun H => SqL K H a vs ∧ SqL K H b ws), _, by rw [zipD_len]; exact walk_zip (K := K) (a := a) (b := b) (xs := vs) (ys := ws) (by rw [f.length, g.length]), fun H2 e => ⟨(z.mono e).sq, (z2.mono e).sq⟩, fun i H2 x H3 e h => fp_zip f g e h⟩
theorem walk_zipTT {a b : Addr} {xs ys : List V} {n : Nat} (hn : n = min xs.length ys.length) : Walk (RZ.ItzT K a b) n (fun H => SqT K H a xs ∧ SqT K H b ys) (YPair (fun i => xs[i]?) fun i => ys[i]?) := by
  refine ⟨fun i H hi ⟨h1, h2⟩ => ?_, fun H ⟨h1, h2⟩ => ⟨xs, ys, h1, h2, by omega⟩, fun i H x H' hi ⟨h1, h2⟩ h => ?_⟩
  · have a1 : i < xs.length := by omega
    have a2 : i < ys.length := by omega
    exact ⟨xs, ys, xs[i], ys[i], h1, h2, by simp [a1], by simp [a2]⟩
  · obtain ⟨T, x, y, e1, e2, e3, e4, e5⟩ := h
    exact ⟨T, x, y, e1, e2, e3, e4 _ h1, e5 _ h2⟩
theorem walk_fzT {a b : Addr} {vs ws : List V} {ds es : List PyData} (z : H a = some (.tup vs)) (f : FpAll H vs ds) (z2 : H b = some (.tup ws)) (g : FpAll H ws es) (hl : ds.length ≤ sizeLine) : WalkD (RZ.ItzT K a b) H (zipD ds es) :=
  ⟨by rw [zipD_len]; omega, (fun H => SqT K H a vs ∧ SqT K H b ws), _, by rw [zipD_len]; exact walk_zipTT (K := K) (a := a) (b := b) (xs := vs) (ys := ws) (by rw [f.length, g.length]), fun H2 e => ⟨SqT.of (e.tup _ _ z), SqT.of (e.tup _ _ z2)⟩, fun i H2 x H3 e h => fp_zip f g e h⟩
end
section
variable {q : Sx} {cf : CallF} {c : Ct} {X : Cx} {a b d tg : Expr} {fa fb fd : En → R PyData}
theorem ni_ex (ha : ∀ ρ, PE X a (tE c ρ (fa ρ))) (ρ : En) : PI X tg a (tR vIt c ρ ((fa ρ).bind fun x ρ1 => R.of (itemsD x) ρ1)) := by
  have ha := toL (ha ρ)
  generalize fa ρ = ra at ha ⊢
  cases ra with
  | st => exact jI.imp jI.no fun σ H Q h => h.stF
  | ex n f ρ1 => exact jI.imp (pi_list ha) fun σ H Q h => tR.ex h
  | ok x ρ1 =>
    rw [R.bind_ok]
    cases x with
    | list ds =>
      refine jI.imp (pi_list ha) fun σ H Q h => tR.go h fun _ v H1 _ fv _ h1 => ?_
      obtain ⟨f, l⟩ := fv
      obtain ⟨p, vs, rfl, z, fa⟩ := f.lst_inv
      exact ⟨p, rfl, ⟨vs, z.sq⟩, tR.finB h1 fun _ _ => walk_fl z fa (of_decide_eq_true l)⟩
    | tuple ds =>
      refine jI.imp (pi_tup ha) fun σ H Q h => tR.go h fun _ v H1 _ fv _ h1 => ?_
      obtain ⟨f, l⟩ := fv
      obtain ⟨p, vs, rfl, z, fa⟩ := f.tup_inv
      exact ⟨p, rfl, ⟨vs, SqT.of z⟩, tR.finB h1 fun _ _ => walk_ft z fa (of_decide_eq_true l)⟩
    | str x =>
      refine jI.imp (pi_str ha) fun σ H Q h => tR.go h fun _ v H1 _ fv _ h1 => ?_
      obtain ⟨f, l⟩ := fv
      obtain rfl := f.str_inv
      have h1 : tR vIt c ρ1 (R.of (if x.length ≤ lim then some (x.cps.toList.map fun c => PyData.str ⟨#[c]⟩) else none) ρ1) σ H1 Q := h1
      split at h1
      · exact ⟨x, rfl, tR.finB h1 fun _ _ => walk_fs x (by assumption)⟩
      · exact h1.stF.elim
    | none => exact jI.imp jI.no fun σ H Q h => h.stF
    | bool _ => exact jI.imp jI.no fun σ H Q h => h.stF
    | int _ => exact jI.imp jI.no fun σ H Q h => h.stF
    | dict _ => exact jI.imp jI.no fun σ H Q h => h.stF
theorem nd_rng1 (k : OkX q cf c X) {x : Str} {p pos : Pos} (hf : freeOk q x "range" = true) (hs : nstar a = true) (ha : ∀ ρ, PE X a (tE c ρ (fa ρ))) (ρ : En) :
    PI X tg (.Call (.Name x p) [a] [] pos) (tR vIt c ρ ((fa ρ).bind fun x ρ1 => match x with
    | .int j => if j ≤ 1000000 ∧ -1000000 ≤ j then .ok (rangeD 0 j.toNat) ρ1 else .st
    | _ => .st)) := by
  obtain ⟨h1, h2, h3, rfl⟩ := k.fr hf
  refine jI.e1 ha (G := fun σ v H Q => ∃ j : Int, [v] = [V.int j] ∧ -2 ^ 62 ≤ j ∧ j < 2 ^ 62 ∧ Q (Itr 0 j.toNat) H) (fun ta h => pi_range1 h1 h3 (pa1 hs h) (star1 hs [] X.env)) (fun x ρ σ v H Q f h => ?_) ρ
  cases x with
  | int j =>
    dsimp only at h
    split at h
    · rename_i hj
      obtain rfl := f.int_inv
      refine ⟨j, rfl, by omega, by omega, tR.finB h fun _ _ => walk_fr 0 j.toNat ?_⟩
      have : j.toNat ≤ 1000000 := by omega
      exact Nat.le_trans this lim_line
    · exact h.stF.elim
  | _ => exact h.stF.elim
theorem nd_rng2 (k : OkX q cf c X) {x : Str} {p pos : Pos} (hf : freeOk q x "range" = true) (hs : nstar a = true) (hs2 : nstar b = true) (ha : ∀ ρ, PE X a (tE c ρ (fa ρ))) (hb : ∀ ρ, PE X b (tE c ρ (fb ρ))) (ρ : En) :
    PI X tg (.Call (.Name x p) [a, b] [] pos) (tR vIt c ρ ((fa ρ).bind fun x ρ1 => (fb ρ1).bind fun y ρ2 => match x, y with
    | .int i, .int j => if (j ≤ 1000000 ∧ -1000000 ≤ j) ∧ (i ≤ 1000000 ∧ -1000000 ≤ i) then .ok (rangeD i (j - i).toNat) ρ2 else .st
    | _, _ => .st)) := by
  obtain ⟨h1, h2, h3, rfl⟩ := k.fr hf
  refine jI.e2 ha hb (G := fun σ v w H Q => ∃ i j : Int, [v, w] = [V.int i, V.int j] ∧ (-2 ^ 62 ≤ i ∧ i < 2 ^ 62 ∧ -2 ^ 62 ≤ j ∧ j < 2 ^ 62) ∧ Q (Itr i (j - i).toNat) H) (fun ta tb h h' => pi_range2 h1 h3 (pa2 hs hs2 h h') ?_ (star1 hs2 [] X.env)) (fun x y ρ σ v w H Q f g h => ?_) ρ
  · rw [star1 hs [b] X.env, star1 hs2 [] X.env]; rfl
  cases x with
  | int i =>
    cases y with
    | int j =>
      dsimp only at h
      split at h
      · rename_i hj
        obtain rfl := f.int_inv
        obtain rfl := g.int_inv
        refine ⟨i, j, rfl, ⟨by omega, by omega, by omega, by omega⟩, tR.finB h fun _ _ => walk_fr i (j - i).toNat ?_⟩
        have l2 : 2000000 ≤ sizeLine := by rw [sizeLine_eq]; decide
        have : (j - i).toNat ≤ 2000000 := by omega
        exact Nat.le_trans this l2
      · exact h.stF.elim
    | _ => exact h.stF.elim
  | _ => exact h.stF.elim
theorem nd_enm (k : OkX q cf c X) {x : Str} {p pos tpos : Pos} {elts : List Expr} {kk : Nat} (hf : freeOk q x "enumerate" = true) (hs : nstar a = true) (ha : ∀ ρ, PE X a (tE c ρ (fa ρ))) (ρ : En) :
    PI X (.Tuple elts kk tpos) (.Call (.Name x p) [a] [] pos) (tR vIt c ρ ((fa ρ).bind fun x ρ1 => match x with
    | .list xs => .ok (enumD 0 xs) ρ1
    | _ => .st)) := by
  obtain ⟨h1, h2, h3, rfl⟩ := k.fr hf
  refine jI.b1 (V1 := vL) (toL (ha ρ)) (G := fun σ v H Q => ∃ a xs, [v] = [V.ref a] ∧ SqL X.K H a xs ∧ Q (Ite X.K a) H) (fun ta h => pi_enum h1 h3 (pa1 hs h) (star1 hs [] X.env)) (fun x ρ1 _ σ v _ _ _ H Q f h => ?_)
  obtain ⟨f, l⟩ := f
  cases x with
  | list xs =>
    obtain ⟨p, vs, rfl, z, fa⟩ := f.lst_inv
    exact ⟨p, vs, rfl, z.sq, tR.finB h fun _ _ => walk_fe z fa (of_decide_eq_true l)⟩
  | _ => exact h.stF.elim
theorem nd_zip (k : OkX q cf c X) {x : Str} {p pos tpos : Pos} {elts : List Expr} {kk : Nat} (hf : freeOk q x "zip" = true) (hs : nstar a = true) (hs2 : nstar b = true) (ha : ∀ ρ, PE X a (tE c ρ (fa ρ))) (hb : ∀ ρ, PE X b (tE c ρ (fb ρ))) (ρ : En) :
    PI X (.Tuple elts kk tpos) (.Call (.Name x p) [a, b] [] pos) (tR vIt c ρ ((fa ρ).bind fun x ρ1 => (fb ρ1).bind fun y ρ2 => match x, y with
    | .list xs, .list ys => .ok (zipD xs ys) ρ2
    | .tuple xs, .tuple ys => .ok (zipD xs ys) ρ2
    | _, _ => .st)) := by
  obtain ⟨h1, h2, h3, rfl⟩ := k.fr hf
  have ru : ∀ ta tb, PE X a ta → PE X b tb → PI X (.Tuple elts kk tpos) (.Call (.Name (Str.ofString "zip") p) [a, b] [] pos) (RZ.iZipA X.K (tCons ta (tCons tb tNil))) := fun ta tb h h' => RZ.pi_zipA h1 h3 (pa2 hs hs2 h h') (star1 hs [b] X.env) (plain_any _ _ _ (by simp [hs2]))
  have ha := toL (ha ρ)
  generalize fa ρ = ra at ha ⊢
  cases ra with
  | st => exact jI.imp jI.no fun σ H Q h => h.stF
  | ex n f ρ1 => exact jI.imp (ru _ _ ha jE.no) fun σ H Q h => tR.ex h
  | ok x ρ1 =>
    refine jI.imp (ru _ _ ha (hb ρ1)) fun σ H Q h => tR.go h fun fp v H1 fp1 fv _ h1 => ?_
    rw [R.bind_ok] at h1
    generalize fb ρ1 = rb at h1 ⊢
    cases rb with
    | st => exact h1.stF.elim
    | ex n f ρ2 => exact tR.ex h1
    | ok y ρ2 =>
      refine tR.go h1 fun _ w H2 _ fw e2 h2 => ?_
      rw [R.bind_ok] at h2
      obtain ⟨f, l⟩ := fv
      have f := Fp.mono e2 _ f
      have fw : Fp H2 w y := fw
      cases x with
      | list xs =>
        cases y with
        | list ys =>
          obtain ⟨p, vs, rfl, z, fa⟩ := f.lst_inv
          obtain ⟨p2, ws, rfl, z2, fb⟩ := fw.lst_inv
          exact ⟨p, p2, vs, ws, rfl, .inl ⟨z.sq, z2.sq, tR.finB h2 fun _ _ => walk_fz z fa z2 fb (of_decide_eq_true l)⟩⟩
        | _ => exact h2.stF.elim
      | tuple xs =>
        cases y with
        | tuple ys =>
          obtain ⟨p, vs, rfl, z, fa⟩ := f.tup_inv
          obtain ⟨p2, ws, rfl, z2, fb⟩ := fw.tup_inv
          exact ⟨p, p2, vs, ws, rfl, .inr ⟨SqT.of z, SqT.of z2, tR.finB h2 fun _ _ => walk_fzT z fa z2 fb (of_decide_eq_true l)⟩⟩
        | _ => exact h2.stF.elim
      | _ => exact h2.stF.elim
end
end AF

set_option maxHeartbeats 4000000
namespace AF
open PySem PySem.Spec L2
open PyProof.Rows hiding St
/-! ## 21. stores into slots -/
def fpSet (fp : Nat → List Addr) (i : Nat) (l : List Addr) : Nat → List Addr := fun j => if j = i then l else fp j
theorem fpSet_same {fp : Nat → List Addr} {i : Nat} {l : List Addr} : fpSet fp i l i = l := by unfold fpSet; simp
theorem fpSet_ne {fp : Nat → List Addr} {i j : Nat} {l : List Addr} (h : j ≠ i) : fpSet fp i l j = fp j := by unfold fpSet; simp [h]
theorem at_set {σ : L2.St} {i : Nat} {v : V} (h : i < σ.length) : at_ (σ.set i (some v)) i = some v := by unfold at_; simp [h]
theorem at_set_ne {σ : L2.St} {i j : Nat} {o : Option V} (h : j ≠ i) : at_ (σ.set i o) j = at_ σ j := by unfold at_; rw [List.getElem?_set_ne (fun z => h z.symm)]
section
variable {K : PySem.W.Frag} {σb : L2.St} {H H' : Hp} {ρ ρ' : En} {σ : L2.St} {fp fp' : Nat → List Addr}
theorem Rep.set (r : Rep K σb H ρ σ fp) {i : Nat} {s : S} {v : V} {l : List Addr} (hi : i < ρ.length) (ok : SlotOk K H (at_ σb i) s (some v) l) (dis : ∀ a ∈ l, ∀ j, j ≠ i → a ∉ fp j) : Rep K σb H (ρ.set i s) (σ.set i (some v)) (fpSet fp i l) := by
  have hl := r.len
  refine ⟨by simp [hl], fun j t hj => ?_, fun j hj => ?_, fun j k a ha hb => ?_, by rw [List.length_set]; exact r.lb⟩
  · by_cases e : j = i
    · subst e
      rw [List.getElem?_set_self hi] at hj
      cases hj
      rw [fpSet_same, at_set (by omega)]
      exact ok
    · rw [List.getElem?_set_ne (fun z => e z.symm)] at hj
      rw [fpSet_ne e, at_set_ne e]
      exact r.ok j t hj
  · rw [List.length_set] at hj
    rw [fpSet_ne (by omega)]
    exact r.out j hj
  · by_cases e : j = i
    · by_cases e2 : k = i
      · rw [e, e2]
      · rw [e, fpSet_same] at ha
        rw [fpSet_ne e2] at hb
        exact absurd hb (dis a ha k e2)
    · by_cases e2 : k = i
      · rw [fpSet_ne e] at ha
        rw [e2, fpSet_same] at hb
        exact absurd ha (dis a hb j e)
      · rw [fpSet_ne e] at ha
        rw [fpSet_ne e2] at hb
        exact r.dis j k a ha hb
theorem Rep.setIm (r : Rep K σb H ρ σ fp) {i : Nat} {d : PyData} {v : V} (hi : i < ρ.length) (f : Fp H v d) : Rep K σb H (ρ.set i (.im d)) (σ.set i (some v)) (fpSet fp i []) :=
  r.set hi ⟨rfl, v, rfl, f⟩ fun a h => by cases h
theorem setS_inv {i : Nat} {s : S} (h : setS ρ i s = some ρ') : ρ' = ρ.set i s ∧ i < ρ.length := by
  unfold setS at h
  split at h
  · cases h
  · rename_i e; cases h; exact ⟨rfl, (List.getElem?_eq_some_iff.mp e).1⟩
  · cases h
end
/-! ## 22. targets -/
def tgOk : Expr → Bool
  | .Name .. => true
  | .Tuple .. => true
  | _ => false
theorem assign1 {e : Expr} (h : tgOk e = true) (es : List Expr) (env : PySem.Env) : assignEach (e :: es) env = (false, assign e env) :: assignEach es env := by
  cases e <;> first | rfl | cases h
theorem assign_len (env : PySem.Env) : ∀ es : List Expr, es.all tgOk = true → (assignEach es env).length = es.length ∧ (assignEach es env).findIdx? (·.1) = none
  | [], _ => ⟨rfl, rfl⟩
  | e :: es, h => by
    rw [List.all_cons, Bool.and_eq_true] at h
    obtain ⟨a, b⟩ := assign_len env es h.2
    rw [assign1 h.1]
    refine ⟨by simp [a], ?_⟩
    rw [List.findIdx?_cons]
    simp [b]
/-- may be stored -/
def locB (sc : PySem.Scope) (x : Str) : Bool :=
  match sc.names.lookup x with
  | some .local => true
  | some .cell => true
  | _ => false
def isLoc (sc : PySem.Scope) (x : Str) : Bool :=
  match sc.names.lookup x with
  | some .local => true
  | _ => false
def stoOk (q : Sx) (i : Nat) (x : Str) : Bool := (q.N[i]? == some x) && locB q.sc x && (match q.raw with
  | none => true
  | some s => isLoc q.sc x || (s.names.lookup x == some NameKind.cell))
theorem locB_ok {sc : PySem.Scope} {x : Str} (h : locB sc x = true) : L2.Loc sc x := by
  unfold locB at h
  split at h
  · exact .inl (by assumption)
  · exact .inr (by assumption)
  · cases h
theorem isLoc_ok {sc : PySem.Scope} {x : Str} (h : isLoc sc x = true) : sc.names.lookup x = some .local := by
  unfold isLoc at h
  split at h
  · assumption
  · cases h
def gB (c : Ct) (t : Tg) : TG := fun v σ H Q => ∃ d ρ ρ' fp, Rep c.K c.σb H ρ σ fp ∧ Fp H v d ∧ bindT t d ρ = some ρ' ∧ ∀ σ' fp', Rep c.K c.σb H ρ' σ' fp' → (∀ i, fp' i = fp i ∨ fp' i = []) → (∀ j, j ∉ t.slots → σ'[j]? = σ[j]?) → σ'.length = σ.length → Q σ' H
def gBs (c : Ct) (ts : Tgs) : TGs := fun vs σ H Q => ∃ ds ρ ρ' fp, Rep c.K c.σb H ρ σ fp ∧ FpAll H vs ds ∧ bindTs ts ds ρ = some ρ' ∧ ∀ σ' fp', Rep c.K c.σb H ρ' σ' fp' → (∀ i, fp' i = fp i ∨ fp' i = []) → (∀ j, j ∉ ts.slots → σ'[j]? = σ[j]?) → σ'.length = σ.length → Q σ' H
mutual
def chkT (q : Sx) : Tg → Expr → Bool
  | .n i, .Name x _ => stoOk q i x
  | .t ts, .Tuple es _ _ => es.all tgOk && chkTs q ts es
  | _, _ => false
def chkTs (q : Sx) : Tgs → List Expr → Bool
  | .nil, [] => true
  | .cons t ts, e :: es => chkT q t e && chkTs q ts es
  | _, _ => false
end
theorem PG.imp {X : Cx} {e : Expr} {t t' : TG} (h : PG X e t) (i : ∀ v σ H Q, t' v σ H Q → t v σ H Q) : PG X e t' := ⟨fun pins s σ H v u Q I r q => h.run pins s σ H v u Q I r (i v σ H Q q)⟩
theorem PGs.imp {X : Cx} {e : List Expr} {t t' : TGs} (h : PGs X e t) (i : ∀ v σ H Q, t' v σ H Q → t v σ H Q) : PGs X e t' := ⟨fun pins s σ H v u Q I r q => h.run pins s σ H v u Q I r (i v σ H Q q)⟩
section
variable {q : Sx} {cf : CallF} {c : Ct} {X : Cx}
theorem OkX.sto (k : OkX q cf c X) {i : Nat} {x : Str} (h : stoOk q i x = true) : X.N[i]? = some x ∧ L2.Loc X.env.scope x ∧ (X.fn x = true ∨ X.env.scope.names.lookup x = some NameKind.local) := by
  unfold stoOk at h
  simp only [Bool.and_eq_true, beq_iff_eq] at h
  obtain ⟨⟨h1, h2⟩, h3⟩ := h
  refine ⟨by rw [k.N]; exact h1, by rw [k.sc]; exact locB_ok h2, ?_⟩
  have fb := k.fnb
  cases e : q.raw with
  | none => rw [e] at fb; exact .inl (fb x)
  | some s =>
    rw [e] at fb h3
    rw [Bool.or_eq_true] at h3
    rcases h3 with h3 | h3
    · exact .inr (by rw [k.sc]; exact isLoc_ok h3)
    · exact .inl (by rw [fb x]; exact h3)
theorem bindT_len : ∀ (t : Tg) (d : PyData) (ρ ρ' : En), bindT t d ρ = some ρ' → ρ'.length = ρ.length := by
  intro t
  refine Tg.rec (motive_1 := fun t => ∀ (d : PyData) (ρ ρ' : En), bindT t d ρ = some ρ' → ρ'.length = ρ.length) (motive_2 := fun ts => ∀ (ds : List PyData) (ρ ρ' : En), bindTs ts ds ρ = some ρ' → ρ'.length = ρ.length) ?_ ?_ ?_ ?_ t
  · intro i d ρ ρ' h
    obtain ⟨rfl, _⟩ := setS_inv (show setS ρ i (.im d) = some ρ' from h)
    simp
  · intro ts ih d ρ ρ' h
    cases d with
    | tuple ds => exact ih ds ρ ρ' h
    | _ => cases h
  · intro ds ρ ρ' h
    cases ds with
    | nil => cases h; rfl
    | cons d ds => cases h
  · intro t ts ih1 ih2 ds ρ ρ' h
    cases ds with
    | nil => cases h
    | cons d ds =>
      obtain ⟨ρ1, e1, e2⟩ := Option.bind_eq_some_iff.mp (show (bindT t d ρ).bind (bindTs ts ds) = some ρ' from h)
      rw [ih2 _ _ _ e2, ih1 _ _ _ e1]
theorem snd_tg (k : OkX q cf c X) : (∀ (t : Tg) (e : Expr), chkT q t e = true → PG X e (gB c t)) ∧ (∀ (ts : Tgs) (es : List Expr), chkTs q ts es = true → es.all tgOk = true → PGs X es (gBs c ts)) := by
  refine ⟨fun t => ?_, fun ts => ?_⟩
  all_goals first
    | refine Tg.rec (motive_1 := fun t => ∀ (e : Expr), chkT q t e = true → PG X e (gB c t)) (motive_2 := fun ts => ∀ (es : List Expr), chkTs q ts es = true → es.all tgOk = true → PGs X es (gBs c ts)) ?_ ?_ ?_ ?_ t
    | refine Tgs.rec (motive_1 := fun t => ∀ (e : Expr), chkT q t e = true → PG X e (gB c t)) (motive_2 := fun ts => ∀ (es : List Expr), chkTs q ts es = true → es.all tgOk = true → PGs X es (gBs c ts)) ?_ ?_ ?_ ?_ ts
  all_goals first
    | (intro i e h
       cases e with
       | Name x p =>
         obtain ⟨h1, h2, h3⟩ := k.sto (show stoOk q i x = true from h)
         refine PG.imp (pg_name k.nd h1 h2 h3) fun v σ H Q hq => ?_
         obtain ⟨d, ρ, ρ', fp, r, f, e, n⟩ := hq
         obtain ⟨rfl, hi⟩ := setS_inv (show setS ρ i (.im d) = some ρ' from e)
         refine n _ _ (r.setIm hi f) (fun j => ?_) (fun j hj => ?_) (by simp)
         · by_cases e : j = i
           · right; rw [e, fpSet_same]
           · left; rw [fpSet_ne e]
         · have hj : j ≠ i := fun z => hj (by rw [z]; exact List.mem_singleton.mpr rfl)
           exact List.getElem?_set_ne (fun z => hj z.symm)
       | _ => cases h)
    | (intro ts ih e h
       cases e with
       | Tuple es n p =>
         rw [chkT, Bool.and_eq_true] at h
         obtain ⟨l, no⟩ := assign_len X.env es h.1
         refine PG.imp (pg_tup k.calm (ih es h.2 h.1) l no) fun v σ H Q hq => ?_
         obtain ⟨d, ρ, ρ', fp, r, f, e, n⟩ := hq
         cases d with
         | tuple ds =>
           obtain ⟨p, vs, rfl, z, fa⟩ := f.tup_inv
           refine ⟨p, vs, rfl, SqT.of z, ?_, ds, ρ, ρ', fp, r, fa, e, n⟩
           have : ∀ (ts : Tgs) (es : List Expr) (ds : List PyData) (ρ ρ' : En), chkTs q ts es = true → bindTs ts ds ρ = some ρ' → ds.length = es.length := by
             intro ts
             refine Tgs.rec (motive_1 := fun _ => True) (motive_2 := fun ts => ∀ (es : List Expr) (ds : List PyData) (ρ ρ' : En), chkTs q ts es = true → bindTs ts ds ρ = some ρ' → ds.length = es.length) (fun _ => trivial) (fun _ _ => trivial) ?_ ?_ ts
             · intro es ds ρ ρ' h1 h2
               cases es with
               | nil => cases ds with
                 | nil => rfl
                 | cons d ds => cases h2
               | cons e es => cases h1
             · intro t ts _ ih es ds ρ ρ' h1 h2
               cases es with
               | nil => cases h1
               | cons e es =>
                 cases ds with
                 | nil => cases h2
                 | cons d ds =>
                   rw [chkTs, Bool.and_eq_true] at h1
                   obtain ⟨ρ1, e1, e2⟩ := Option.bind_eq_some_iff.mp (show (bindT t d ρ).bind (bindTs ts ds) = some ρ' from h2)
                   rw [List.length_cons, List.length_cons, ih es ds ρ1 ρ' h1.2 e2]
           rw [fa.length]
           exact this ts es ds ρ ρ' h.2 e
         | _ => cases e
       | _ => cases h)
    | (intro es h _
       cases es with
       | nil =>
         refine PGs.imp pgs_nil fun vs σ H Q hq => ?_
         obtain ⟨ds, ρ, ρ', fp, r, f, e, n⟩ := hq
         cases ds with
         | nil =>
           cases f
           cases e
           exact ⟨rfl, n σ fp r (fun _ => .inl rfl) (fun _ _ => rfl) rfl⟩
         | cons d ds => cases e
       | cons e es => cases h)
    | (intro t ts ih1 ih2 es h ho
       cases es with
       | nil => cases h
       | cons e es =>
         rw [chkTs, Bool.and_eq_true] at h
         rw [List.all_cons, Bool.and_eq_true] at ho
         refine PGs.imp (pgs_cons (ih1 e h.1) (ih2 es h.2 ho.2) (by rw [assign1 ho.1]; rfl)) fun vs σ H Q hq => ?_
         obtain ⟨ds, ρ, ρ', fp, r, f, e, n⟩ := hq
         cases ds with
         | nil => cases e
         | cons d ds =>
           obtain ⟨ρ1, e1, e2⟩ := Option.bind_eq_some_iff.mp (show (bindT t d ρ).bind (bindTs ts ds) = some ρ' from e)
           cases f with
           | cons fd fds =>
             refine ⟨_, _, rfl, d, ρ, ρ1, fp, r, fd, e1, fun σ1 fp1 r1 s1 o1 l1 => ⟨ds, ρ1, ρ', fp1, r1, fds, e2, fun σ2 fp2 r2 s2 o2 l2 => n σ2 fp2 r2 (fun i => ?_) (fun j hj => ?_) (l2.trans l1)⟩⟩
             · rcases s2 i with e | e
               · rcases s1 i with e' | e'
                 · exact .inl (e.trans e')
                 · exact .inr (e.trans e')
               · exact .inr e
             · have hj : j ∉ t.slots ∧ j ∉ ts.slots := by
                 have : Tgs.slots (.cons t ts) = t.slots ++ ts.slots := rfl
                 rw [this, List.mem_append] at hj
                 exact ⟨fun z => hj (.inl z), fun z => hj (.inr z)⟩
               rw [o2 j hj.2, o1 j hj.1])
end
end AF

set_option maxHeartbeats 4000000
namespace AF
open PySem PySem.Spec L2
open PyProof.Rows hiding St
/-! ## 23. list comprehensions -/
theorem PE.all {α : Type} {X : Cx} {e : Expr} {t : α → TE} (h : ∀ a, PE X e (t a)) : PE X e (fun σ H Q => ∃ a, t a σ H Q) := ⟨fun pins s σ H Q I ⟨a, q⟩ => (h a).run pins s σ H Q I q⟩
theorem PTs.all {α : Type} {X : Cx} {e : List Expr} {t : α → TT} (h : ∀ a, PTs X e (t a)) : PTs X e (fun σ H Q => ∃ a, t a σ H Q) := ⟨fun pins s σ H Q I ⟨a, q⟩ => (h a).run pins s σ H Q I q⟩
theorem PTs.imp {X : Cx} {e : List Expr} {t t' : TT} (h : PTs X e t) (i : ∀ σ H Q, t' σ H Q → t σ H Q) : PTs X e t' := ⟨fun pins s σ H Q I q => h.run pins s σ H Q I (i σ H Q q)⟩
section
variable {K : PySem.W.Frag} {σb : L2.St} {H H' : Hp} {ρ ρ' : En} {σ : L2.St} {fp fp' : Nat → List Addr}
def fpDrop (fp : Nat → List Addr) (own : List Nat) : Nat → List Addr := fun j => if j ∈ own then [] else fp j
theorem forget_len (own : List Nat) : ∀ ρ : En, (forget own ρ).length = ρ.length := by
  induction own with
  | nil => intro ρ; rfl
  | cons i r ih => intro ρ; rw [forget, ih]; simp
theorem forget_in {own : List Nat} : ∀ {ρ : En} {j : Nat}, j ∈ own → j < ρ.length → (forget own ρ)[j]? = some .un := by
  induction own with
  | nil => intro ρ j h; cases h
  | cons i r ih =>
    intro ρ j h hj
    rw [forget]
    by_cases hr : j ∈ r
    · exact ih hr (by simpa using hj)
    · obtain rfl : j = i := by rcases List.mem_cons.mp h with h | h; exact h; exact absurd h hr
      have out : ∀ (r : List Nat) (ρ : En), j ∉ r → (forget r ρ)[j]? = ρ[j]? := by
        intro r
        induction r with
        | nil => intro ρ _; rfl
        | cons i r ih =>
          intro ρ h
          rw [forget, ih _ (fun z => h (List.mem_cons_of_mem _ z))]
          exact List.getElem?_set_ne (fun z => h (by rw [z]; exact List.mem_cons_self))
      rw [out r _ hr, List.getElem?_set_self hj]
theorem forget_out {own : List Nat} : ∀ {ρ : En} {j : Nat}, j ∉ own → (forget own ρ)[j]? = ρ[j]? := by
  induction own with
  | nil => intro ρ j _; rfl
  | cons i r ih =>
    intro ρ j h
    rw [forget, ih (fun z => h (List.mem_cons_of_mem _ z))]
    exact List.getElem?_set_ne (fun z => h (by rw [z]; exact List.mem_cons_self))
theorem at_wipe_out {own : List Nat} {j : Nat} (h : j ∉ own) : at_ (wipe σ own) j = at_ σ j := by unfold at_; rw [wipe_out h]
theorem Rep.wipe (r : Rep K σb H ρ σ fp) (own : List Nat) : Rep K σb H (forget own ρ) (wipe σ own) (fpDrop fp own) := by
  refine ⟨by rw [forget_len, wipe_length, r.len], fun i s h => ?_, fun i hi => ?_, fun i j a ha hb => ?_, by rw [wipe_length]; exact r.lb⟩
  · unfold fpDrop
    by_cases hi : i ∈ own
    · have hl : i < ρ.length := by
        have := (List.getElem?_eq_some_iff.mp h).1
        rwa [forget_len] at this
      rw [forget_in hi hl] at h
      cases h
      simp [hi, SlotOk]
    · rw [forget_out hi] at h
      simp only [hi, if_false]
      rw [at_wipe_out hi]
      exact r.ok i s h
  · rw [forget_len] at hi
    unfold fpDrop
    split
    · rfl
    · exact r.out i hi
  · unfold fpDrop at ha hb
    split at ha
    · cases ha
    · split at hb
      · cases hb
      · exact r.dis i j a ha hb
theorem Rep.forget (r : Rep K σb H ρ σ fp) (own : List Nat) : Rep K σb H (forget own ρ) σ (fpDrop fp own) := by
  refine ⟨by rw [forget_len, r.len], fun i s h => ?_, fun i hi => ?_, fun i j a ha hb => ?_, r.lb⟩
  · unfold fpDrop
    by_cases hi : i ∈ own
    · have hl : i < ρ.length := by
        have := (List.getElem?_eq_some_iff.mp h).1
        rwa [forget_len] at this
      rw [forget_in hi hl] at h
      cases h
      simp [hi, SlotOk]
    · rw [forget_out hi] at h
      simp only [hi, if_false]
      exact r.ok i s h
  · rw [forget_len] at hi
    unfold fpDrop
    split
    · rfl
    · exact r.out i hi
  · unfold fpDrop at ha hb
    split at ha
    · cases ha
    · split at hb
      · cases hb
      · exact r.dis i j a ha hb
theorem restore_len (own : List Nat) (ρ0 : En) : ∀ ρ : En, (restore own ρ0 ρ).length = ρ.length := by
  unfold restore
  induction own with
  | nil => intro ρ; rfl
  | cons i r ih =>
    intro ρ
    rw [List.foldl_cons, ih]
    split <;> simp
theorem restore_out {own : List Nat} {ρ0 : En} : ∀ {ρ : En} {j : Nat}, j ∉ own → (restore own ρ0 ρ)[j]? = ρ[j]? := by
  unfold restore
  induction own with
  | nil => intro ρ j _; rfl
  | cons i r ih =>
    intro ρ j h
    rw [List.foldl_cons, ih (fun z => h (List.mem_cons_of_mem _ z))]
    split
    · exact List.getElem?_set_ne (fun z => h (by rw [z]; exact List.mem_cons_self))
    · rfl
theorem restore_in {own : List Nat} {ρ0 : En} : ∀ {ρ : En} {j : Nat} {s : S}, j ∈ own → j < ρ.length → ρ0[j]? = some s → (restore own ρ0 ρ)[j]? = some s := by
  induction own with
  | nil => intro ρ j s h; cases h
  | cons i r ih =>
    intro ρ j s h hj h0
    have e : restore (i :: r) ρ0 ρ = restore r ρ0 (match ρ0[i]? with | some s => ρ.set i s | none => ρ) := rfl
    rw [e]
    by_cases hr : j ∈ r
    · refine ih hr ?_ h0
      split <;> simpa using hj
    · obtain rfl : j = i := by rcases List.mem_cons.mp h with h | h; exact h; exact absurd h hr
      rw [restore_out hr, h0]
      exact List.getElem?_set_self hj
theorem Rep.back {H1 : Hp} {ρ1 : En} {fp1 : Nat → List Addr} (r1 : Rep K σb H1 ρ1 σ fp1) {own : List Nat} (hc : cleanAt ρ1 own = true) (r : Rep K σb H ρ (L2.wipe σ own) fp) (e : Ext H1 H) : Rep K σb H (restore own ρ1 ρ) σ (fpDrop fp own) := by
  have hl := r.len
  rw [wipe_length] at hl
  refine ⟨by rw [restore_len, hl], fun i s h => ?_, fun i hi => ?_, fun i j a ha hb => ?_, r1.lb⟩
  · unfold fpDrop
    by_cases hi : i ∈ own
    · simp only [hi, if_true]
      unfold cleanAt at hc
      have hc := List.all_eq_true.mp hc i hi
      cases e0 : ρ1[i]? with
      | none => rw [e0] at hc; cases hc
      | some s0 =>
        rw [e0] at hc
        have hil : i < ρ.length := by
          have := (List.getElem?_eq_some_iff.mp e0).1
          have l1 := r1.len
          omega
        rw [restore_in hi hil e0] at h
        cases h
        have ok := r1.ok i s e0
        cases s with
        | un => rfl
        | im d =>
          obtain ⟨_, v, e1, f⟩ := ok
          exact ⟨rfl, v, e1, Fp.mono e _ f⟩
        | mu _ => cases hc
        | rf _ => cases hc
        | sc _ => cases hc
    · simp only [hi, if_false]
      rw [restore_out hi] at h
      have ok := r.ok i s h
      rw [at_wipe_out hi] at ok
      exact ok
  · rw [restore_len] at hi
    unfold fpDrop
    split
    · rfl
    · exact r.out i hi
  · unfold fpDrop at ha hb
    split at ha
    · cases ha
    · split at hb
      · cases hb
      · exact r.dis i j a ha hb
theorem Stp.sub (s : Stp H fp H' fp') {fp2 : Nat → List Addr} (h : ∀ i, fp2 i = fp' i ∨ fp2 i = []) : Stp H fp H' fp2 := by
  refine ⟨s.ext, s.keep, fun i a ha => ?_⟩
  rcases h i with e | e
  · rw [e] at ha; exact s.new i a ha
  · rw [e] at ha; cases ha
theorem fpDrop_sub (fp : Nat → List Addr) (own : List Nat) (i : Nat) : fpDrop fp own i = fp i ∨ fpDrop fp own i = [] := by
  unfold fpDrop
  split
  · exact .inr rfl
  · exact .inl rfl
theorem wipe_eq {σ σ' : L2.St} {own : List Nat} (h : ∀ j, j ∉ own → σ'[j]? = (L2.wipe σ own)[j]?) (l : σ'.length = σ.length) : L2.wipe σ' own = L2.wipe σ own := by
  have z : ∀ (own : List Nat) (σ : L2.St) (j : Nat), j ∈ own → j < σ.length → (L2.wipe σ own)[j]? = some none := by
    intro own
    induction own with
    | nil => intro σ j h; cases h
    | cons i r ih =>
      intro σ j h hj
      have e : L2.wipe σ (i :: r) = (L2.wipe σ r).set i none := rfl
      rw [e]
      by_cases hji : j = i
      · subst hji
        exact List.getElem?_set_self (by rw [wipe_length]; exact hj)
      · rw [List.getElem?_set_ne (fun z => hji z.symm)]
        exact ih σ j (by rcases List.mem_cons.mp h with h | h; exact absurd h hji; exact h) hj
  apply List.ext_getElem?
  intro j
  by_cases hj : j ∈ own
  · by_cases hl : j < σ.length
    · rw [z own σ' j hj (by omega), z own σ j hj hl]
    · rw [List.getElem?_eq_none (by rw [wipe_length]; omega), List.getElem?_eq_none (by rw [wipe_length]; omega)]
  · rw [wipe_out hj, h j hj]
end
section
variable {q : Sx} {cf : CallF} {c : Ct} {X : Cx}
def Sx.comp (q : Sx) (scope : PySem.Scope) : Sx := ⟨q.g, q.N, relS scope q.sc, some scope⟩
def Ct.calm (c : Ct) : Ct := ⟨c.K, c.mg, fun _ _ _ _ => False, c.σb⟩
theorem OkX.comp (k : OkX q cf c X) {scope : PySem.Scope} {s : Shared} {H : Hp} {C : Addr} {cl : List (Str × Addr)} {fp : List Addr} : OkX (q.comp scope) cf c.calm (X.blk s H scope (compEnvC scope cl C X.env) fp) where
  N := k.N
  sc := by
    show relabel scope X.env = relS scope q.sc
    rw [← k.sc]
    rfl
  nd := k.nd
  calm := k.calm
  hu := k.hu
  K := k.K
  mg := k.mg
  free := k.free
  con := k.con
  fn := k.fn
  pass := fun σ pins H s e s' I h => by
    obtain ⟨a, B, H', cls, d, _, _, _, _, _, _, _, z⟩ := h
    exact z.elim
  own := PassesOwn.never
  tk := fun u s' ⟨a, B, sI, pins, σ, H, cls, d, _, _, _, _, _, _, _, _, z⟩ => z
  exc := k.exc
  tt := k.tt
  ts := k.ts
  fnb := fun x => rfl
/-- one turn -/
def lcF (cf : CallF) (e : E) (t : Tg) (cs : Es) (x : PyData) (ρ2 : En) : R (Option PyData) := (R.of (bindT t x ρ2) ρ2).bind fun ρ3 _ => (evAnd cf cs ρ3).bind fun b ρ4 => match b with
  | .bool true => (ev cf e ρ4).bind fun y ρ5 => .ok (some y) ρ5
  | .bool false => .ok none ρ4
  | _ => .st
theorem Stp.push {H1 H4 : Hp} {fp1 fp5 fp6 : Nat → List Addr} {D : Addr} {l l' : List V} (s : Stp H1 fp1 H4 fp5) (h0 : H1 D = none) (h4 : H4 D = some (.lst l)) (sub : ∀ i, fp6 i = fp5 i ∨ fp6 i = []) : Stp H1 fp1 (upd H4 D (.lst l')) fp6 := by
  have e : Ext H4 (upd H4 D (.lst l')) := ⟨fun a xs h => by rw [upd_ne (fun z => by subst z; rw [h4] at h; cases h)]; exact h, fun a o u h => by rw [upd_ne (fun z => by subst z; rw [h4] at h; cases h)]; exact h⟩
  refine ⟨s.ext.trans e, fun a o h n => ?_, (s.sub sub).new⟩
  rw [upd_ne (fun z => by subst z; rw [h0] at h; cases h)]
  exact s.keep a o h n
theorem lc_read {e : E} {t : Tg} {it : AF.It} {cs : Es} {own : List Nat} {ρ : En} {σ : L2.St} {H : Hp} {Q : VK} (hts : ∀ j ∈ t.slots, j ∈ own)
    (h : tF c ρ (ev cf (.lc e t it cs own) ρ) σ H Q) : tLc (tR vIt c ρ (evIt cf it ρ)) (gB c.calm t) (fun σ H Q => ∃ ρ, tE c.calm ρ (evAnd cf cs ρ) σ H fun v H1 => ∃ k, v = V.bl k ∧ Q k H1) (fun σ H Q => ∃ ρ, tE c.calm ρ (ev cf e ρ) σ H Q) own σ H Q := by
  have h : tF c ρ ((evIt cf it ρ).bind fun xs ρ1 => if cleanAt ρ1 own then ((lcLoop (lcF cf e t cs) (forget own) xs [] (forget own ρ1)).calm).bind fun ys ρ6 => .ok (.list ys) (restore own ρ1 ρ6) else .st) σ H Q := h
  show tR vIt c ρ (evIt cf it ρ) σ H _
  generalize evIt cf it ρ = ri at h ⊢
  cases ri with
  | st => exact h.stF.elim
  | ex n f ρ1 => exact tR.ex h
  | ok xs ρ1 =>
    refine tR.go h fun fp J H1 fp1 w e1 h1 D hD => ?_
    rw [R.bind_ok] at h1
    split at h1
    · rename_i hc
      obtain ⟨hlen, G, Y, w, hG, hY⟩ := w
      obtain ⟨fp1, r1, h1⟩ := h1
      cases hl : lcLoop (lcF cf e t cs) (forget own) xs [] (forget own ρ1) with
      | st => rw [hl] at h1; exact h1.elim
      | ex n f ρ6 => rw [hl] at h1; exact h1.elim
      | ok ys ρ6 =>
        rw [hl] at h1
        have h1 : tRc vF c fp1 (.ok (.list ys) (restore own ρ1 ρ6)) σ H1 Q := h1
        have cell0 : ∀ j, D ∉ fp1 j := fun j hj => by
          obtain ⟨u, eu, _⟩ := r1.cell hj
          rw [hD] at eu; cases eu
        refine lc_it w (g := gB c.calm t) (tt := fun σ H Q => ∃ ρ, tE c.calm ρ (evAnd cf cs ρ) σ H fun v H1 => ∃ k, v = V.bl k ∧ Q k H1) (te := fun σ H Q => ∃ ρ, tE c.calm ρ (ev cf e ρ) σ H Q) (vs := own) (σ := σ) (H1 := H1) (D := D) (Qd := fun H => Q (.ref D) H) (Pv := fun i H2 => ∃ acc ρ2 fp2 vs2, H2 D = some (.lst vs2) ∧ FpAll H2 vs2 acc ∧ acc.length ≤ i ∧ Rep c.K c.σb H2 ρ2 (wipe σ own) fp2 ∧ (∀ j, D ∉ fp2 j) ∧ Stp H1 fp1 H2 fp2 ∧ lcLoop (lcF cf e t cs) (forget own) (xs.drop i) acc ρ2 = .ok ys ρ6) ?_ ?_ ?_ ?_
        · refine ⟨[], forget own ρ1, fpDrop fp1 own, [], upd_same, .nil, Nat.le_refl 0, (r1.wipe own).same (Sam.new hD), fun j hj => ?_, (Stp.same (Sam.new hD)).sub (fpDrop_sub fp1 own), hl⟩
          rcases fpDrop_sub fp1 own j with z | z
          · rw [z] at hj; exact cell0 j hj
          · rw [z] at hj; cases hj
        · intro i H2 hi ⟨acc, ρ2, fp2, vs2, a1, a2, a3, a4, a5, a6, a7⟩
          exact hG H2 a6.ext
        · intro i x H2 H3 hi ⟨acc, ρ2, fp2, vs2, a1, a2, a3, a4, a5, a6, a7⟩ hy
          obtain ⟨sm, d, ed, fd⟩ := hY i H2 x H3 a6.ext hy
          have edr : xs.drop i = d :: xs.drop (i + 1) := by
            rw [List.drop_eq_getElem_cons hi]
            rw [List.getElem?_eq_getElem hi] at ed
            rw [Option.some.inj ed]
          rw [edr] at a7
          have a7 : (lcF cf e t cs d ρ2).bind (fun o ρ1 => lcLoop (lcF cf e t cs) (forget own) (xs.drop (i + 1)) (match o with
            | some y => acc ++ [y]
            | none => acc) (forget own ρ1)) = .ok ys ρ6 := a7
          cases eF : lcF cf e t cs d ρ2 with
          | st => rw [eF] at a7; cases a7
          | ex n f ρ' => rw [eF] at a7; cases a7
          | ok o ρ5 =>
            rw [eF, R.bind_ok] at a7
            unfold lcF at eF
            cases eb : bindT t d ρ2 with
            | none => rw [eb] at eF; cases eF
            | some ρ3 =>
              rw [eb, R.of_some, R.bind_ok] at eF
              refine ⟨d, ρ2, ρ3, fp2, a4.same sm, fd, eb, fun σ' fp3 r3 sub3 out3 len3 => ?_⟩
              have hw : wipe σ' own = wipe σ own := wipe_eq (fun j hj => out3 j (fun z => hj (hts j z))) (by rw [len3, wipe_length])
              refine ⟨hw, ρ3, ?_⟩
              have s3 : Stp H1 fp1 H3 fp3 := (a6.trans (Stp.same sm)).sub sub3
              have d3 : H3 D = some (.lst vs2) := sm D _ a1
              have n3 : ∀ j, D ∉ fp3 j := fun j hj => by
                rcases sub3 j with z | z
                · rw [z] at hj; exact a5 j hj
                · rw [z] at hj; cases hj
              have next : ∀ {H4 : Hp} {fp4 : Nat → List Addr}, Stp H3 fp3 H4 fp4 → (∀ j, D ∉ fp4 j) ∧ H4 D = some (.lst vs2) := by
                intro H4 fp4 s4
                refine ⟨fun j hj => ?_, s4.keep D _ d3 n3⟩
                rcases s4.new j D hj with ⟨k, hk⟩ | z
                · exact n3 k hk
                · rw [d3] at z; cases z
              cases ec : evAnd cf cs ρ3 with
              | st => rw [ec] at eF; cases eF
              | ex n f ρ' => rw [ec] at eF; cases eF
              | ok b ρ4 =>
                rw [ec, R.bind_ok] at eF
                refine ⟨fp3, r3, fun v H4 fp4 r4 fv s4 => ?_⟩
                cases b with
                | bool b =>
                  obtain rfl := (show Fp H4 v (.bool b) from fv).bl_inv
                  refine ⟨b, rfl, ?_⟩
                  obtain ⟨n4, d4⟩ := next s4
                  cases b with
                  | false =>
                    dsimp only at eF
                    cases eF
                    refine ⟨acc, forget own ρ5, fpDrop fp4 own, vs2, d4, FpAll.mono (sm.ext.trans s4.ext) _ a2, by omega, ?_, fun j hj => ?_, (s3.trans s4).sub (fpDrop_sub fp4 own), a7⟩
                    · rw [← hw]; exact r4.wipe own
                    · rcases fpDrop_sub fp4 own j with z | z
                      · rw [z] at hj; exact n4 j hj
                      · rw [z] at hj; cases hj
                  | true =>
                    dsimp only at eF
                    cases ee : ev cf e ρ4 with
                    | st => rw [ee] at eF; cases eF
                    | ex n f ρ' => rw [ee] at eF; cases eF
                    | ok y ρ5' =>
                      rw [ee, R.bind_ok] at eF
                      cases eF
                      show ∃ ρ, tE c.calm ρ (ev cf e ρ) σ' H4 _
                      refine ⟨ρ4, ?_⟩
                      rw [ee]
                      refine ⟨fp4, r4, fun w H5 fp5 r5 fw s5 => ?_⟩
                      have s35 := s4.trans s5
                      obtain ⟨n5, d5⟩ := next s35
                      have hacc : vs2.length = acc.length := a2.length
                      have ex5 : Ext H5 (upd H5 D (.lst (vs2 ++ [w]))) := ⟨fun a xs h => by rw [upd_ne (fun z => by subst z; rw [d5] at h; cases h)]; exact h, fun a o u h => by rw [upd_ne (fun z => by subst z; rw [d5] at h; cases h)]; exact h⟩
                      refine ⟨vs2, d5, by omega, acc ++ [y], forget own ρ5, fpDrop fp5 own, vs2 ++ [w], upd_same, ?_, by simp; omega, ?_, fun j hj => ?_, (s3.trans s35).push hD d5 (fpDrop_sub fp5 own), a7⟩
                      · exact FpAll.append (FpAll.mono ((sm.ext.trans s35.ext).trans ex5) _ a2) (.cons (Fp.mono ex5 _ fw) .nil)
                      · rw [← hw]
                        refine (r5.wipe own).mono ex5 fun i a ha u hu => ?_
                        rw [upd_ne (fun z => ?_)]
                        · exact hu
                        · rw [z] at ha
                          rcases fpDrop_sub fp5 own i with z | z
                          · rw [z] at ha; exact n5 i ha
                          · rw [z] at ha; cases ha
                      · rcases fpDrop_sub fp5 own j with z | z
                        · rw [z] at hj; exact n5 j hj
                        · rw [z] at hj; cases hj
                | _ => cases eF
        · intro H2 ⟨acc, ρ2, fp2, vs2, a1, a2, a3, a4, a5, a6, a7⟩
          rw [List.drop_length] at a7
          cases a7
          refine h1 (.ref D) H2 (fpDrop fp2 own) (r1.back hc a4 a6.ext) ?_ (a6.sub (fpDrop_sub fp2 own))
          refine ⟨D, vs2, rfl, ⟨.inr hD, fun i hi => ?_⟩, a1, a2⟩
          rcases fpDrop_sub fp2 own i with z | z
          · rw [z] at hi; exact a5 i hi
          · rw [z] at hi; cases hi
    · exact h1.stF.elim
end
end AF

set_option maxHeartbeats 4000000
namespace AF
open PySem PySem.Spec L2
open PyProof.Rows hiding St
/-! ## 24. the check of expressions -/
def plainT : Expr → Bool
  | .Compare .. => false
  | .BoolOp .. => false
  | .UnaryOp .. => false
  | .IfExp .. => false
  | _ => true
theorem plain_he {e : Expr} (h : plainT e = true) (env : PySem.Env) : ∀ whole, isTrue e env whole = (do
            let v ← whole
            standAt (Expr.pos e)
            holding [v] (truthy v)) := by
  intro w
  cases e <;> first | rfl | cases h
/-- may stand where a test stands -/
def tst : Expr → Bool
  | .Compare .. => true
  | .BoolOp .. => true
  | .UnaryOp .Not _ _ => true
  | e => plainT e
def constOk : PyData → Const → Bool
  | .none, .none => true
  | .bool b, .bool b' => b == b'
  | .int i, .int j => decide (i = j)
  | .str x, .str y => decide (x = y)
  | _, _ => false
def eqC : PyData → PyData → Bool
  | .int i, .int j => decide (i = j)
  | .str x, .str y => decide (x = y)
  | _, _ => false
def conOk (q : Sx) (x : Str) (d : PyData) : Bool := q.g.cons.any fun p => p.1 == x && eqC p.2 d
def nmEq (x : Str) (n : String) : Bool := x == Str.ofString n
def lineOk (a b : Pos) : Bool := a.endLine == b.line
def meName : Me → String
  | .join => "join"
  | .strip => "strip"
  | .split => "split"
  | .count => "count"
  | .index => "index"
  | .get => "get"
def biName : Bi → String
  | .len => "len"
  | .list => "list"
  | .tuple => "tuple"
  | .sorted => "sorted"
  | .min => "min"
  | .max => "max"
  | .sum => "sum"
  | .all => "all"
  | .abs => "abs"
  | .dict => "dict"
  | .sset => "sorted"
  | .lset => "len"
def biOk : Bi → Bool
  | .sset => false
  | .lset => false
  | _ => true
def isTup : Expr → Bool
  | .Tuple .. => true
  | _ => false
def nset : Expr → Bool
  | .Set .. => false
  | _ => true
/-- its answer is new, or plain -/
def isF : E → Bool
  | .bin .. => true
  | .lst .. => true
  | .slT .. => true
  | .slH .. => true
  | .slB .. => true
  | .rev .. => true
  | .bi .. => true
  | .lc .. => true
  | .dic0 => true
  | .me m _ _ => match m with
    | .get => false
    | _ => true
  | _ => false
mutual
def chkE (q : Sx) : E → Expr → Bool
  | .v i, .Name x _ => varOk q i x
  | .k d, .Constant c _ _ => constOk d c
  | .g x d, .Name y _ => (x == y) && gloOk q y && conOk q y d
  | .bin op a b, .BinOp l o r _ => decide (op = o) && chkE q a l && chkE q b r
  | .neg a, .UnaryOp .USub l _ => chkE q a l
  | .cmp op a b, .Compare l [o] [r] _ => decide (op = o) && !behindInMarks o r && chkE q a l && chkE q b r
  | .chn op op2 a b c, .Compare l [o, o2] [r, r2] _ => decide (op = o) && decide (op2 = o2) && !lastMarks [o, o2] [r, r2] && chkE q a l && chkE q b r && chkE q c r2
  | .and a es, .BoolOp .And (l :: r :: rs) _ => tst l && (r :: rs).all tst && chkE q a l && chkEs q es (r :: rs)
  | .or a es, .BoolOp .Or (l :: r :: rs) _ => tst l && (r :: rs).all tst && chkE q a l && chkEs q es (r :: rs)
  | .not a, .UnaryOp .Not l _ => tst l && chkE q a l
  | .ite c a b, .IfExp t l r _ => tst t && chkE q c t && chkE q a l && chkE q b r
  | .tup es, .Tuple as _ _ => as.all nstar && decide (as.length ≤ lim) && chkEs q es as
  | .lst es, .List as _ => as.all nstar && decide (as.length ≤ lim) && chkEs q es as
  | .ix a b, .Subscript l r _ => nsl r && chkE q a l && chkE q b r
  | .slT a b, .Subscript l (.Slice (some r) none none _) _ => chkE q a l && chkE q b r
  | .slH a b, .Subscript l (.Slice none (some r) none _) _ => chkE q a l && chkE q b r
  | .slB a b c, .Subscript l (.Slice (some r) (some r2) none _) _ => chkE q a l && chkE q b r && chkE q c r2
  | .rev a, .Subscript l (.Slice none none (some (.UnaryOp .USub (.Constant (.int 1) _ _) _)) _) _ => chkE q a l
  | .bi f a, .Call (.Name x _) [l] [] _ => biOk f && freeOk q x (biName f) && nstar l && chkE q a l
  | .mm mx a b, .Call (.Name x _) [l, r] [] _ => freeOk q x (if mx then "max" else "min") && nstar l && nstar r && chkE q a l && chkE q b r
  | .isi a t, .Call (.Name x _) [l, .Name y _] [] _ => freeOk q x "isinstance" && freeOk q y t.nm && nstar l && chkE q a l
  | .me m a b, .Call (.Attribute l nm p) [r] [] p2 => nmEq nm (meName m) && nstar r && nsup l && lineOk p p2 && chkE q a l && chkE q b r
  | .get2 a b c, .Call (.Attribute l nm p) [r, r2] [] p2 => nmEq nm "get" && nstar r && nstar r2 && nsup l && lineOk p p2 && chkE q a l && chkE q b r && chkE q c r2
  | .call id as, .Call (.Name x _) (l :: ls) [] _ => fnOk q x id && nstar l && ls.all nstar && chkAs q as (l :: ls)
  | .lc e t it cs own, .ListComp elt [⟨tg, iter, ifs, 0⟩] scope _ => nset iter && blkC q.N q.sc scope (own.map fun i => (q.N.getD i (Str.ofString ""), i)) && t.slots.all (own.contains ·) && decide (ifs.length ≤ 1) && ifs.all tst && chkIt q it tg iter && chkT (q.comp scope) t tg &&
      chkEs (q.comp scope) cs ifs && chkE (q.comp scope) e elt
  | .dic0, .Dict [] [] _ => true
  | .lenM i, .Call (.Name x _) [.Name y _] [] _ => freeOk q x "len" && varOk q i y
  | .ixM i b, .Subscript (.Name y _) r _ => varOk q i y && nsl r && chkE q b r
  | .inM neg a i, .Compare l [o] [.Name y _] _ => decide (o = if neg then .NotIn else .In) && varOk q i y && chkE q a l
  | .nilM neg i, .Compare (.Name y _) [o] [.List [] _] _ => decide (o = eqB neg) && varOk q i y
  | .getM i a b, .Call (.Attribute (.Name y _) nm p) [r, r2] [] p2 => nmEq nm "get" && varOk q i y && nstar r && nstar r2 && lineOk p p2 && chkE q a r && chkE q b r2
  | .popM i, .Call (.Attribute (.Name y _) nm p) [] [] p2 => nmEq nm "pop" && varOk q i y && lineOk p p2
  | .lenS i, .Call (.Name x _) [.Name y _] [] _ => freeOk q x "len" && varOk q i y
  | .ixS i b, .Subscript (.Name y _) r _ => varOk q i y && nsl r && chkE q b r
  | .nilS i, .Compare (.Name y _) [.Eq] [.List [] _] _ => varOk q i y
  | .gix x d a b, .Subscript (.Subscript (.Name y _) l _) r _ => decide (x = y) && gloOk q y && (q.g.tts.any fun z => z.1 == y && decide (z.2 = d)) && nsl l && nsl r && chkE q a l && chkE q b r
  | .gin x d neg a, .Compare l [o] [.Name y _] _ => decide (x = y) && decide (o = if neg then .NotIn else .In) && gloOk q y && (q.g.tss.any fun z => z.1 == y && decide (z.2 = d)) && chkE q a l
  | .any, _ => true
  | _, _ => false
def chkEs (q : Sx) : Es → List Expr → Bool
  | .nil, [] => true
  | .cons e es, a :: as => chkE q e a && chkEs q es as
  | _, _ => false
def chkAs (q : Sx) : As → List Expr → Bool
  | .nil, [] => true
  | .e e as, a :: r => nstar a && chkE q e a && chkAs q as r
  | .r i as, .Name x _ :: r => varOk q i x && chkAs q as r
  | .s i as, .Name x _ :: r => varOk q i x && chkAs q as r
  | _, _ => false
def chkIt (q : Sx) : It → Expr → Expr → Bool
  | .ex e, _, a => chkE q e a
  | .rng1 e, _, .Call (.Name x _) [a] [] _ => freeOk q x "range" && nstar a && chkE q e a
  | .rng2 e f, _, .Call (.Name x _) [a, b] [] _ => freeOk q x "range" && nstar a && nstar b && chkE q e a && chkE q f b
  | .enm e, tg, .Call (.Name x _) [a] [] _ => isTup tg && freeOk q x "enumerate" && nstar a && chkE q e a
  | .zip e f, tg, .Call (.Name x _) [a, b] [] _ => isTup tg && freeOk q x "zip" && nstar a && nstar b && chkE q e a && chkE q f b
  | _, _, _ => false
end
section
variable {q : Sx} {cf : CallF} {c : Ct} {X : Cx} {a b d : Expr} {fa fb fd : En → R PyData}
theorem nd_chn {Z : TE → Prop} (j : Jd Z) {op op2 : CmpOp} (ha : ∀ ρ, PE X a (tE c ρ (fa ρ))) (hb : ∀ ρ, PE X b (tE c ρ (fb ρ))) (hd : ∀ ρ, PE X d (tE c ρ (fd ρ)))
    (ru : ∀ ta tb td, PE X a ta → PE X b tb → PE X d td → Z (tChain (rB (cmpD op)) (rB (cmpD op2)) ta tb td)) (ρ : En) :
    Z (tE c ρ ((fa ρ).bind fun x ρ1 => (fb ρ1).bind fun y ρ2 => (R.of (cmpD op x y) ρ2).bind fun t ρ3 => if t then (fd ρ3).bind fun z ρ4 => R.of ((cmpD op2 y z).map .bool) ρ4 else .ok (.bool false) ρ3)) := by
  have ha := ha ρ
  generalize fa ρ = ra at ha ⊢
  cases ra with
  | st => exact j.imp j.no fun σ H Q h => h.stF
  | ex n f ρ1 => exact j.imp (ru _ _ _ ha jE.no jE.no) fun σ H Q h => tR.ex h
  | ok x ρ1 =>
    have hb := hb ρ1
    rw [R.bind_ok]
    generalize fb ρ1 = rb at hb ⊢
    cases rb with
    | st => exact j.imp j.no fun σ H Q h => h.stF
    | ex n f ρ2 => exact j.imp (ru _ _ _ ha hb jE.no) fun σ H Q h => tR.go h fun fp v H1 fp1 fv _ h1 => tR.ex h1
    | ok y ρ2 =>
      rw [R.bind_ok]
      cases ec : cmpD op x y with
      | none => exact j.imp j.no fun σ H Q h => h.stF
      | some t =>
        rw [R.of_some, R.bind_ok]
        refine j.imp (ru _ _ _ ha hb (hd ρ2)) fun σ H Q h => tR.go h fun fp v H1 fp1 fv _ h1 => tR.go h1 fun _ w H2 _ fw e2 h2 => ?_
        refine ⟨x, y, t, Fp.mono e2 _ fv, fw, ec, t, rfl, ?_⟩
        cases t with
        | false => simpa using tR.fin (show tE c ρ2 (.ok (.bool false) ρ2) σ H2 Q from h2) (Sam.refl H2) (.bl false)
        | true =>
          have h2 : tE c ρ2 ((fd ρ2).bind fun z ρ4 => R.of ((cmpD op2 y z).map .bool) ρ4) σ H2 Q := h2
          show tE c ρ2 (fd ρ2) σ H2 _
          generalize fd ρ2 = rd at h2 ⊢
          cases rd with
          | st => exact h2.stF.elim
          | ex n f ρ3 => exact tR.ex h2
          | ok z ρ3 =>
            refine tR.go h2 fun _ u H3 _ fu e3 h3 => ?_
            obtain ⟨dd, e, n⟩ := tE.ofD h3
            obtain ⟨t2, et, rfl⟩ := Option.map_eq_some_iff.mp e
            exact ⟨y, z, t2, Fp.mono e3 _ fw, fu, et, n _ H3 (Sam.refl H3) (.bl t2)⟩
theorem nd_rev {j : Nat} {p1 p2 p3 pos : Pos} (ha : ∀ ρ, PE X a (tE c ρ (fa ρ))) (ρ : En) :
    PE X (.Subscript a (.Slice none none (some (.UnaryOp .USub (.Constant (.int 1) j p1) p2)) p3) pos) (tF c ρ ((fa ρ).bind fun x ρ1 => R.of (revD x) ρ1)) :=
  jE.e1 ha (G := fun _ v H Q => ∃ p xs, v = .ref p ∧ SqL X.K H p xs ∧ ∀ b, H b = none → Q (.ref b) (upd H b (.lst xs.reverse))) (fun ta h1 => pe_revL h1)
    (fun x ρ σ v H Q f h => by
      obtain ⟨d, e, n⟩ := tF.ofD h
      cases x with
      | list ds =>
        obtain rfl := Option.some.inj e
        obtain ⟨p, vs, rfl, z, fa⟩ := f.lst_inv
        exact ⟨p, vs, rfl, z.sq, fun b hb => n _ _ (Sam.new hb) ⟨b, _, rfl, hb, upd_same, (FpAll.mono (Ext.new hb) _ fa).reverse⟩⟩
      | _ => cases e) ρ
theorem nset_ok {iter : Expr} (h : nset iter = true) (env : PySem.Env) : ∀ x, foldedSetIterable iter env x = pure x := by
  intro x
  cases iter <;> first | rfl | cases h
theorem all_ts {t : Tg} {own : List Nat} (h : t.slots.all (own.contains ·) = true) : ∀ j ∈ t.slots, j ∈ own := fun j hj => by simpa using List.all_eq_true.mp h j hj
theorem own_snd (f : Nat → Str) (own : List Nat) : (own.map fun i => (f i, i)).map (·.2) = own := by
  rw [List.map_map]
  exact List.map_id own
theorem nd_lc (k : OkX q cf c X) {e : E} {t : Tg} {it : AF.It} {cs : Es} {own : List Nat} {elt tg iter : Expr} {ifs : List Expr} {scope : PySem.Scope} {pos : Pos} (h1 : nset iter = true) (h2 : blkC q.N q.sc scope (own.map fun i => (q.N.getD i (Str.ofString ""), i)) = true) (h3 : t.slots.all (own.contains ·) = true)
    (h4 : ifs.length ≤ 1) (h5 : ifs.all tst = true) (hi : ∀ ρ, PI X tg iter (tR vIt c ρ (evIt cf it ρ))) (h7 : chkT (q.comp scope) t tg = true)
    (hcs : ∀ c X, OkX (q.comp scope) cf c X → ∀ ρ, PTs X ifs (tB (tE c ρ (evAnd cf cs ρ)))) (he : ∀ c X, OkX (q.comp scope) cf c X → ∀ ρ, PE X elt (tE c ρ (ev cf e ρ))) (ρ : En) :
    PE X (.ListComp elt [⟨tg, iter, ifs, 0⟩] scope pos) (tF c ρ (ev cf (.lc e t it cs own) ρ)) := by
  have b : BlkOk X.N X.env.scope scope (own.map fun i => (q.N.getD i (Str.ofString ""), i)) := by rw [k.N, k.sc]; exact blkOk_by h2
  refine jE.imp (pe_lc k.calm k.nd (hi ρ) b (fun s H C cl fp => (snd_tg (k.comp (s := s) (H := H) (C := C) (cl := cl) (fp := fp))).1 t tg h7)
    (fun s H C cl fp => PTs.all fun ρ => hcs c.calm _ (k.comp (s := s) (H := H) (C := C) (cl := cl) (fp := fp)) ρ) (fun s H C cl fp => PE.all fun ρ => he c.calm _ (k.comp (s := s) (H := H) (C := C) (cl := cl) (fp := fp)) ρ) (nset_ok h1 X.env)) fun σ H Q h => ?_
  rw [own_snd]
  exact lc_read (all_ts h3) h
end
/-! ### owned slots change -/
section
variable {K : PySem.W.Frag} {σb : L2.St} {H H' : Hp} {ρ ρ' : En} {σ : L2.St} {fp fp' : Nat → List Addr}
theorem getM_lt {i : Nat} {m : M} (h : getM ρ i = some m) : i < ρ.length := by
  unfold getM at h
  split at h
  · rename_i e; exact (List.getElem?_eq_some_iff.mp e).1
  · rename_i e; exact (List.getElem?_eq_some_iff.mp e).1
  · cases h
/-- the thing of slot i is now m, in the heap H', which differs in its cells alone -/
theorem Rep.chg (r : Rep K σb H ρ σ fp) {i : Nat} {m : M} {v : V} {l : List Addr} (hp : putM ρ i m = some ρ') (hv : σ[i]? = some (some v)) (ex : Ext H H') (kp : ∀ j, j ≠ i → ∀ a ∈ fp j, ∀ u, H a = some u → H' a = some u) (o : Ow H' v l m) (dis : ∀ a ∈ l, ∀ j, j ≠ i → a ∉ fp j) :
    Rep K σb H' ρ' σ (fpSet fp i l) := by
  have hm : ρ'.length = ρ.length ∧ (∀ j, j ≠ i → ρ'[j]? = ρ[j]?) ∧ ∃ m0, (ρ[i]? = some (.mu m0) ∧ ρ'[i]? = some (.mu m)) ∨ (ρ[i]? = some (.rf m0) ∧ ρ'[i]? = some (.rf m)) := by
    unfold putM at hp
    split at hp
    · rename_i m0 e
      cases hp
      have hi := (List.getElem?_eq_some_iff.mp e).1
      exact ⟨by simp, fun j hj => List.getElem?_set_ne (fun z => hj z.symm), m0, .inl ⟨e, List.getElem?_set_self hi⟩⟩
    · rename_i m0 e
      cases hp
      have hi := (List.getElem?_eq_some_iff.mp e).1
      exact ⟨by simp, fun j hj => List.getElem?_set_ne (fun z => hj z.symm), m0, .inr ⟨e, List.getElem?_set_self hi⟩⟩
    · cases hp
  obtain ⟨h1, h2, m0, h3⟩ := hm
  have hat : at_ σ i = some v := by unfold at_; rw [hv]; rfl
  have hil : i < ρ.length := by
    rcases h3 with ⟨e, _⟩ | ⟨e, _⟩ <;> exact (List.getElem?_eq_some_iff.mp e).1
  refine ⟨by rw [h1, r.len], fun j s hj => ?_, fun j hj => ?_, fun j k a ha hb => ?_, r.lb⟩
  · by_cases e : j = i
    · subst e
      rw [fpSet_same]
      rcases h3 with ⟨e0, e1⟩ | ⟨e0, e1⟩
      · rw [e1] at hj; cases hj; exact ⟨v, hat, o⟩
      · rw [e1] at hj; cases hj
        obtain ⟨w, q1, q2, _⟩ := r.ok j _ e0
        rw [hat] at q1
        cases q1
        exact ⟨v, hat, q2, o⟩
    · rw [h2 j e] at hj
      rw [fpSet_ne e]
      exact (r.ok j s hj).mono ex (kp j e)
  · rw [fpSet_ne (by omega)]
    exact r.out j (by omega)
  · by_cases e : j = i
    · by_cases e2 : k = i
      · rw [e, e2]
      · rw [e, fpSet_same] at ha
        rw [fpSet_ne e2] at hb
        exact absurd hb (dis a ha k e2)
    · by_cases e2 : k = i
      · rw [fpSet_ne e] at ha
        rw [e2, fpSet_same] at hb
        exact absurd ha (dis a hb j e)
      · rw [fpSet_ne e] at ha
        rw [fpSet_ne e2] at hb
        exact r.dis j k a ha hb
/-- one cell is written -/
theorem Stp.write {p : Addr} {u w : HO} {i : Nat} (h : H p = some u) (hu : frzable u = true) (hp : p ∈ fp i) (sub : ∀ j, fp' j = fp j ∨ fp' j = []) : Stp H fp (upd H p w) fp' := by
  refine ⟨⟨fun b xs e => ?_, fun b o x e => ?_⟩, fun b o e n => ?_, fun j b hb => ?_⟩
  · rw [upd_ne (fun z => by subst z; rw [h] at e; cases e; cases hu)]; exact e
  · rw [upd_ne (fun z => by subst z; rw [h] at e; cases e; cases hu)]; exact e
  · rw [upd_ne (fun z => n i (by rw [z]; exact hp))]; exact e
  · rcases sub j with z | z
    · rw [z] at hb; exact .inl ⟨j, hb⟩
    · rw [z] at hb; cases hb
theorem fpSet_id {i : Nat} {l : List Addr} (h : fp i = l) (j : Nat) : fpSet fp i l j = fp j := by
  by_cases e : j = i
  · rw [e, fpSet_same, h]
  · rw [fpSet_ne e]
/-- write into a list or dict of its own -/
theorem Rep.write (r : Rep K σb H ρ σ fp) {i : Nat} {m : M} {p : Addr} {u w : HO} (hp : putM ρ i m = some ρ') (hv : σ[i]? = some (some (.ref p))) (hc : fp i = [p]) (h : H p = some u) (hu : frzable u = true) (o : Ow (upd H p w) (.ref p) [p] m) :
    Rep K σb (upd H p w) ρ' σ (fpSet fp i [p]) ∧ Stp H fp (upd H p w) (fpSet fp i [p]) := by
  have st : Stp H fp (upd H p w) (fpSet fp i [p]) := Stp.write (i := i) h hu (by rw [hc]; exact List.mem_singleton.mpr rfl) fun j => .inl (fpSet_id hc j)
  refine ⟨r.chg hp hv st.ext (fun j hj a ha x hx => ?_) o fun a ha j hj hb => ?_, st⟩
  · rw [upd_ne (fun z => hj (r.dis j i a ha (by rw [hc, z]; exact List.mem_singleton.mpr rfl)))]
    exact hx
  · obtain rfl := List.mem_singleton.mp ha
    exact hj (r.dis j i a hb (by rw [hc]; exact List.mem_singleton.mpr rfl))
end
section
variable {q : Sx} {cf : CallF} {c : Ct} {X : Cx}
theorem getL_eq {ρ : En} {i : Nat} {xs : List PyData} (h : getL ρ i = some xs) : getM ρ i = some (.l xs) := by
  unfold getL at h
  unfold getM
  split at h
  · rename_i e; rw [e]; cases h; rfl
  · rename_i e; rw [e]; cases h; rfl
  · cases h
theorem nd_popM (k : OkX q cf c X) {i : Nat} {y : Str} {p2 apos cpos : Pos} (hv : varOk q i y = true) (hl : (apos.endLine == cpos.line) = true) (ρ : En) :
    PE X (.Call (.Attribute (.Name y p2) (Str.ofString "pop") apos) [] [] cpos) (tE c ρ (R.gd (getL ρ i) <| (R.of ((getL ρ i).bind fun xs => xs.getLast?) ρ).bind fun x ρ1 => (R.of ((getL ρ i).bind fun xs => putM ρ i (.l xs.dropLast)) ρ1).bind fun ρ' _ => .ok x ρ')) := by
  cases e : getL ρ i with
  | none => exact PE.st
  | some xs =>
    cases e1 : xs.getLast? with
    | none =>
      refine jE.imp jE.no fun σ H Q h => ?_
      · have h : tE c ρ ((R.of (xs.getLast?) ρ).bind fun x ρ1 => (R.of (putM ρ i (.l xs.dropLast)) ρ1).bind fun ρ' _ => .ok x ρ') σ H Q := h
        rw [e1] at h
        exact h.stF
    | some x =>
      cases e2 : putM ρ i (.l xs.dropLast) with
      | none =>
        refine jE.imp jE.no fun σ H Q h => ?_
        · have h : tE c ρ ((R.of (xs.getLast?) ρ).bind fun x ρ1 => (R.of (putM ρ i (.l xs.dropLast)) ρ1).bind fun ρ' _ => .ok x ρ') σ H Q := h
          rw [e1, e2] at h
          exact h.stF
      | some ρ' =>
        refine jE.imp (pe_bm0 PySem.F.plainAttrs_list PySem.F.slot_list_pop PySem.F.type_list_pop mt_pop (pv_of k hv) rfl hl) fun σ H Q h => ?_
        have h : tE c ρ ((R.of (xs.getLast?) ρ).bind fun x ρ1 => (R.of (putM ρ i (.l xs.dropLast)) ρ1).bind fun ρ' _ => .ok x ρ') σ H Q := h
        rw [e1, R.of_some, R.bind_ok, e2, R.of_some, R.bind_ok] at h
        obtain ⟨fp, r, h⟩ := h
        obtain ⟨v, e3, o⟩ := r.atM (getL_eq e)
        obtain ⟨p, vs, rfl, ec, ep, f⟩ := o
        have ne : xs ≠ [] := by intro z; subst z; cases e1
        have hx : xs[xs.length - 1]? = some x := by rw [← List.getLast?_eq_getElem?]; exact e1
        obtain ⟨w, ew, fw⟩ := f.get hx
        have ex : Ext H (upd H p (.lst vs.dropLast)) := ⟨fun b xs e => by rw [upd_ne (fun z => by subst z; rw [ep] at e; cases e)]; exact e, fun b o x e => by rw [upd_ne (fun z => by subst z; rw [ep] at e; cases e)]; exact e⟩
        have fd : FpAll (upd H p (.lst vs.dropLast)) vs.dropLast xs.dropLast := by
          have z := FpAll.take (xs.length - 1) (FpAll.mono ex _ f)
          rw [← List.dropLast_eq_take, ← f.length, ← List.dropLast_eq_take] at z
          exact z
        obtain ⟨r2, s2⟩ := r.write (w := .lst vs.dropLast) e2 e3 ec ep rfl ⟨p, _, rfl, rfl, upd_same, fd⟩
        refine ⟨_, e3, .inl ⟨rfl, vs, SqL.of ep⟩, p, vs, w, rfl, rfl, ep, ?_, h w _ _ r2 (Fp.mono ex _ fw) s2⟩
        rw [f.length]
        exact ew
end
end AF

set_option maxHeartbeats 4000000
namespace AF
open PySem PySem.Spec L2
open PyProof.Rows hiding St
/-! ## 25. what is checked is so: expressions -/
structure SndE (cf : CallF) (c : Ct) (X : Cx) (e : E) (a : Expr) : Prop where
  pe : ∀ ρ, PE X a (tE c ρ (ev cf e ρ))
  pt : tst a = true → ∀ ρ, PT X a (tB (tE c ρ (ev cf e ρ)))
  pf : isF e = true → ∀ ρ, PE X a (tF c ρ (ev cf e ρ))
structure SndEs (cf : CallF) (c : Ct) (X : Cx) (es : Es) (as : List Expr) : Prop where
  pa : as.all nstar = true → ∀ ρ, PA X as (tR vA c ρ (evs cf es ρ))
  len : ∀ ρ xs ρ1, evs cf es ρ = .ok xs ρ1 → xs.length = as.length
  an : ∀ pos, as ≠ [] → as.all tst = true → ∀ ρ, PE X (.BoolOp .And as pos) (tE c ρ (evAnd cf es ρ)) ∧ PW X (.BoolOp .And as pos) (tB (tE c ρ (evAnd cf es ρ)))
  or : ∀ pos, as ≠ [] → as.all tst = true → ∀ ρ, PE X (.BoolOp .Or as pos) (tE c ρ (evOr cf es ρ)) ∧ PW X (.BoolOp .Or as pos) (tB (tE c ρ (evOr cf es ρ)))
  ifs : as.length ≤ 1 → as.all tst = true → ∀ ρ, PTs X as (tB (tE c ρ (evAnd cf es ρ)))
def MotE (cf : CallF) (e : E) : Prop := ∀ (q : Sx) (c : Ct) (X : Cx), OkX q cf c X → ∀ a, chkE q e a = true → SndE cf c X e a
def MotEs (cf : CallF) (e : Es) : Prop := ∀ (q : Sx) (c : Ct) (X : Cx), OkX q cf c X → ∀ a, chkEs q e a = true → SndEs cf c X e a
def MotAs (cf : CallF) (e : As) : Prop := ∀ (q : Sx) (c : Ct) (X : Cx), OkX q cf c X → ∀ a, chkAs q e a = true → ∀ ρ, PA X a (tR vArg c ρ (evas cf e ρ))
def MotIt (cf : CallF) (e : AF.It) : Prop := ∀ (q : Sx) (c : Ct) (X : Cx), OkX q cf c X → ∀ tg a, chkIt q e tg a = true → ∀ ρ, PI X tg a (tR vIt c ρ (evIt cf e ρ))
section
variable {cf : CallF} {c : Ct} {X : Cx} {e : E} {a : Expr}
theorem pt_of (h : plainT a = true) (hp : ∀ ρ, PE X a (tE c ρ (ev cf e ρ))) (ρ : En) : PT X a (tB (tE c ρ (ev cf e ρ))) := pt_val (hp ρ) (plain_he h X.env)
theorem SndE.ofE (hp : plainT a = true ∨ tst a = false) (hf : isF e = false) (h : ∀ ρ, PE X a (tE c ρ (ev cf e ρ))) : SndE cf c X e a := by
  refine ⟨h, fun ht => ?_, fun z => ?_⟩
  · rcases hp with hp | hp
    · exact pt_of hp h
    · rw [hp] at ht; cases ht
  · rw [hf] at z; cases z
theorem SndE.ofF (hp : plainT a = true ∨ tst a = false) (h : ∀ ρ, PE X a (tF c ρ (ev cf e ρ))) : SndE cf c X e a := by
  refine ⟨fun ρ => toE (h ρ), fun ht => ?_, fun _ => h⟩
  rcases hp with hp | hp
  · exact pt_of hp fun ρ => toE (h ρ)
  · rw [hp] at ht; cases ht


theorem m_v (i : Nat) : MotE cf (E.v i) := by
  intro q c X k x h
  unfold chkE at h
  split at h <;> first | (cases h; done) | (cases ‹E.v i = _›; done) | cases ‹E.v i = _›
  exact SndE.ofE (.inl rfl) rfl (nd_var k h)

theorem m_k (d : PyData) : MotE cf (E.k d) := by
  intro q c X k x h
  unfold chkE at h
  split at h <;> first | (cases h; done) | (cases ‹E.k d = _›; done) | cases ‹E.k d = _›
  unfold constOk at h
  split at h
  · exact SndE.ofE (.inl rfl) rfl (nd_const pe_non fun _ => .non)
  · obtain rfl := eq_of_beq h; exact SndE.ofE (.inl rfl) rfl (nd_const pe_bl fun _ => .bl _)
  · obtain rfl := of_decide_eq_true h; exact SndE.ofE (.inl rfl) rfl (nd_const pe_int fun _ => .int _)
  · obtain rfl := of_decide_eq_true h; exact SndE.ofE (.inl rfl) rfl (nd_const pe_str fun _ => .str _)
  · cases h

theorem m_g (y : Str) (d : PyData) : MotE cf (E.g y d) := by
  intro q c X k x h
  unfold chkE at h
  split at h <;> first | (cases h; done) | (cases ‹E.g y d = _›; done) | cases ‹E.g y d = _›
  rw [Bool.and_eq_true, Bool.and_eq_true] at h
  obtain ⟨⟨_, h2⟩, h3⟩ := h
  obtain ⟨g1, g2⟩ := k.gl h2
  unfold conOk at h3
  rw [List.any_eq_true] at h3
  obtain ⟨p, hp, e⟩ := h3
  rw [Bool.and_eq_true, beq_iff_eq] at e
  obtain ⟨v, u, m, r, f⟩ := k.con p hp
  rw [e.1] at m
  have ed : p.2 = d := by
    have e2 := e.2
    unfold eqC at e2
    split at e2
    · rename_i w1; rw [w1, of_decide_eq_true e2]
    · rename_i w1; rw [w1, of_decide_eq_true e2]
    · cases e2
  rw [ed] at f
  exact SndE.ofE (.inl rfl) rfl (nd_const (pe_glob g1 m r g2) f)

theorem m_sel (ids : List Nat) (i : E) (as : As) : MotE cf (E.sel ids i as) := by
  intro q c X k x h
  unfold chkE at h
  cases h

theorem m_dic1 (a b : E) : MotE cf (E.dic1 a b) := by
  intro q c X k x h
  unfold chkE at h
  cases h

theorem m_bin (op : Operator) (a b : E) (iha : MotE cf a) (ihb : MotE cf b) : MotE cf (E.bin op a b) := by
  intro q c X k x h
  unfold chkE at h
  split at h <;> first | (cases h; done) | (cases ‹E.bin op a b = _›; done) | cases ‹E.bin op a b = _›
  simp only [Bool.and_eq_true, decide_eq_true_eq, Bool.not_eq_true', beq_iff_eq] at h
  obtain ⟨⟨rfl, ha⟩, hb⟩ := h
  exact SndE.ofF (.inl rfl) (nd_bin (iha q c X k _ ha).pe (ihb q c X k _ hb).pe)

theorem m_neg (a : E) (iha : MotE cf a) : MotE cf (E.neg a) := by
  intro q c X k x h
  unfold chkE at h
  split at h <;> first | (cases h; done) | (cases ‹E.neg a = _›; done) | cases ‹E.neg a = _›
  exact SndE.ofE (.inr rfl) rfl (nd_neg (iha q c X k _ h).pe)

theorem m_cmp (op : CmpOp) (a b : E) (iha : MotE cf a) (ihb : MotE cf b) : MotE cf (E.cmp op a b) := by
  intro q c X k x h
  unfold chkE at h
  split at h <;> first | (cases h; done) | (cases ‹E.cmp op a b = _›; done) | cases ‹E.cmp op a b = _›
  simp only [Bool.and_eq_true, decide_eq_true_eq, Bool.not_eq_true', beq_iff_eq] at h
  obtain ⟨⟨⟨rfl, hm⟩, ha⟩, hb⟩ := h
  exact ⟨nd_cmp jE (iha q c X k _ ha).pe (ihb q c X k _ hb).pe fun ta tb h1 h2 => pe_cmpR (or_cmp k.hu op) h1 h2 hm,
    fun _ => nd_cmp jT (iha q c X k _ ha).pe (ihb q c X k _ hb).pe fun ta tb h1 h2 => pt_cmpR (or_cmp k.hu op) h1 h2 hm, fun z => by cases z⟩

theorem m_chn (op op2 : CmpOp) (a b d : E) (iha : MotE cf a) (ihb : MotE cf b) (ihd : MotE cf d) : MotE cf (E.chn op op2 a b d) := by
  intro q c X k x h
  unfold chkE at h
  split at h <;> first | (cases h; done) | (cases ‹E.chn op op2 a b d = _›; done) | cases ‹E.chn op op2 a b d = _›
  simp only [Bool.and_eq_true, decide_eq_true_eq, Bool.not_eq_true', beq_iff_eq] at h
  obtain ⟨⟨⟨⟨⟨rfl, rfl⟩, hm⟩, ha⟩, hb⟩, hd⟩ := h
  exact ⟨nd_chn jE (iha q c X k _ ha).pe (ihb q c X k _ hb).pe (ihd q c X k _ hd).pe fun ta tb td h1 h2 h3 => pe_chain (or_cmp k.hu op) (or_cmp k.hu op2) h1 h2 h3 hm,
    fun _ => nd_chn jT (iha q c X k _ ha).pe (ihb q c X k _ hb).pe (ihd q c X k _ hd).pe fun ta tb td h1 h2 h3 => pt_chain (or_cmp k.hu op) (or_cmp k.hu op2) h1 h2 h3 hm, fun z => by cases z⟩

theorem m_and (a : E) (es : Es) (iha : MotE cf a) (ihes : MotEs cf es) : MotE cf (E.and a es) := by
  intro q c X k x h
  unfold chkE at h
  split at h <;> first | (cases h; done) | (cases ‹E.and a es = _›; done) | cases ‹E.and a es = _›
  rw [Bool.and_eq_true, Bool.and_eq_true, Bool.and_eq_true] at h
  obtain ⟨⟨⟨t1, t2⟩, ha⟩, hes⟩ := h
  have sa := iha q c X k _ ha
  have ss := fun pos => (ihes q c X k _ hes).an pos (by simp) t2
  exact ⟨fun ρ => nd_and jE jE (sa.pe ρ) (fun ρ => (ss _ ρ).1) fun ta tb h1 h2 => pe_and h1 h2,
    fun _ ρ => nd_and (Z1 := fun t => PT X _ (tB t)) jT jW (sa.pt t1 ρ) (fun ρ => (ss _ ρ).2) fun ta tb h1 h2 => by rw [tb_and]; exact (pw_and h1 h2).pt, fun z => by cases z⟩

theorem m_or (a : E) (es : Es) (iha : MotE cf a) (ihes : MotEs cf es) : MotE cf (E.or a es) := by
  intro q c X k x h
  unfold chkE at h
  split at h <;> first | (cases h; done) | (cases ‹E.or a es = _›; done) | cases ‹E.or a es = _›
  rw [Bool.and_eq_true, Bool.and_eq_true, Bool.and_eq_true] at h
  obtain ⟨⟨⟨t1, t2⟩, ha⟩, hes⟩ := h
  have sa := iha q c X k _ ha
  have ss := fun pos => (ihes q c X k _ hes).or pos (by simp) t2
  exact ⟨fun ρ => nd_or jE jE (sa.pe ρ) (fun ρ => (ss _ ρ).1) fun ta tb h1 h2 => pe_or h1 h2,
    fun _ ρ => nd_or (Z1 := fun t => PT X _ (tB t)) jT jW (sa.pt t1 ρ) (fun ρ => (ss _ ρ).2) fun ta tb h1 h2 => by rw [tb_or]; exact (pw_or h1 h2).pt, fun z => by cases z⟩

theorem m_not (a : E) (iha : MotE cf a) : MotE cf (E.not a) := by
  intro q c X k x h
  unfold chkE at h
  split at h <;> first | (cases h; done) | (cases ‹E.not a = _›; done) | cases ‹E.not a = _›
  rw [Bool.and_eq_true] at h
  obtain ⟨t1, ha⟩ := h
  have sa := iha q c X k _ ha
  exact ⟨nd_not (Z1 := PE X _) jE sa.pe fun ta h1 => pe_not h1, fun _ => nd_not (Z1 := fun t => PT X _ (tB t)) jT (sa.pt t1) fun ta h1 => by rw [tb_not]; exact pt_not h1, fun z => by cases z⟩

theorem m_ite (d a b : E) (ihd : MotE cf d) (iha : MotE cf a) (ihb : MotE cf b) : MotE cf (E.ite d a b) := by
  intro q c X k x h
  unfold chkE at h
  split at h <;> first | (cases h; done) | (cases ‹E.ite d a b = _›; done) | cases ‹E.ite d a b = _›
  rw [Bool.and_eq_true, Bool.and_eq_true, Bool.and_eq_true] at h
  obtain ⟨⟨⟨t1, hd⟩, ha⟩, hb⟩ := h
  exact SndE.ofE (.inr rfl) rfl fun ρ => nd_ite (Z1 := fun t => PT X _ (tB t)) jE jE jE ((ihd q c X k _ hd).pt t1 ρ) (iha q c X k _ ha).pe (ihb q c X k _ hb).pe fun tc ta tb h1 h2 h3 => pe_ifExp h1 h2 h3

theorem m_tup (es : Es) (ihes : MotEs cf es) : MotE cf (E.tup es) := by
  intro q c X k x h
  unfold chkE at h
  split at h <;> first | (cases h; done) | (cases ‹E.tup es = _›; done) | cases ‹E.tup es = _›
  simp only [Bool.and_eq_true, decide_eq_true_eq, Bool.not_eq_true', beq_iff_eq] at h
  obtain ⟨⟨s1, hl⟩, hes⟩ := h
  have ss := ihes q c X k _ hes
  exact SndE.ofE (.inl rfl) rfl fun ρ => nd_tup (ss.pa s1) hl ρ ss.len

theorem m_lst (es : Es) (ihes : MotEs cf es) : MotE cf (E.lst es) := by
  intro q c X k x h
  unfold chkE at h
  split at h <;> first | (cases h; done) | (cases ‹E.lst es = _›; done) | cases ‹E.lst es = _›
  simp only [Bool.and_eq_true, decide_eq_true_eq, Bool.not_eq_true', beq_iff_eq] at h
  obtain ⟨⟨s1, hl⟩, hes⟩ := h
  have ss := ihes q c X k _ hes
  exact SndE.ofF (.inl rfl) fun ρ => nd_lst (ss.pa s1) hl ρ ss.len

theorem m_ix (a b : E) (iha : MotE cf a) (ihb : MotE cf b) : MotE cf (E.ix a b) := by
  intro q c X k x h
  unfold chkE at h
  split at h <;> first | (cases h; done) | (cases ‹E.ix a b = _›; done) | cases ‹E.ix a b = _›
  simp only [Bool.and_eq_true, decide_eq_true_eq, Bool.not_eq_true', beq_iff_eq] at h
  obtain ⟨⟨s1, ha⟩, hb⟩ := h
  exact SndE.ofE (.inl rfl) rfl (nd_ix k s1 (iha q c X k _ ha).pe (ihb q c X k _ hb).pe)

theorem m_slT (a b : E) (iha : MotE cf a) (ihb : MotE cf b) : MotE cf (E.slT a b) := by
  intro q c X k x h
  unfold chkE at h
  split at h <;> first | (cases h; done) | (cases ‹E.slT a b = _›; done) | cases ‹E.slT a b = _›
  simp only [Bool.and_eq_true, decide_eq_true_eq, Bool.not_eq_true', beq_iff_eq] at h
  obtain ⟨ha, hb⟩ := h
  exact SndE.ofF (.inl rfl) (nd_slT (iha q c X k _ ha).pe (ihb q c X k _ hb).pe)

theorem m_slH (a b : E) (iha : MotE cf a) (ihb : MotE cf b) : MotE cf (E.slH a b) := by
  intro q c X k x h
  unfold chkE at h
  split at h <;> first | (cases h; done) | (cases ‹E.slH a b = _›; done) | cases ‹E.slH a b = _›
  simp only [Bool.and_eq_true, decide_eq_true_eq, Bool.not_eq_true', beq_iff_eq] at h
  obtain ⟨ha, hb⟩ := h
  exact SndE.ofF (.inl rfl) (nd_slH (iha q c X k _ ha).pe (ihb q c X k _ hb).pe)

theorem m_slB (a b d : E) (iha : MotE cf a) (ihb : MotE cf b) (ihd : MotE cf d) : MotE cf (E.slB a b d) := by
  intro q c X k x h
  unfold chkE at h
  split at h <;> first | (cases h; done) | (cases ‹E.slB a b d = _›; done) | cases ‹E.slB a b d = _›
  simp only [Bool.and_eq_true, decide_eq_true_eq, Bool.not_eq_true', beq_iff_eq] at h
  obtain ⟨⟨ha, hb⟩, hd⟩ := h
  exact SndE.ofF (.inl rfl) (nd_slB (iha q c X k _ ha).pe (ihb q c X k _ hb).pe (ihd q c X k _ hd).pe)

theorem m_rev (a : E) (iha : MotE cf a) : MotE cf (E.rev a) := by
  intro q c X k x h
  unfold chkE at h
  split at h <;> first | (cases h; done) | (cases ‹E.rev a = _›; done) | cases ‹E.rev a = _›
  exact SndE.ofF (.inl rfl) (nd_rev (iha q c X k _ h).pe)

theorem m_bi (f : Bi) (a : E) (iha : MotE cf a) : MotE cf (E.bi f a) := by
  intro q c X k x h
  unfold chkE at h
  split at h <;> first | (cases h; done) | (cases ‹E.bi f a = _›; done) | cases ‹E.bi f a = _›
  rw [Bool.and_eq_true, Bool.and_eq_true, Bool.and_eq_true] at h
  obtain ⟨⟨⟨b1, h2⟩, h3⟩, ha⟩ := h
  have sa := (iha q c X k _ ha).pe
  cases f with
  | len => exact SndE.ofF (.inl rfl) (nd_callB k cr_len (by rfl) (by decide) h2 h3 sa)
  | list => exact SndE.ofF (.inl rfl) (nd_callT k (cr_list k.calm) (by rfl) (by decide) h2 h3 sa)
  | tuple => exact SndE.ofF (.inl rfl) (nd_callT k cr_tuple (by rfl) (by decide) h2 h3 sa)
  | sorted => exact SndE.ofF (.inl rfl) (nd_callB k (cr_sortedA k.hu) (by rfl) (by decide) h2 h3 sa)
  | min => exact SndE.ofF (.inl rfl) (nd_callB k (cr_minA k.calm) (by rfl) (by decide) h2 h3 sa)
  | max => exact SndE.ofF (.inl rfl) (nd_callB k (cr_maxA k.calm) (by rfl) (by decide) h2 h3 sa)
  | sum => exact SndE.ofF (.inl rfl) (nd_callB k (cr_sumA k.calm) (by rfl) (by decide) h2 h3 sa)
  | all => exact SndE.ofF (.inl rfl) (nd_callB k (cr_allA k.calm) (by rfl) (by decide) h2 h3 sa)
  | abs => exact SndE.ofF (.inl rfl) (nd_callB k cr_absA (by rfl) (by decide) h2 h3 sa)
  | dict => exact SndE.ofF (.inl rfl) (nd_callT k (cr_dict k.calm k.hu) (by rfl) (by decide) h2 h3 sa)
  | sset => cases b1
  | lset => cases b1

theorem m_mm (mx : Bool) (a b : E) (iha : MotE cf a) (ihb : MotE cf b) : MotE cf (E.mm mx a b) := by
  intro q c X k x h
  unfold chkE at h
  split at h <;> first | (cases h; done) | (cases ‹E.mm mx a b = _›; done) | cases ‹E.mm mx a b = _›
  rw [Bool.and_eq_true, Bool.and_eq_true, Bool.and_eq_true, Bool.and_eq_true] at h
  obtain ⟨⟨⟨⟨h1, h2⟩, h3⟩, ha⟩, hb⟩ := h
  exact SndE.ofE (.inl rfl) rfl (nd_mm k h1 h2 h3 (iha q c X k _ ha).pe (ihb q c X k _ hb).pe)

theorem m_isi (a : E) (t : Ty) (iha : MotE cf a) : MotE cf (E.isi a t) := by
  intro q c X k x h
  unfold chkE at h
  split at h <;> first | (cases h; done) | (cases ‹E.isi a t = _›; done) | cases ‹E.isi a t = _›
  rw [Bool.and_eq_true, Bool.and_eq_true, Bool.and_eq_true] at h
  obtain ⟨⟨⟨h1, h2⟩, h3⟩, ha⟩ := h
  exact SndE.ofE (.inl rfl) rfl (nd_isi k h1 h2 h3 (iha q c X k _ ha).pe)

theorem m_me (m : Me) (a b : E) (iha : MotE cf a) (ihb : MotE cf b) : MotE cf (E.me m a b) := by
  intro q c X k x h
  unfold chkE at h
  split at h <;> first | (cases h; done) | (cases ‹E.me m a b = _›; done) | cases ‹E.me m a b = _›
  rw [Bool.and_eq_true, Bool.and_eq_true, Bool.and_eq_true, Bool.and_eq_true, Bool.and_eq_true] at h
  obtain ⟨⟨⟨⟨⟨h1, h2⟩, h3⟩, h4⟩, ha⟩, hb⟩ := h
  obtain rfl := eq_of_beq h1
  have sa := (iha q c X k _ ha).pe
  have sb := (ihb q c X k _ hb).pe
  have ts : ∀ (H : Hp) (v : V) (x : PyData), Fp H v x → (∃ s, x = .str s) → tyV X.K "str" v H := fun H v x f ⟨s, e⟩ => by subst e; obtain rfl := f.str_inv; exact rfl
  have tl : ∀ (H : Hp) (v : V) (x : PyData), Fp H v x → (∃ s, x = .list s) → tyV X.K "list" v H := fun H v x f ⟨s, e⟩ => by subst e; obtain ⟨p, xs, rfl, z, _⟩ := f.lst_inv; exact .inl ⟨rfl, xs, z.sq⟩
  cases m with
  | join => exact SndE.ofF (.inl rfl) (nd_me (m := .join) k PySem.F.plainAttrs_str PySem.F.slot_str_join PySem.F.type_str_join me_join (fun H v x f z => ts H v x f (by cases x <;> first | exact ⟨_, rfl⟩ | cases z)) h2 h3 h4 sa sb)
  | strip => exact SndE.ofF (.inl rfl) (nd_me (m := .strip) k PySem.F.plainAttrs_str PySem.F.slot_str_strip PySem.F.type_str_strip me_strip (fun H v x f z => ts H v x f (by cases x <;> first | exact ⟨_, rfl⟩ | cases z)) h2 h3 h4 sa sb)
  | split => exact SndE.ofF (.inl rfl) (nd_me (m := .split) k PySem.F.plainAttrs_str PySem.F.slot_str_split PySem.F.type_str_split me_split (fun H v x f z => ts H v x f (by cases x <;> first | exact ⟨_, rfl⟩ | cases z)) h2 h3 h4 sa sb)
  | count => exact SndE.ofF (.inl rfl) (nd_me (m := .count) k PySem.F.plainAttrs_list PySem.F.slot_list_count PySem.F.type_list_count (me_count k.hu) (fun H v x f z => tl H v x f (by cases x <;> first | exact ⟨_, rfl⟩ | cases z)) h2 h3 h4 sa sb)
  | index => exact SndE.ofF (.inl rfl) (nd_me (m := .index) k PySem.F.plainAttrs_list PySem.F.slot_list_index PySem.F.type_list_index (me_index k.hu) (fun H v x f z => tl H v x f (by cases x <;> first | exact ⟨_, rfl⟩ | cases z)) h2 h3 h4 sa sb)
  | get => exact SndE.ofE (.inl rfl) rfl (nd_get1 k h2 h3 h4 sa sb)

theorem m_get2 (a b d : E) (iha : MotE cf a) (ihb : MotE cf b) (ihd : MotE cf d) : MotE cf (E.get2 a b d) := by
  intro q c X k x h
  unfold chkE at h
  split at h <;> first | (cases h; done) | (cases ‹E.get2 a b d = _›; done) | cases ‹E.get2 a b d = _›
  rw [Bool.and_eq_true, Bool.and_eq_true, Bool.and_eq_true, Bool.and_eq_true, Bool.and_eq_true, Bool.and_eq_true, Bool.and_eq_true] at h
  obtain ⟨⟨⟨⟨⟨⟨⟨h1, h2⟩, h3⟩, h4⟩, h5⟩, ha⟩, hb⟩, hd⟩ := h
  obtain rfl := eq_of_beq h1
  exact SndE.ofE (.inl rfl) rfl (nd_get2 k h2 h3 h4 h5 (iha q c X k _ ha).pe (ihb q c X k _ hb).pe (ihd q c X k _ hd).pe)

theorem m_call (id : Nat) (as : As) (ihas : MotAs cf as) : MotE cf (E.call id as) := by
  intro q c X k x h
  unfold chkE at h
  split at h <;> first | (cases h; done) | (cases ‹E.call id as = _›; done) | cases ‹E.call id as = _›
  rw [Bool.and_eq_true, Bool.and_eq_true, Bool.and_eq_true] at h
  obtain ⟨⟨⟨h1, h2⟩, h3⟩, ha⟩ := h
  exact SndE.ofE (.inl rfl) rfl (nd_call k h1 h2 h3 (ihas q c X k _ ha))

theorem m_lc (e : E) (t : Tg) (it : AF.It) (cs : Es) (own : List Nat) (ihe : MotE cf e) (ihit : MotIt cf it) (ihcs : MotEs cf cs) : MotE cf (E.lc e t it cs own) := by
  intro q c X k x h
  unfold chkE at h
  split at h <;> first | (cases h; done) | (cases ‹E.lc e t it cs own = _›; done) | cases ‹E.lc e t it cs own = _›
  rw [Bool.and_eq_true, Bool.and_eq_true, Bool.and_eq_true, Bool.and_eq_true, Bool.and_eq_true, Bool.and_eq_true, Bool.and_eq_true, Bool.and_eq_true] at h
  obtain ⟨⟨⟨⟨⟨⟨⟨⟨h1, h2⟩, h3⟩, h4⟩, h5⟩, h6⟩, h7⟩, h8⟩, h9⟩ := h
  exact SndE.ofF (.inl rfl) (nd_lc k h1 h2 h3 (of_decide_eq_true h4) h5 (ihit q c X k _ _ h6) h7 (fun c X k => (ihcs _ c X k _ h8).ifs (of_decide_eq_true h4) h5) (fun c X k => (ihe _ c X k _ h9).pe))

theorem m_dic0 : MotE cf (E.dic0) := by
  intro q c X k x h
  unfold chkE at h
  split at h <;> first | (cases h; done) | (cases ‹E.dic0 = _›; done) | cases ‹E.dic0 = _›
  refine SndE.ofF (.inl rfl) fun ρ => jE.imp pe_dnewT fun σ H Q h p hp => ?_
  exact tF.fin h (Sam.new hp) ⟨p, _, rfl, hp, upd_same, .nil⟩

theorem m_popM (i : Nat) : MotE cf (E.popM i) := by
  intro q c X k x h
  unfold chkE at h
  split at h <;> first | (cases h; done) | (cases ‹E.popM i = _›; done) | cases ‹E.popM i = _›
  rw [Bool.and_eq_true, Bool.and_eq_true] at h
  obtain rfl := eq_of_beq h.1.1
  exact SndE.ofE (.inl rfl) rfl (nd_popM k h.1.2 h.2)

theorem m_lenM (i : Nat) : MotE cf (E.lenM i) := by
  intro q c X k x h
  unfold chkE at h
  split at h <;> first | (cases h; done) | (cases ‹E.lenM i = _›; done) | cases ‹E.lenM i = _›
  rw [Bool.and_eq_true] at h
  exact SndE.ofE (.inl rfl) rfl (nd_lenM k h.2 h.1)

theorem m_lenS (i : Nat) : MotE cf (E.lenS i) := by
  intro q c X k x h
  unfold chkE at h
  split at h <;> first | (cases h; done) | (cases ‹E.lenS i = _›; done) | cases ‹E.lenS i = _›
  rw [Bool.and_eq_true] at h
  exact SndE.ofE (.inl rfl) rfl (nd_lenS k h.2 h.1)

theorem m_ixM (i : Nat) (b : E) (ihb : MotE cf b) : MotE cf (E.ixM i b) := by
  intro q c X k x h
  unfold chkE at h
  split at h <;> first | (cases h; done) | (cases ‹E.ixM i b = _›; done) | cases ‹E.ixM i b = _›
  rw [Bool.and_eq_true, Bool.and_eq_true] at h
  exact SndE.ofE (.inl rfl) rfl (nd_ixM k h.1.1 h.1.2 (ihb q c X k _ h.2).pe)

theorem m_ixS (i : Nat) (b : E) (ihb : MotE cf b) : MotE cf (E.ixS i b) := by
  intro q c X k x h
  unfold chkE at h
  split at h <;> first | (cases h; done) | (cases ‹E.ixS i b = _›; done) | cases ‹E.ixS i b = _›
  rw [Bool.and_eq_true, Bool.and_eq_true] at h
  exact SndE.ofE (.inl rfl) rfl (nd_ixS k h.1.1 h.1.2 (ihb q c X k _ h.2).pe)

theorem m_inM (neg : Bool) (a : E) (i : Nat) (iha : MotE cf a) : MotE cf (E.inM neg a i) := by
  intro q c X k x h
  unfold chkE at h
  split at h <;> first | (cases h; done) | (cases ‹E.inM neg a i = _›; done) | cases ‹E.inM neg a i = _›
  rw [Bool.and_eq_true, Bool.and_eq_true, decide_eq_true_eq] at h
  obtain ⟨⟨rfl, hv⟩, ha⟩ := h
  have bm : ∀ y p, behindInMarks (if neg = true then CmpOp.NotIn else CmpOp.In) (.Name y p) = false := fun y p => rfl
  exact ⟨nd_inM jE k hv (iha q c X k _ ha).pe fun ta tb h1 h2 => pe_cmpR (or_inM k.hu neg) h1 h2 (bm _ _),
    fun _ => nd_inM jT k hv (iha q c X k _ ha).pe fun ta tb h1 h2 => pt_cmpR (or_inM k.hu neg) h1 h2 (bm _ _), fun z => by cases z⟩

theorem m_nilM (neg : Bool) (i : Nat) : MotE cf (E.nilM neg i) := by
  intro q c X k x h
  unfold chkE at h
  split at h <;> first | (cases h; done) | (cases ‹E.nilM neg i = _›; done) | cases ‹E.nilM neg i = _›
  rw [Bool.and_eq_true, decide_eq_true_eq] at h
  obtain ⟨rfl, hv⟩ := h
  exact ⟨nd_nilM jE k hv fun ta tb h1 h2 => pe_cmpR (or_eqD k.hu neg) h1 h2 rfl,
    fun _ => nd_nilM jT k hv fun ta tb h1 h2 => pt_cmpR (or_eqD k.hu neg) h1 h2 rfl, fun z => by cases z⟩

theorem m_nilS (i : Nat) : MotE cf (E.nilS i) := by
  intro q c X k x h
  unfold chkE at h
  split at h <;> first | (cases h; done) | (cases ‹E.nilS i = _›; done) | cases ‹E.nilS i = _›
  exact ⟨nd_nilS jE k h fun ta tb h1 h2 => pe_cmpR (or_eqD k.hu false) h1 h2 rfl,
    fun _ => nd_nilS jT k h fun ta tb h1 h2 => pt_cmpR (or_eqD k.hu false) h1 h2 rfl, fun z => by cases z⟩

theorem m_gix (y : Str) (d : List (List Int)) (a b : E) (iha : MotE cf a) (ihb : MotE cf b) : MotE cf (E.gix y d a b) := by
  intro q c X k x h
  unfold chkE at h
  split at h <;> first | (cases h; done) | (cases ‹E.gix y d a b = _›; done) | cases ‹E.gix y d a b = _›
  simp only [Bool.and_eq_true, decide_eq_true_eq] at h
  obtain ⟨⟨⟨⟨⟨⟨rfl, h1⟩, h2⟩, h3⟩, h4⟩, ha⟩, hb⟩ := h
  exact SndE.ofE (.inl rfl) rfl (nd_gix k h1 h2 h3 h4 (iha q c X k _ ha).pe (ihb q c X k _ hb).pe)

theorem m_gin (y : Str) (d : List Str) (neg : Bool) (a : E) (iha : MotE cf a) : MotE cf (E.gin y d neg a) := by
  intro q c X k x h
  unfold chkE at h
  split at h <;> first | (cases h; done) | (cases ‹E.gin y d neg a = _›; done) | cases ‹E.gin y d neg a = _›
  simp only [Bool.and_eq_true, decide_eq_true_eq] at h
  obtain ⟨⟨⟨⟨rfl, rfl⟩, h1⟩, h2⟩, ha⟩ := h
  have bm : ∀ y p, behindInMarks (if neg = true then CmpOp.NotIn else CmpOp.In) (.Name y p) = false := fun y p => rfl
  exact ⟨nd_gin jE k h1 h2 (iha q c X k _ ha).pe fun ta tb h1 h2 => pe_cmpR (or_inT k.hu neg) h1 h2 (bm _ _),
    fun _ => nd_gin jT k h1 h2 (iha q c X k _ ha).pe fun ta tb h1 h2 => pt_cmpR (or_inT k.hu neg) h1 h2 (bm _ _), fun z => by cases z⟩

theorem m_any : MotE cf .any := by
  intro q c X k x h
  exact ⟨fun ρ => PE.st, fun _ ρ => jT.imp jT.no fun σ H Q h => h.stF, fun z => by cases z⟩

theorem m_getM (i : Nat) (a b : E) (iha : MotE cf a) (ihb : MotE cf b) : MotE cf (E.getM i a b) := by
  intro q c X k x h
  unfold chkE at h
  split at h <;> first | (cases h; done) | (cases ‹E.getM i a b = _›; done) | cases ‹E.getM i a b = _›
  rw [Bool.and_eq_true, Bool.and_eq_true, Bool.and_eq_true, Bool.and_eq_true, Bool.and_eq_true, Bool.and_eq_true] at h
  obtain ⟨⟨⟨⟨⟨⟨h1, h2⟩, h3⟩, h4⟩, h5⟩, ha⟩, hb⟩ := h
  obtain rfl := eq_of_beq h1
  exact SndE.ofE (.inl rfl) rfl (nd_getM k h2 h3 h4 h5 (iha q c X k _ ha).pe (ihb q c X k _ hb).pe)

theorem m_nil : MotEs cf .nil := by
  intro q c X k x h
  cases x with
  | nil => exact ⟨fun _ => nd_nil, fun ρ xs ρ1 e => by cases e; rfl, fun _ z => absurd rfl z, fun _ z => absurd rfl z, fun _ _ ρ => PTs.imp pts_nil fun σ H Q h => by obtain ⟨b, e, q⟩ := tR.finB h (v := V.bl true) (fun _ _ => Fp.bl true); cases e; exact q⟩
  | cons a as => cases h
theorem one_and (e : E) (ρ : En) : evAnd cf (.cons e .nil) ρ = ev cf e ρ ∨ evAnd cf (.cons e .nil) ρ = .st := by
  have u : evAnd cf (.cons e .nil) ρ = (ev cf e ρ).bind fun x ρ1 => match x with
    | .bool true => evAnd cf .nil ρ1
    | .bool false => .ok (.bool false) ρ1
    | _ => .st := rfl
  rw [u]
  cases ev cf e ρ with
  | st => exact .inl rfl
  | ex _ _ _ => exact .inl rfl
  | ok x ρ1 =>
    cases x with
    | bool b => cases b <;> exact .inl rfl
    | _ => exact .inr rfl
theorem one_or (e : E) (ρ : En) : evOr cf (.cons e .nil) ρ = ev cf e ρ ∨ evOr cf (.cons e .nil) ρ = .st := by
  have u : evOr cf (.cons e .nil) ρ = (ev cf e ρ).bind fun x ρ1 => match x with
    | .bool false => evOr cf .nil ρ1
    | .bool true => .ok (.bool true) ρ1
    | _ => .st := rfl
  rw [u]
  cases ev cf e ρ with
  | st => exact .inl rfl
  | ex _ _ _ => exact .inl rfl
  | ok x ρ1 =>
    cases x with
    | bool b => cases b <;> exact .inl rfl
    | _ => exact .inr rfl
theorem or_st {Z : TE → Prop} (j : Jd Z) {r r' : R PyData} {ρ : En} (o : r' = r ∨ r' = .st) (h : Z (tE c ρ r)) : Z (tE c ρ r') := by
  rcases o with rfl | rfl
  · exact h
  · exact j.imp j.no fun σ H Q h => h.stF
theorem jTs {X : Cx} {e : List Expr} : Jd (fun t => PTs X e (tB t)) := ⟨fun h i => PTs.imp h (fun _ _ _ q => i _ _ _ q), ⟨fun _ _ _ _ _ _ h => False.elim h⟩⟩
theorem m_cons (e : E) (es : Es) (ihe : MotE cf e) (ihes : MotEs cf es) : MotEs cf (.cons e es) := by
  intro q c X k x h
  cases x with
  | nil => cases h
  | cons a as =>
    rw [chkEs, Bool.and_eq_true] at h
    have sa := ihe q c X k _ h.1
    have ss := ihes q c X k _ h.2
    refine ⟨fun hs => ?_, fun ρ xs ρ1 z => ?_, fun pos _ ht ρ => ?_, fun pos _ ht ρ => ?_, fun hl ht ρ => ?_⟩
    · rw [List.all_cons, Bool.and_eq_true] at hs
      exact nd_cons hs.1 sa.pe (ss.pa hs.2)
    · have z : (ev cf e ρ).bind (fun x ρ1 => (evs cf es ρ1).bind fun xs ρ2 => .ok (x :: xs) ρ2) = .ok xs ρ1 := z
      cases z1 : ev cf e ρ with
      | st => rw [z1] at z; cases z
      | ex _ _ _ => rw [z1] at z; cases z
      | ok y ρ2 =>
        rw [z1, R.bind_ok] at z
        cases z2 : evs cf es ρ2 with
        | st => rw [z2] at z; cases z
        | ex _ _ _ => rw [z2] at z; cases z
        | ok ys ρ3 =>
          rw [z2] at z
          cases z
          rw [List.length_cons, List.length_cons, ss.len _ _ _ z2]
    · rw [List.all_cons, Bool.and_eq_true] at ht
      cases as with
      | nil =>
        cases es with
        | nil => exact ⟨or_st jE (one_and e ρ) (pe_one (sa.pe ρ)), or_st jW (one_and e ρ) (pw_and1 (sa.pt ht.1 ρ))⟩
        | cons e2 es2 => cases h.2
      | cons a2 as2 =>
        have s2 := ss.an pos (by simp) ht.2
        exact ⟨nd_and jE jE (sa.pe ρ) (fun ρ => (s2 ρ).1) fun ta tb h1 h2 => pe_and h1 h2, nd_and (Z1 := fun t => PT X _ (tB t)) jW jW (sa.pt ht.1 ρ) (fun ρ => (s2 ρ).2) fun ta tb h1 h2 => by rw [tb_and]; exact pw_and h1 h2⟩
    · rw [List.all_cons, Bool.and_eq_true] at ht
      cases as with
      | nil =>
        cases es with
        | nil => exact ⟨or_st jE (one_or e ρ) (pe_one (sa.pe ρ)), or_st jW (one_or e ρ) (pw_or1 (sa.pt ht.1 ρ))⟩
        | cons e2 es2 => cases h.2
      | cons a2 as2 =>
        have s2 := ss.or pos (by simp) ht.2
        exact ⟨nd_or jE jE (sa.pe ρ) (fun ρ => (s2 ρ).1) fun ta tb h1 h2 => pe_or h1 h2, nd_or (Z1 := fun t => PT X _ (tB t)) jW jW (sa.pt ht.1 ρ) (fun ρ => (s2 ρ).2) fun ta tb h1 h2 => by rw [tb_or]; exact pw_or h1 h2⟩
    · rw [List.all_cons, Bool.and_eq_true] at ht
      cases as with
      | nil =>
        cases es with
        | nil => exact or_st jTs (one_and e ρ) (pts_one (sa.pt ht.1 ρ))
        | cons e2 es2 => cases h.2
      | cons a2 as2 => simp at hl
theorem m_anil : MotAs cf .nil := by
  intro q c X k x h
  cases x with
  | nil => exact nd_anil
  | cons a as => cases h
theorem m_ae (e : E) (as : As) (ihe : MotE cf e) (ihas : MotAs cf as) : MotAs cf (.e e as) := by
  intro q c X k x h
  cases x with
  | nil => cases h
  | cons a r =>
    rw [chkAs, Bool.and_eq_true, Bool.and_eq_true] at h
    exact nd_ae h.1.1 (ihe q c X k _ h.1.2).pe (ihas q c X k _ h.2)
theorem m_ar (i : Nat) (as : As) (ihas : MotAs cf as) : MotAs cf (.r i as) := by
  intro q c X k x h
  unfold chkAs at h
  split at h <;> first | (cases h; done) | (cases ‹As.r i as = _›; done) | cases ‹As.r i as = _›
  rw [Bool.and_eq_true] at h
  exact nd_ar k h.1 (ihas q c X k _ h.2)
theorem m_as (i : Nat) (as : As) (ihas : MotAs cf as) : MotAs cf (.s i as) := by
  intro q c X k x h
  unfold chkAs at h
  split at h <;> first | (cases h; done) | (cases ‹As.s i as = _›; done) | cases ‹As.s i as = _›
  rw [Bool.and_eq_true] at h
  exact nd_as k h.1 (ihas q c X k _ h.2)
theorem m_ex (e : E) (ihe : MotE cf e) : MotIt cf (.ex e) := fun q c X k tg x h => ni_ex (ihe q c X k _ h).pe
theorem m_rng1 (e : E) (ihe : MotE cf e) : MotIt cf (.rng1 e) := by
  intro q c X k tg x h
  unfold chkIt at h
  split at h <;> first | (cases h; done) | (cases ‹AF.It.rng1 e = _›; done) | cases ‹AF.It.rng1 e = _›
  rw [Bool.and_eq_true, Bool.and_eq_true] at h
  exact nd_rng1 k h.1.1 h.1.2 (ihe q c X k _ h.2).pe
theorem m_rng2 (e f : E) (ihe : MotE cf e) (ihf : MotE cf f) : MotIt cf (.rng2 e f) := by
  intro q c X k tg x h
  unfold chkIt at h
  split at h <;> first | (cases h; done) | (cases ‹AF.It.rng2 e f = _›; done) | cases ‹AF.It.rng2 e f = _›
  rw [Bool.and_eq_true, Bool.and_eq_true, Bool.and_eq_true, Bool.and_eq_true] at h
  exact nd_rng2 k h.1.1.1.1 h.1.1.1.2 h.1.1.2 (ihe q c X k _ h.1.2).pe (ihf q c X k _ h.2).pe
theorem isTup_inv {e : Expr} (h : isTup e = true) : ∃ es n p, e = .Tuple es n p := by
  cases e <;> first | exact ⟨_, _, _, rfl⟩ | cases h
theorem m_enm (e : E) (ihe : MotE cf e) : MotIt cf (.enm e) := by
  intro q c X k tg x h
  unfold chkIt at h
  split at h <;> first | (cases h; done) | (cases ‹AF.It.enm e = _›; done) | cases ‹AF.It.enm e = _›
  rw [Bool.and_eq_true, Bool.and_eq_true, Bool.and_eq_true] at h
  obtain ⟨es, n, p, rfl⟩ := isTup_inv h.1.1.1
  exact nd_enm k h.1.1.2 h.1.2 (ihe q c X k _ h.2).pe
theorem m_zip (e f : E) (ihe : MotE cf e) (ihf : MotE cf f) : MotIt cf (.zip e f) := by
  intro q c X k tg x h
  unfold chkIt at h
  split at h <;> first | (cases h; done) | (cases ‹AF.It.zip e f = _›; done) | cases ‹AF.It.zip e f = _›
  rw [Bool.and_eq_true, Bool.and_eq_true, Bool.and_eq_true, Bool.and_eq_true, Bool.and_eq_true] at h
  obtain ⟨es, n, p, rfl⟩ := isTup_inv h.1.1.1.1.1
  exact nd_zip k h.1.1.1.1.2 h.1.1.1.2 h.1.1.2 (ihe q c X k _ h.1.2).pe (ihf q c X k _ h.2).pe
theorem sndE (cf : CallF) : (∀ e, MotE cf e) ∧ (∀ e, MotIt cf e) ∧ (∀ e, MotEs cf e) := by
  refine ⟨fun e => ?_, fun e => ?_, fun e => ?_⟩
  · exact @E.rec (MotE cf) (MotEs cf) (MotAs cf) (MotIt cf) (@m_v cf) (@m_k cf) (@m_g cf) (@m_gix cf) (@m_gin cf) (@m_bin cf) (@m_neg cf) (@m_cmp cf) (@m_chn cf) (@m_and cf) (@m_or cf) (@m_not cf) (@m_ite cf) (@m_tup cf) (@m_lst cf) (@m_ix cf) (@m_slT cf) (@m_slH cf) (@m_slB cf) (@m_rev cf) (@m_bi cf) (@m_mm cf) (@m_isi cf) (@m_me cf) (@m_get2 cf) (@m_call cf) (fun l i as _ _ => m_sel l i as) (@m_lc cf) (@m_dic0 cf) (fun a b _ _ => m_dic1 a b) (@m_lenM cf) (@m_ixM cf) (@m_inM cf) (@m_nilM cf) (@m_getM cf) (@m_popM cf) (@m_lenS cf) (@m_ixS cf) (@m_nilS cf) (@m_any cf) (@m_nil cf) (@m_cons cf) (@m_anil cf) (@m_ae cf) (@m_ar cf) (@m_as cf) (@m_ex cf) (@m_rng1 cf) (@m_rng2 cf) (@m_enm cf) (@m_zip cf) e
  · exact @AF.It.rec (MotE cf) (MotEs cf) (MotAs cf) (MotIt cf) (@m_v cf) (@m_k cf) (@m_g cf) (@m_gix cf) (@m_gin cf) (@m_bin cf) (@m_neg cf) (@m_cmp cf) (@m_chn cf) (@m_and cf) (@m_or cf) (@m_not cf) (@m_ite cf) (@m_tup cf) (@m_lst cf) (@m_ix cf) (@m_slT cf) (@m_slH cf) (@m_slB cf) (@m_rev cf) (@m_bi cf) (@m_mm cf) (@m_isi cf) (@m_me cf) (@m_get2 cf) (@m_call cf) (fun l i as _ _ => m_sel l i as) (@m_lc cf) (@m_dic0 cf) (fun a b _ _ => m_dic1 a b) (@m_lenM cf) (@m_ixM cf) (@m_inM cf) (@m_nilM cf) (@m_getM cf) (@m_popM cf) (@m_lenS cf) (@m_ixS cf) (@m_nilS cf) (@m_any cf) (@m_nil cf) (@m_cons cf) (@m_anil cf) (@m_ae cf) (@m_ar cf) (@m_as cf) (@m_ex cf) (@m_rng1 cf) (@m_rng2 cf) (@m_enm cf) (@m_zip cf) e
  · exact @Es.rec (MotE cf) (MotEs cf) (MotAs cf) (MotIt cf) (@m_v cf) (@m_k cf) (@m_g cf) (@m_gix cf) (@m_gin cf) (@m_bin cf) (@m_neg cf) (@m_cmp cf) (@m_chn cf) (@m_and cf) (@m_or cf) (@m_not cf) (@m_ite cf) (@m_tup cf) (@m_lst cf) (@m_ix cf) (@m_slT cf) (@m_slH cf) (@m_slB cf) (@m_rev cf) (@m_bi cf) (@m_mm cf) (@m_isi cf) (@m_me cf) (@m_get2 cf) (@m_call cf) (fun l i as _ _ => m_sel l i as) (@m_lc cf) (@m_dic0 cf) (fun a b _ _ => m_dic1 a b) (@m_lenM cf) (@m_ixM cf) (@m_inM cf) (@m_nilM cf) (@m_getM cf) (@m_popM cf) (@m_lenS cf) (@m_ixS cf) (@m_nilS cf) (@m_any cf) (@m_nil cf) (@m_cons cf) (@m_anil cf) (@m_ae cf) (@m_ar cf) (@m_as cf) (@m_ex cf) (@m_rng1 cf) (@m_rng2 cf) (@m_enm cf) (@m_zip cf) e

end
end AF

set_option maxHeartbeats 4000000
namespace AF
open PySem PySem.Spec L2
open PyProof.Rows hiding St
/-! ## 26. statements: the readings -/
def tSc (c : Ct) (fp : Nat → List Addr) (r : R Fl) (D : Ends) (H : Hp) : Prop :=
  match r with
  | .ok f ρ' => ∀ σ' H' fp', Rep c.K c.σb H' ρ' σ' fp' → Stp H fp H' fp' → match f with
    | .nx => D.nx σ' H'
    | .brk => D.bk σ' H'
    | .cnt => D.ct σ' H'
    | .rt d => ∀ v, Fp H' v d → D.rt v H'
  | .ex n f ρ' => ∀ cls dd σ' H' fp', Rep c.K c.σb H' ρ' σ' fp' → ExcIs c.mg n f cls dd H' → Stp H fp H' fp' → c.W cls dd σ' H'
  | .st => False
def tS (c : Ct) (ρ : En) (r : R Fl) : TS := fun D σ H => ∃ fp, Rep c.K c.σb H ρ σ fp ∧ tSc c fp r D H
theorem tSc.step {c : Ct} {fp fp1 : Nat → List Addr} {r : R Fl} {D : Ends} {H H1 : Hp} (h : tSc c fp r D H) (s : Stp H fp H1 fp1) : tSc c fp1 r D H1 := by
  cases r with
  | ok d ρ' => exact fun σ' H' fp' a t => h σ' H' fp' a (s.trans t)
  | ex n f ρ' => exact fun v dd σ' H' fp' a b t => h v dd σ' H' fp' a b (s.trans t)
  | st => exact h
theorem PS.imp {X : Cx} {e : Stmt} {t t' : TS} (h : PS X e t) (i : ∀ D σ H, t' D σ H → t D σ H) : PS X e t' := ⟨fun pins s σ H D I q => h.run pins s σ H D I (i D σ H q)⟩
theorem PSs.imp {X : Cx} {e : List Stmt} {t t' : TS} (h : PSs X e t) (i : ∀ D σ H, t' D σ H → t D σ H) : PSs X e t' := ⟨fun pins s σ H D I q => h.run pins s σ H D I (i D σ H q)⟩
theorem PS.no {X : Cx} {e : Stmt} : PS X e (fun _ _ _ => False) := ⟨fun _ _ _ _ _ _ h => False.elim h⟩
theorem PSs.no {X : Cx} {e : List Stmt} : PSs X e (fun _ _ _ => False) := ⟨fun _ _ _ _ _ _ h => False.elim h⟩
theorem PSs.all {α : Type} {X : Cx} {e : List Stmt} {t : α → TS} (h : ∀ a, PSs X e (t a)) : PSs X e (fun D σ H => ∃ a, t a D σ H) := ⟨fun pins s σ H D I ⟨a, q⟩ => (h a).run pins s σ H D I q⟩
section
variable {α β γ δ : Type} {c : Ct} {ρ : En} {σ : L2.St} {H : Hp} {D : Ends}
theorem tS.stF (h : tS c ρ .st D σ H) : False := by obtain ⟨_, _, h⟩ := h; exact h
/-- an exception within -/
theorem tS.exE {V' : Vp γ δ} {n : Str} {f : Option PyData} {ρ1 : En} {Q : δ → Hp → Prop} (h : tS c ρ (.ex n f ρ1) D σ H) : tR V' c ρ (.ex n f ρ1) σ H Q := by
  obtain ⟨fp, r, h⟩ := h
  exact ⟨fp, r, fun cls dd H' fp' a b t => h cls dd σ H' fp' a b t⟩
theorem tS.go {V' : Vp γ δ} {d : γ} {ρ1 : En} {r : R Fl} {Q : δ → Hp → Prop} (h : tS c ρ r D σ H)
    (n : ∀ fp v H1 fp1, V'.p σ H fp fp1 H1 d v → Ext H H1 → Rep c.K c.σb H1 ρ1 σ fp1 → tSc c fp1 r D H1 → Q v H1) : tR V' c ρ (.ok d ρ1) σ H Q := by
  obtain ⟨fp, a, b⟩ := h
  exact ⟨fp, a, fun v H1 fp1 r1 f1 s1 => n fp v H1 fp1 f1 s1.ext r1 (b.step s1)⟩
/-- a part, then the rest -/
theorem bS1 {X : Cx} {st : Stmt} {Z1 : (L2.St → Hp → (δ → Hp → Prop) → Prop) → Prop} {V1 : Vp γ δ} {ra : R γ} {k : γ → En → R Fl} {G : Ends → L2.St → δ → Hp → Prop}
    (ha : Z1 (tR V1 c ρ ra)) (ru : ∀ ta, Z1 ta → PS X st (fun D σ H => ta σ H fun v H1 => G D σ v H1))
    (fin : ∀ x ρ1, ra = .ok x ρ1 → ∀ D σ v H0 fp fp1 H, V1.p σ H0 fp fp1 H x v → Rep c.K c.σb H ρ1 σ fp1 → tSc c fp1 (k x ρ1) D H → G D σ v H) : PS X st (tS c ρ (ra.bind k)) := by
  cases ra with
  | st => exact PS.imp PS.no fun D σ H h => h.stF
  | ex n f ρ1 => exact PS.imp (ru _ ha) fun D σ H h => h.exE
  | ok x ρ1 => exact PS.imp (ru _ ha) fun D σ H h => h.go fun fp v H1 fp1 a e r h1 => fin x ρ1 rfl D σ v H fp fp1 H1 a r h1
end
end AF

set_option maxHeartbeats 4000000
namespace AF
open PySem PySem.Spec L2
open PyProof.Rows hiding St
/-! ## 27. freezing a slot -/
section
variable {X : Cx} {pins : List (Addr × Obj)} {σ : L2.St} {s : Shared}
theorem frz_many : ∀ (cs : List Addr) {H : Hp}, Inv X pins σ H s → cs.Nodup → (∀ a ∈ cs, ∃ u, H a = some u ∧ frzable u = true) →
    ∃ H', Inv X pins σ H' s ∧ Ext H H' ∧ (∀ a, a ∉ cs → H' a = H a) ∧ ∀ a ∈ cs, ∀ u, H a = some u → ∃ o, H' a = some (.frz o u)
  | [], H, I, _, _ => ⟨H, I, Ext.refl H, fun _ _ => rfl, fun a h => by cases h⟩
  | p :: cs, H, I, n, h => by
    obtain ⟨u, hp, hu⟩ := h p List.mem_cons_self
    obtain ⟨o, I1⟩ := frzInv I hp hu
    have nd := List.nodup_cons.mp n
    obtain ⟨H', I2, e, k1, k2⟩ := frz_many cs I1 nd.2 (fun a ha => by
      obtain ⟨w, e1, e2⟩ := h a (List.mem_cons_of_mem _ ha)
      exact ⟨w, by rw [upd_ne (fun z => nd.1 (by rw [← z]; exact ha))]; exact e1, e2⟩)
    refine ⟨H', I2, (ext_freeze hp hu).trans e, fun a ha => ?_, fun a ha w hw => ?_⟩
    · have h1 : a ≠ p ∧ a ∉ cs := ⟨fun z => ha (by rw [z]; exact List.mem_cons_self), fun z => ha (List.mem_cons_of_mem _ z)⟩
      rw [k1 a h1.2, upd_ne h1.1]
    · by_cases z : a = p
      · subst z
        rw [hp] at hw
        cases hw
        exact ⟨o, by rw [k1 a nd.1]; exact upd_same⟩
      · have ha : a ∈ cs := by rcases List.mem_cons.mp ha with h | h; exact absurd h z; exact h
        exact k2 a ha w (by rw [upd_ne z]; exact hw)
theorem FpAll.of_get {H : Hp} : ∀ {vs : List V} {ds : List PyData}, vs.length = ds.length → (∀ (i : Nat) v d, vs[i]? = some v → ds[i]? = some d → Fp H v d) → FpAll H vs ds
  | [], [], _, _ => .nil
  | v :: vs, [], h, _ => by cases h
  | [], d :: ds, h, _ => by cases h
  | v :: vs, d :: ds, h, f => .cons (f 0 v d rfl rfl) (FpAll.of_get (by simpa using h) fun i v d h1 h2 => f (i + 1) v d (by simpa using h1) (by simpa using h2))
theorem FpKv.of_get {H : Hp} : ∀ {ks : List (List Key × V)} {ds : List (PyData × PyData)}, ks.length = ds.length → (∀ (i : Nat) k v d, ks[i]? = some (k, v) → ds[i]? = some d → d.1 = keysD k ∧ Fp H v d.2) → FpKv H ks ds
  | [], [], _, _ => .nil
  | v :: vs, [], h, _ => by cases h
  | [], d :: ds, h, _ => by cases h
  | (k, v) :: vs, (kd, d) :: ds, h, f => by
    obtain ⟨e, g⟩ := f 0 k v (kd, d) rfl rfl
    obtain rfl : kd = keysD k := e
    exact .cons g (FpKv.of_get (by simpa using h) fun i k v d h1 h2 => f (i + 1) k v d (by simpa using h1) (by simpa using h2))
theorem Ow.froz {H H' : Hp} {v : V} {fp : List Addr} {m : M} (o : Ow H v fp m) (e : Ext H H') (k : ∀ a ∈ fp, ∀ u, H a = some u → ∃ o, H' a = some (.frz o u)) : Fp H' v m.toD := by
  cases m with
  | l xs =>
    obtain ⟨p, vs, rfl, rfl, ep, f⟩ := o
    obtain ⟨o, e2⟩ := k p (by simp) _ ep
    exact .lst ⟨o, e2⟩ (FpAll.mono e _ f)
  | d xs =>
    obtain ⟨p, vs, rfl, rfl, ep, f⟩ := o
    obtain ⟨o, e2⟩ := k p (by simp) _ ep
    exact .dic e2 (FpKv.mono e _ f)
  | ll xs =>
    obtain ⟨p, as, rfl, rfl, n, ep, hl, hq⟩ := o
    obtain ⟨o, e2⟩ := k p (by simp) _ ep
    refine .lst ⟨o, e2⟩ (FpAll.of_get (by simp [hl]) fun i v d h1 h2 => ?_)
    rw [List.getElem?_map] at h1 h2
    obtain ⟨b, hb1, rfl⟩ := Option.map_eq_some_iff.mp h1
    obtain ⟨ds, hb2, rfl⟩ := Option.map_eq_some_iff.mp h2
    obtain ⟨vs, e3, f⟩ := hq i b ds hb1 hb2
    obtain ⟨o2, e4⟩ := k b (List.mem_cons_of_mem _ (List.mem_of_getElem? hb1)) _ e3
    exact .lst ⟨o2, e4⟩ (FpAll.mono e _ f)
  | dl kvs =>
    obtain ⟨p, as, ks, rfl, rfl, n, ep, hl, hk, hq⟩ := o
    obtain ⟨o, e2⟩ := k p (by simp) _ ep
    refine .dic e2 (FpKv.of_get (by simp [hl, hk]) fun i key v d h1 h2 => ?_)
    rw [List.getElem?_zip_eq_some] at h1
    obtain ⟨h1, h3⟩ := h1
    rw [List.getElem?_map] at h2 h3
    obtain ⟨b, hb3, rfl⟩ := Option.map_eq_some_iff.mp h3
    obtain ⟨kd, hb2, rfl⟩ := Option.map_eq_some_iff.mp h2
    obtain ⟨g, vs, e3, f⟩ := hq i b key kd hb3 h1 hb2
    obtain ⟨o2, e4⟩ := k b (List.mem_cons_of_mem _ (List.mem_of_getElem? hb3)) _ e3
    exact ⟨g, .lst ⟨o2, e4⟩ (FpAll.mono e _ f)⟩
theorem frz_rep {K : PySem.W.Frag} {σb : L2.St} {H : Hp} {ρ : En} {fp : Nat → List Addr} {i : Nat} {m : M} (I : Inv X pins σ H s) (r : Rep K σb H ρ σ fp) (hi : ρ[i]? = some (.mu m)) :
    ∃ H', Inv X pins σ H' s ∧ Rep K σb H' (ρ.set i (.im m.toD)) σ (fpSet fp i []) ∧ Stp H fp H' (fpSet fp i []) := by
  obtain ⟨v, ev, o⟩ := r.ok i _ hi
  obtain ⟨H', I', e, k1, k2⟩ := frz_many (fp i) I o.nodup o.cell
  have sub : ∀ j, fpSet fp i [] j = fp j ∨ fpSet fp i [] j = [] := fun j => by
    by_cases z : j = i
    · right; rw [z, fpSet_same]
    · left; rw [fpSet_ne z]
  refine ⟨H', I', ⟨by simp [r.len], fun j t hj => ?_, fun j hj => ?_, fun j k a ha hb => ?_, r.lb⟩, e, fun a u ha n => ?_, fun j a ha => ?_⟩
  · by_cases z : j = i
    · subst z
      rw [List.getElem?_set_self (List.getElem?_eq_some_iff.mp hi).1] at hj
      cases hj
      rw [fpSet_same]
      exact ⟨rfl, v, ev, o.froz e k2⟩
    · rw [List.getElem?_set_ne (fun y => z y.symm)] at hj
      rw [fpSet_ne z]
      refine (r.ok j t hj).mono e fun a ha u hu => ?_
      rw [k1 a (fun y => z (r.dis j i a ha y))]
      exact hu
  · rw [List.length_set] at hj
    rcases sub j with z | z
    · rw [z]; exact r.out j hj
    · exact z
  · rcases sub j with z | z
    · rw [z] at ha
      rcases sub k with y | y
      · rw [y] at hb; exact r.dis j k a ha hb
      · rw [y] at hb; cases hb
    · rw [z] at ha; cases ha
  · rw [k1 a (n i)]
    exact ha
  · rcases sub j with z | z
    · rw [z] at ha; exact .inl ⟨j, ha⟩
    · rw [z] at ha; cases ha
end
theorem PSs.impI {X : Cx} {e : List Stmt} {t t' : TS} (h : PSs X e t) (i : ∀ pins s D σ H, Inv X pins σ H s → t' D σ H → ∃ H', Inv X pins σ H' s ∧ t D σ H') : PSs X e t' :=
  ⟨fun pins s σ H D I q => by
    obtain ⟨H', I', q'⟩ := i pins s D σ H I q
    exact h.run pins s σ H' D I' q'⟩
/-! ## 28. statements: the nodes -/
section
variable {q : Sx} {cf : CallF} {c : Ct} {X : Cx} {a b d : Expr} {fa fb fd : En → R PyData} {sts rest : List Stmt} {st : Stmt} {ρ : En}
def seqR (r : R Fl) (k : En → R Fl) : R Fl := r.bind fun f ρ1 => match f with
  | .nx => k ρ1
  | f => .ok f ρ1
theorem ns_nil : PSs X [] (tS c ρ (.ok .nx ρ)) := PSs.imp pss_nil fun D σ H ⟨fp, r, h⟩ => h σ H fp r Stp.refl
theorem ns_cons {r : R Fl} {k : En → R Fl} (h : PS X st (tS c ρ r)) (hr : ∀ ρ, PSs X rest (tS c ρ (k ρ))) : PSs X (st :: rest) (tS c ρ (seqR r k)) := by
  refine PSs.imp (pss_cons h (PSs.all hr)) fun D σ H ⟨fp, rp, z⟩ => ⟨fp, rp, ?_⟩
  cases r with
  | st => exact z
  | ex n f ρ1 => exact z
  | ok f ρ1 =>
    cases f with
    | nx => exact fun σ' H' fp' r' s' => ⟨ρ1, fp', r', tSc.step (show tSc c fp (k ρ1) D H from z) s'⟩
    | brk => exact z
    | cnt => exact z
    | rt v => exact z
theorem ns_frz {i : Nat} {r : En → R Fl} (hr : ∀ ρ, PSs X sts (tS c ρ (r ρ))) : PSs X sts (tS c ρ (seqR (evS cf (.frz i) ρ) r)) := by
  refine PSs.impI (PSs.all hr) fun pins s D σ H I ⟨fp, rp, z⟩ => ?_
  cases e : ρ[i]? with
  | none =>
    have u : evS cf (.frz i) ρ = .st := by unfold evS; rw [e]; rfl
    rw [u] at z; exact z.elim
  | some sl =>
    cases sl with
    | mu m =>
      have u : evS cf (.frz i) ρ = .ok .nx (ρ.set i (.im m.toD)) := by unfold evS; rw [e]; rfl
      rw [u] at z
      obtain ⟨H', I', r', s'⟩ := frz_rep I rp e
      exact ⟨H', I', _, _, r', tSc.step (show tSc c fp (r _) D H from z) s'⟩
    | _ =>
      have u : evS cf (.frz i) ρ = .st := by unfold evS; rw [e]; rfl
      rw [u] at z; exact z.elim
theorem Stp.drop {H : Hp} {fp : Nat → List Addr} (is : List Nat) : Stp H fp H (fpDrop fp is) := Stp.refl.sub (fpDrop_sub fp is)
theorem ns_fgt {is : List Nat} {r : En → R Fl} (hr : ∀ ρ, PSs X sts (tS c ρ (r ρ))) : PSs X sts (tS c ρ (seqR (evS cf (.fgt is) ρ) r)) :=
  PSs.imp (hr (forget is ρ)) fun D σ H ⟨fp, rp, z⟩ => ⟨fpDrop fp is, rp.forget is, tSc.step (show tSc c fp (r (forget is ρ)) D H from z) (Stp.drop is)⟩
theorem ns_ret {pos : Pos} (ha : ∀ ρ, PE X a (tE c ρ (fa ρ))) : PS X (.Return (some a) pos) (tS c ρ ((fa ρ).bind fun x ρ1 => .ok (.rt x) ρ1)) :=
  bS1 (ha ρ) (G := fun D _ v H => D.rt v H) (fun ta h => ps_ret h) fun x ρ1 _ D σ v H0 fp fp1 H f r h => h σ H fp1 r Stp.refl v f
def noLc : Expr → Bool
  | .ListComp .. => false
  | .SetComp .. => false
  | .DictComp .. => false
  | _ => true
theorem noLc_ok {e : Expr} (h : noLc e = true) (t : Option Expr) (n : Nat) (env : PySem.Env) : swapsWith e t n env = pure false := by
  cases e <;> first | rfl | cases h
theorem ns_ex {pos : Pos} (hn : noLc a = true) (ha : ∀ ρ, PE X a (tE c ρ (fa ρ))) : PS X (.Expr a pos) (tS c ρ ((fa ρ).bind fun x ρ1 => .ok .nx ρ1)) :=
  bS1 (ha ρ) (G := fun D σ _ H => D.nx σ H) (fun ta h => ps_expr h (noLc_ok hn _ _ _)) fun x ρ1 _ D σ v H0 fp fp1 H f r h => h σ H fp1 r Stp.refl
theorem ns_brk {pos : Pos} : PS X (.Break pos) (tS c ρ (.ok .brk ρ)) := PS.imp ps_break fun D σ H ⟨fp, r, h⟩ => h σ H fp r Stp.refl
theorem ns_cnt {pos : Pos} : PS X (.Continue pos) (tS c ρ (.ok .cnt ρ)) := PS.imp ps_continue fun D σ H ⟨fp, r, h⟩ => h σ H fp r Stp.refl
theorem ns_ite {pos : Pos} {ra : R PyData} {ka kb : En → R Fl} {ss ts : List Stmt} (ha : PT X a (tB (tE c ρ ra))) (h1 : ∀ ρ, PSs X ss (tS c ρ (ka ρ))) (h2 : ∀ ρ, PSs X ts (tS c ρ (kb ρ))) :
    PS X (.If a ss ts pos) (tS c ρ (ra.bind fun x ρ1 => match x with
    | .bool true => ka ρ1
    | .bool false => kb ρ1
    | _ => .st)) := by
  refine bS1 (Z1 := fun t => PT X a (tB t)) ha (G := fun D σ v H => ∃ k, v = V.bl k ∧ if k = true then (∃ ρ, tS c ρ (ka ρ) D σ H) else (∃ ρ, tS c ρ (kb ρ) D σ H)) (fun ta h => ps_if h (PSs.all h1) (PSs.all h2)) fun x ρ1 _ D σ v H0 fp fp1 H f r h => ?_
  cases x with
  | bool b =>
    obtain rfl := (show Fp H v (.bool b) from f).bl_inv
    cases b with
    | true => exact ⟨true, rfl, by simpa using ⟨ρ1, fp1, r, h⟩⟩
    | false => exact ⟨false, rfl, by simpa using ⟨ρ1, fp1, r, h⟩⟩
  | _ => exact h.elim
/-! ### assignments -/
theorem set_im {x : PyData} {ρ1 ρ3 : En} {i : Nat} {v : V} {σ : L2.St} {H : Hp} {fp : Nat → List Addr} (r : Rep c.K c.σb H ρ1 σ fp) (f : Fp H v x) (e : setS ρ1 i (.im x) = some ρ3) : ∃ fp', Rep c.K c.σb H ρ3 (σ.set i (some v)) fp' ∧ Stp H fp H fp' := by
  obtain ⟨rfl, hi⟩ := setS_inv e
  exact ⟨_, r.setIm hi f, Stp.refl.sub fun j => by
    by_cases z : j = i
    · right; rw [z, fpSet_same]
    · left; rw [fpSet_ne z]⟩
theorem set_mu {x : PyData} {m : M} {ρ1 ρ3 : En} {i : Nat} {v : V} {σ : L2.St} {H0 H : Hp} {fp0 fp : Nat → List Addr} (r : Rep c.K c.σb H ρ1 σ fp) (f : Fw H0 fp0 fp H v x) (eo : ownD x = some m) (e : setS ρ1 i (.mu m) = some ρ3) :
    ∃ p fp', Rep c.K c.σb H ρ3 (σ.set i (some v)) fp' ∧ NewAt H0 fp0 fp p ∧ ∀ j, fp' j = fp j ∨ fp' j = [] ∨ fp' j = [p] := by
  obtain ⟨rfl, hi⟩ := setS_inv e
  have go : ∀ p, NewAt H0 fp0 fp p → v = .ref p → Ow H v [p] m → ∃ p fp', Rep c.K c.σb H (ρ1.set i (.mu m)) (σ.set i (some v)) fp' ∧ NewAt H0 fp0 fp p ∧ ∀ j, fp' j = fp j ∨ fp' j = [] ∨ fp' j = [p] := by
    intro p nw _ o
    refine ⟨p, _, r.set hi (l := [p]) ⟨v, rfl, o⟩ (fun a ha j _ => ?_), nw, fun j => ?_⟩
    · obtain rfl := List.mem_singleton.mp ha; exact nw.2 j
    · by_cases z : j = i
      · right; right; rw [z, fpSet_same]
      · left; rw [fpSet_ne z]
  cases x with
  | list ds =>
    cases eo
    obtain ⟨p, vs, rfl, nw, hp, fa⟩ := f
    exact go p nw rfl ⟨p, vs, rfl, rfl, hp, fa⟩
  | dict ds =>
    cases eo
    obtain ⟨p, vs, rfl, nw, hp, fa⟩ := f
    exact go p nw rfl ⟨p, vs, rfl, rfl, hp, fa⟩
  | _ => cases eo
/-- the value, then the slot -/
def asR (own : Bool) (i : Nat) (r : R PyData) : R Fl := r.bind fun x ρ1 => (R.of (if own then (ownD x).map .mu else some (.im x)) ρ1).bind fun s ρ2 => (R.of (setS ρ2 i s) ρ2).bind fun ρ3 _ => .ok .nx ρ3
theorem as_read {own : Bool} {i : Nat} {r : R PyData} {D : Ends} {σ : L2.St} {H : Hp} (h : tS c ρ (asR own i r) D σ H) : (if own then tF c ρ r else tE c ρ r) σ H (fun v H1 => D.nx (σ.set i (some v)) H1) := by
  cases r with
  | st => exact h.stF.elim
  | ex n f ρ1 => cases own <;> exact h.exE
  | ok x ρ1 =>
    cases own with
    | false =>
      refine h.go (V' := vE) fun fp v H1 fp1 f _ r h1 => ?_
      have h1 : tSc c fp1 ((R.of (setS ρ1 i (.im x)) ρ1).bind fun ρ3 _ => .ok .nx ρ3) D H1 := h1
      cases e : setS ρ1 i (.im x) with
      | none => rw [e] at h1; exact h1.elim
      | some ρ3 =>
        rw [e] at h1
        obtain ⟨fp', r', s'⟩ := set_im r f e
        exact h1 _ H1 fp' r' s'
    | true =>
      obtain ⟨fp, rp, h⟩ := h
      refine ⟨fp, rp, fun v H1 fp1 r f s1 => ?_⟩
      have h : tSc c fp ((R.of ((ownD x).map .mu) ρ1).bind fun s ρ2 => (R.of (setS ρ2 i s) ρ2).bind fun ρ3 _ => .ok .nx ρ3) D H := h
      cases eo : ownD x with
      | none => rw [eo] at h; exact h.elim
      | some m =>
        rw [eo] at h
        have h : tSc c fp ((R.of (setS ρ1 i (.mu m)) ρ1).bind fun ρ3 _ => .ok .nx ρ3) D H := h
        cases e : setS ρ1 i (.mu m) with
        | none => rw [e] at h; exact h.elim
        | some ρ3 =>
          rw [e] at h
          obtain ⟨p, fp', r', nw, sub⟩ := set_mu r f eo e
          refine h _ H1 fp' r' ⟨s1.ext, s1.keep, fun j a ha => ?_⟩
          rcases sub j with z | z | z
          · rw [z] at ha; exact s1.new j a ha
          · rw [z] at ha; cases ha
          · rw [z] at ha; obtain rfl := List.mem_singleton.mp ha; exact nw.1
theorem ns_as (k : OkX q cf c X) {own : Bool} {i : Nat} {x : Str} {p pos : Pos} (hs : stoOk q i x = true) (hn : noLc a = true) (ha : if own then ∀ ρ, PE X a (tF c ρ (fa ρ)) else ∀ ρ, PE X a (tE c ρ (fa ρ))) :
    PS X (.Assign [.Name x p] a pos) (tS c ρ (asR own i (fa ρ))) := by
  obtain ⟨h1, h2, h3⟩ := k.sto hs
  have ha : PE X a (if own then tF c ρ (fa ρ) else tE c ρ (fa ρ)) := by cases own <;> exact ha ρ
  exact PS.imp (ps_set k.nd h1 h2 ha (noLc_ok hn _ _ _) h3) fun D σ H h => as_read h
end
end AF

set_option maxHeartbeats 4000000
namespace AF
open PySem PySem.Spec L2
open PyProof.Rows hiding St
section
variable {q : Sx} {cf : CallF} {c : Ct} {X : Cx} {a b d : Expr} {fa fb fd : En → R PyData} {sts rest : List Stmt} {st : Stmt} {ρ : En}
/-- a fresh answer stored, then frozen -/
theorem ps_frzset {i : Nat} {t : TE} {r : R PyData} (h : PS X st (tAsg t (gName i))) (ht : ∀ σ H Q, tF c ρ r σ H Q → t σ H Q) : PS X st (tS c ρ (asR false i r)) := by
  refine ⟨fun pins s σ H D I q => ?_⟩
  obtain ⟨fp, rp, q⟩ := q
  cases r with
  | st => exact q.elim
  | ex n f ρ1 => exact h.run pins s σ H D I (ht _ _ _ ⟨fp, rp, fun cls dd H' fp' a b t => q cls dd σ H' fp' a b t⟩)
  | ok x ρ1 =>
    have q : tSc c fp ((R.of (setS ρ1 i (.im x)) ρ1).bind fun ρ3 _ => .ok .nx ρ3) D H := q
    cases e : setS ρ1 i (.im x) with
    | none => rw [e] at q; exact q.elim
    | some ρ3 =>
      rw [e] at q
      have q : ∀ σ' H' fp', Rep c.K c.σb H' ρ3 σ' fp' → Stp H fp H' fp' → D.nx σ' H' := q
      have z := h.run pins s σ H { nx := fun σ' H' => ∃ v fp1, σ' = σ.set i (some v) ∧ Rep c.K c.σb H' ρ1 σ fp1 ∧ Fw H fp fp1 H' v x ∧ Stp H fp H' fp1, rt := fun _ _ => False } I
        (ht _ _ _ ⟨fp, rp, fun v H1 fp1 a b t => ⟨v, fp1, rfl, a, b, t⟩⟩)
      refine wpAny_mono z (fun fl s1 hu => ?_) (fun _ _ x => x)
      cases fl with
      | next =>
        obtain ⟨σ', H1, I1, v, fp1, rfl, r1, f, t⟩ := hu
        have done : Fp H1 v x → ∃ σ' H', Inv X pins σ' H' s1 ∧ D.nx σ' H' := fun f => by
          obtain ⟨fp', r', s'⟩ := set_im r1 f e
          exact ⟨_, H1, I1, q _ H1 fp' r' (t.trans s')⟩
        have frz : ∀ p w, v = .ref p → NewAt H fp fp1 p → H1 p = some w → frzable w = true → (∀ o, Ext H1 (upd H1 p (.frz o w)) → Fp (upd H1 p (.frz o w)) v x) → ∃ σ' H', Inv X pins σ' H' s1 ∧ D.nx σ' H' := by
          intro p w _ nw hp hw f
          obtain ⟨o, I2⟩ := frzInv I1 hp hw
          have ex := ext_freeze (o := o) hp hw
          have keep : ∀ i, ∀ b ∈ fp1 i, ∀ u, H1 b = some u → upd H1 p (.frz o w) b = some u := fun i b hb u hu => by
            rw [upd_ne (fun z => nw.2 i (by rw [← z]; exact hb))]; exact hu
          obtain ⟨fp', r', s'⟩ := set_im (r1.mono ex keep) (f o ex) e
          refine ⟨_, _, I2, q _ _ fp' r' (Stp.trans ⟨t.ext.trans ex, fun b o' hb n => ?_, t.new⟩ s')⟩
          have z1 := t.keep b o' hb n
          refine (upd_ne (fun z => ?_)).trans z1
          subst z
          rcases nw.1 with ⟨j, hj⟩ | e
          · exact n j hj
          · rw [e] at hb; cases hb
        cases x with
        | list ds =>
          obtain ⟨p, vs, rfl, nw, hp, f⟩ := f
          exact frz p _ rfl nw hp rfl fun o ex => .lst ⟨o, upd_same⟩ (FpAll.mono ex _ f)
        | dict ds =>
          obtain ⟨p, vs, rfl, nw, hp, f⟩ := f
          exact frz p _ rfl nw hp rfl fun o ex => .dic upd_same (FpKv.mono ex _ f)
        | none => exact done f
        | bool _ => exact done f
        | int _ => exact done f
        | str _ => exact done f
        | tuple _ => exact done f
      | brk => obtain ⟨_, _, _, z⟩ := hu; exact z.elim
      | cont => obtain ⟨_, _, _, z⟩ := hu; exact z.elim
      | ret u => obtain ⟨_, _, _, _, _, z⟩ := hu; exact z.elim
/-- does the store of a comprehension swap? -/
def lcSwap (q : Sx) (y : Str) (py lp : Pos) (scope : PySem.Scope) : Bool := (q.sc.kind == ScopeKind.function) && isLoc q.sc y && (py.line == lp.line) && !(scope.names.any fun x => x.1 == y && (x.2 == NameKind.local || x.2 == NameKind.cell))
def isFun (q : Sx) : Bool := match q.sc.kind with
  | .function => true
  | _ => false
theorem isFun_ok (h : isFun q = true) : q.sc.kind = .function := by
  unfold isFun at h
  split at h
  · assumption
  · cases h
theorem lcSwap_ok (k : OkX q cf c X) (hf : isFun q = true) {elt : Expr} {gens : List Comprehension} {scope : PySem.Scope} {lp py : Pos} {y : Str} {n : Nat} : swapsWith (.ListComp elt gens scope lp) (some (.Name y py)) n X.env = pure (lcSwap q y py lp scope) := by
  have hk := isFun_ok hf
  have e : swapsWith (.ListComp elt gens scope lp) (some (.Name y py)) n X.env = pure (X.env.blockKind == ScopeKind.function && X.env.kindOf y == some NameKind.local && py.line == lp.line && !(scope.names.any fun x => x.1 == y && (x.2 == NameKind.local || x.2 == NameKind.cell))) := rfl
  rw [e]
  unfold lcSwap Env.blockKind Env.kindOf
  rw [k.sc, hk]
  congr 1
  have : (List.lookup y q.sc.names == some NameKind.local) = isLoc q.sc y := by
    unfold isLoc
    cases List.lookup y q.sc.names with
    | none => rfl
    | some kd => cases kd <;> rfl
  rw [this]
  rfl
theorem ns_asLc (k : OkX q cf c X) {own : Bool} {i : Nat} {x : Str} {p pos lp : Pos} {e : E} {t : Tg} {it : AF.It} {cs : Es} {ow : List Nat} {elt tg iter : Expr} {ifs : List Expr} {scope : PySem.Scope} (hs : stoOk q i x = true) (hf : isFun q = true)
    (h1 : nset iter = true) (h2 : blkC q.N q.sc scope (ow.map fun i => (q.N.getD i (Str.ofString ""), i)) = true) (h3 : t.slots.all (ow.contains ·) = true)
    (h4 : ifs.length ≤ 1) (h5 : ifs.all tst = true) (hi : ∀ ρ, PI X tg iter (tR vIt c ρ (evIt cf it ρ))) (h7 : chkT (q.comp scope) t tg = true)
    (hcs : ∀ c X, OkX (q.comp scope) cf c X → ∀ ρ, PTs X ifs (tB (tE c ρ (evAnd cf cs ρ)))) (he : ∀ c X, OkX (q.comp scope) cf c X → ∀ ρ, PE X elt (tE c ρ (ev cf e ρ))) (ρ : En) :
    PS X (.Assign [.Name x p] (.ListComp elt [⟨tg, iter, ifs, 0⟩] scope lp) pos) (tS c ρ (asR own i (ev cf (.lc e t it cs ow) ρ))) := by
  obtain ⟨s1, s2, s3⟩ := k.sto hs
  have pe := nd_lc (pos := lp) k h1 h2 h3 h4 h5 hi h7 hcs he ρ
  cases hsw : lcSwap q x p lp scope with
  | false =>
    have sw := lcSwap_ok k hf (elt := elt) (gens := [⟨tg, iter, ifs, 0⟩]) (scope := scope) (lp := lp) (py := p) (y := x) (n := pos.line)
    rw [hsw] at sw
    have pe : PE X (.ListComp elt [⟨tg, iter, ifs, 0⟩] scope lp) (if own then tF c ρ (ev cf (.lc e t it cs ow) ρ) else tE c ρ (ev cf (.lc e t it cs ow) ρ)) := by
      cases own with
      | true => exact pe
      | false => exact toE pe
    exact PS.imp (ps_set k.nd s1 s2 pe sw s3) fun D σ H h => as_read h
  | true =>
    have sw := lcSwap_ok k hf (elt := elt) (gens := [⟨tg, iter, ifs, 0⟩]) (scope := scope) (lp := lp) (py := p) (y := x) (n := pos.line)
    rw [hsw] at sw
    have loc : X.env.scope.names.lookup x = some NameKind.local := by
      unfold lcSwap at hsw
      simp only [Bool.and_eq_true] at hsw
      rw [k.sc]
      exact isLoc_ok hsw.1.1.2
    have b : BlkOk X.N X.env.scope scope (ow.map fun i => (q.N.getD i (Str.ofString ""), i)) := by rw [k.N, k.sc]; exact blkOk_by h2
    have ps := ps_setLc (i := i) (py := p) (pos := lp) (spos := pos) k.calm k.nd s1 loc sw (hi ρ) b (fun s H C cl fp => (snd_tg (k.comp (s := s) (H := H) (C := C) (cl := cl) (fp := fp))).1 t tg h7)
      (fun s H C cl fp => PTs.all fun ρ => hcs c.calm _ (k.comp (s := s) (H := H) (C := C) (cl := cl) (fp := fp)) ρ) (fun s H C cl fp => PE.all fun ρ => he c.calm _ (k.comp (s := s) (H := H) (C := C) (cl := cl) (fp := fp)) ρ) (nset_ok h1 X.env)
    rw [own_snd] at ps
    cases own with
    | true => exact PS.imp ps fun D σ H h => lc_read (all_ts h3) (as_read h)
    | false => exact ps_frzset ps fun σ H Q h => lc_read (all_ts h3) h
def notTup : Expr → Bool
  | .Tuple .. => false
  | _ => true
theorem sw_tup {e : Expr} (es : List Expr) (n : Nat) (p : Pos) (l : Nat) (env : PySem.Env) : swapsWithSole [.Tuple es n p] e l env = pure false := by
  cases e <;> rfl
theorem sw_sub {e o i : Expr} (p : Pos) (l : Nat) (env : PySem.Env) : swapsWithSole [.Subscript o i p] e l env = pure false := by
  cases e <;> rfl
theorem ss_none {e : Expr} (h : notTup e = true) (es : List Expr) (n : Nat) (p : Pos) (env : PySem.Env) : swappedStores [.Tuple es n p] e env = pure none := by
  cases e <;> first | rfl | cases h
theorem ns_unp (k : OkX q cf c X) {t : Tg} {es : List Expr} {n : Nat} {p pos : Pos} (hn : notTup a = true) (ht : chkT q t (.Tuple es n p) = true) (ha : ∀ ρ, PE X a (tE c ρ (fa ρ))) :
    PS X (.Assign [.Tuple es n p] a pos) (tS c ρ ((fa ρ).bind fun x ρ1 => (R.of (bindT t x ρ1) ρ1).bind fun ρ3 _ => .ok .nx ρ3)) := by
  refine bS1 (ha ρ) (G := fun D σ v H => gB c t v σ H D.nx) (fun ta h => ps_asg h ((snd_tg k).1 t _ ht) (sw_tup _ _ _ _ _) (ss_none hn _ _ _ _) rfl) fun x ρ1 _ D σ v H0 fp fp1 H f r h => ?_
  cases e : bindT t x ρ1 with
  | none => rw [e] at h; exact h.elim
  | some ρ3 =>
    rw [e] at h
    exact ⟨x, ρ1, ρ3, fp1, r, f, e, fun σ' fp' r' sub _ _ => h σ' H fp' r' (Stp.refl.sub sub)⟩
/-! ### loops -/
def forF (cf : CallF) (t : Tg) (b : Ss) (x : PyData) (ρ2 : En) : R Fl := (R.of (bindT t x ρ2) ρ2).bind fun ρ3 _ => evSs cf b ρ3
theorem ns_for (k : OkX q cf c X) {t : Tg} {it : AF.It} {bd : Ss} {fg : List Nat} {tg iter : Expr} {body : List Stmt} {pos : Pos} (h1 : nset iter = true) (hi : ∀ ρ, PI X tg iter (tR vIt c ρ (evIt cf it ρ))) (ht : chkT q t tg = true) (hb : ∀ ρ, PSs X body (tS c ρ (evSs cf bd ρ))) :
    PS X (.For tg iter body [] pos) (tS c ρ (evS cf (.for_ t it bd fg) ρ)) := by
  refine PS.imp (ps_for k.own k.calm (hi ρ) ((snd_tg k).1 t tg ht) (PSs.all hb) (nset_ok h1 X.env)) fun D σ H h => ?_
  have h : tS c ρ ((evIt cf it ρ).bind fun xs ρ1 => forLoop (forF cf t bd) (forget fg) xs ρ1) D σ H := h
  show tR vIt c ρ (evIt cf it ρ) σ H _
  generalize evIt cf it ρ = ri at h ⊢
  cases ri with
  | st => exact h.stF.elim
  | ex n f ρ1 => exact h.exE
  | ok xs ρ1 =>
    refine h.go fun fp J H1 fp1 w e1 r1 h1 => ?_
    rw [R.bind_ok] at h1
    obtain ⟨hlen, G, Y, w, hG, hY⟩ := w
    refine for_it w (g := gB c t) (tb := fun D σ H => ∃ ρ, tS c ρ (evSs cf bd ρ) D σ H) (D := D) (σ := σ) (H := H1) (Pv := fun i σ2 H2 => ∃ ρ2 fp2, Rep c.K c.σb H2 ρ2 σ2 fp2 ∧ Stp H1 fp1 H2 fp2 ∧ tSc c fp2 (forLoop (forF cf t bd) (forget fg) (xs.drop i) ρ2) D H2) ?_ ?_ ?_ ?_
    · exact ⟨ρ1, fp1, r1, Stp.refl, h1⟩
    · intro i σ2 H2 _ ⟨ρ2, fp2, a1, a2, a3⟩
      exact hG H2 a2.ext
    · intro i x σ2 H2 H3 hi ⟨ρ2, fp2, a1, a2, a3⟩ hy
      obtain ⟨sm, d, ed, fd⟩ := hY i H2 x H3 a2.ext hy
      have edr : xs.drop i = d :: xs.drop (i + 1) := by
        rw [List.drop_eq_getElem_cons hi]
        rw [List.getElem?_eq_getElem hi] at ed
        rw [Option.some.inj ed]
      rw [edr, forLoop] at a3
      cases eb : bindT t d ρ2 with
      | none =>
        have eF : forF cf t bd d ρ2 = .st := by unfold forF; rw [eb]; rfl
        rw [eF] at a3
        exact a3.elim
      | some ρ3 =>
        have eF : forF cf t bd d ρ2 = evSs cf bd ρ3 := by unfold forF; rw [eb]; rfl
        rw [eF] at a3
        refine ⟨d, ρ2, ρ3, fp2, a1.same sm, fd, eb, fun σ' fp3 r3 sub3 _ _ => ⟨ρ3, fp3, r3, ?_⟩⟩
        have s3 : Stp H2 fp2 H3 fp3 := (Stp.same sm).sub sub3
        have nxt : ∀ (ρ4 : En) (σ4 : L2.St) (H4 : Hp) (fp4 : Nat → List Addr), tSc c fp2 (forLoop (forF cf t bd) (forget fg) (xs.drop (i + 1)) (forget fg ρ4)) D H2 → Rep c.K c.σb H4 ρ4 σ4 fp4 → Stp H3 fp3 H4 fp4 →
            ∃ ρ2 fp2, Rep c.K c.σb H4 ρ2 σ4 fp2 ∧ Stp H1 fp1 H4 fp2 ∧ tSc c fp2 (forLoop (forF cf t bd) (forget fg) (xs.drop (i + 1)) ρ2) D H4 := fun ρ4 σ4 H4 fp4 a3 r4 s4 => by
          have s24 := (s3.trans s4).trans (Stp.drop (H := H4) (fp := fp4) fg)
          exact ⟨forget fg ρ4, fpDrop fp4 fg, r4.forget fg, a2.trans s24, a3.step s24⟩
        cases er : evSs cf bd ρ3 with
        | st => rw [er] at a3; exact a3.elim
        | ex n f ρ4 =>
          rw [er] at a3
          exact fun cls dd σ4 H4 fp4 r4 f4 s4 => a3 cls dd σ4 H4 fp4 r4 f4 (s3.trans s4)
        | ok fl ρ4 =>
          rw [er] at a3
          cases fl with
          | nx => exact fun σ4 H4 fp4 r4 s4 => nxt ρ4 σ4 H4 fp4 a3 r4 s4
          | cnt => exact fun σ4 H4 fp4 r4 s4 => nxt ρ4 σ4 H4 fp4 a3 r4 s4
          | brk => exact fun σ4 H4 fp4 r4 s4 => (show ∀ σ' H' fp', Rep c.K c.σb H' (forget fg ρ4) σ' fp' → Stp H2 fp2 H' fp' → D.nx σ' H' from a3) σ4 H4 _ (r4.forget fg) ((s3.trans s4).trans (Stp.drop fg))
          | rt v => exact fun σ4 H4 fp4 r4 s4 v f => (show ∀ σ' H' fp', Rep c.K c.σb H' ρ4 σ' fp' → Stp H2 fp2 H' fp' → ∀ w, Fp H' w _ → D.rt w H' from a3) σ4 H4 fp4 r4 (s3.trans s4) v f
    · intro σ2 H2 ⟨ρ2, fp2, a1, a2, a3⟩
      rw [List.drop_length] at a3
      exact a3 σ2 H2 fp2 a1 Stp.refl
theorem PT.all {α : Type} {X : Cx} {e : Expr} {t : α → TT} (h : ∀ a, PT X e (t a)) : PT X e (fun σ H Q => ∃ a, t a σ H Q) := ⟨fun pins s σ H Q I ⟨a, q⟩ => (h a).run pins s σ H Q I q⟩
theorem ns_whl (k : OkX q cf c X) {n : Nat} {e : E} {bd : Ss} {fg : List Nat} {body : List Stmt} {pos : Pos} (hc : ∀ ρ, PT X a (tB (tE c ρ (ev cf e ρ)))) (hb : ∀ ρ, PSs X body (tS c ρ (evSs cf bd ρ))) :
    PS X (.While a body [] pos) (tS c ρ (evS cf (.whl n e bd fg) ρ)) := by
  refine PS.imp (ps_while k.own (PT.all hc) (PSs.all hb)) fun D σ H h => ?_
  have h : tS c ρ (whlLoop (fun ρ => (ev cf e ρ).bind fun x ρ1 => R.of (asBool x) ρ1) (evSs cf bd) (forget fg) n ρ) D σ H := h
  refine ⟨fun m σ2 H2 => ∃ ρ2, tS c ρ2 (whlLoop (fun ρ => (ev cf e ρ).bind fun x ρ1 => R.of (asBool x) ρ1) (evSs cf bd) (forget fg) m ρ2) D σ2 H2, ⟨n, ρ, h⟩, fun m σ2 H2 ⟨ρ2, h2⟩ => ⟨ρ2, ?_⟩⟩
  cases m with
  | zero => exact h2.stF.elim
  | succ m =>
    rw [whlLoop] at h2
    show tE c ρ2 (ev cf e ρ2) σ2 H2 _
    generalize ev cf e ρ2 = re at h2 ⊢
    cases re with
    | st => exact h2.stF.elim
    | ex n f ρ3 => exact h2.exE
    | ok x ρ3 =>
      cases x with
      | bool t =>
        refine h2.go fun fp v H3 fp3 f e3 r3 h3 => ⟨t, (show Fp H3 v (.bool t) from f).bl_inv, ?_⟩
        cases t with
        | false => simpa using (show tSc c fp3 (.ok .nx (forget fg ρ3)) D H3 from h3) σ2 H3 _ (r3.forget fg) (Stp.drop fg)
        | true =>
          have h3 : tSc c fp3 (match evSs cf bd ρ3 with
            | .ok .nx ρ1 => whlLoop (fun ρ => (ev cf e ρ).bind fun x ρ1 => R.of (asBool x) ρ1) (evSs cf bd) (forget fg) m (forget fg ρ1)
            | .ok .cnt ρ1 => whlLoop (fun ρ => (ev cf e ρ).bind fun x ρ1 => R.of (asBool x) ρ1) (evSs cf bd) (forget fg) m (forget fg ρ1)
            | .ok .brk ρ1 => .ok .nx (forget fg ρ1)
            | .ok (.rt d) ρ1 => .ok (.rt d) ρ1
            | .ex c g ρ1 => .ex c g ρ1
            | .st => .st) D H3 := h3
          rw [if_pos rfl]
          refine ⟨fun σ4 H4 => ∃ ρ2, tS c ρ2 (whlLoop (fun ρ => (ev cf e ρ).bind fun x ρ1 => R.of (asBool x) ρ1) (evSs cf bd) (forget fg) m ρ2) D σ4 H4, fun σ' H' z => ⟨m, by omega, z⟩, ρ3, fp3, r3, ?_⟩
          cases er : evSs cf bd ρ3 with
          | st => rw [er] at h3; exact h3.elim
          | ex n f ρ4 => rw [er] at h3; exact h3
          | ok fl ρ4 =>
            rw [er] at h3
            cases fl with
            | nx => exact fun σ4 H4 fp4 r4 s4 => ⟨forget fg ρ4, fpDrop fp4 fg, r4.forget fg, tSc.step h3 (s4.trans (Stp.drop fg))⟩
            | cnt => exact fun σ4 H4 fp4 r4 s4 => ⟨forget fg ρ4, fpDrop fp4 fg, r4.forget fg, tSc.step h3 (s4.trans (Stp.drop fg))⟩
            | brk => exact fun σ4 H4 fp4 r4 s4 => (show ∀ σ' H' fp', Rep c.K c.σb H' (forget fg ρ4) σ' fp' → Stp H3 fp3 H' fp' → D.nx σ' H' from h3) σ4 H4 _ (r4.forget fg) (s4.trans (Stp.drop fg))
            | rt v => exact h3
      | _ => exact h2.stF.elim
end
end AF

set_option maxHeartbeats 4000000
namespace AF
open PySem PySem.Spec L2
open PyProof.Rows hiding St
/-! ## 29. several stores at once -/
inductive PsOk (H0 : Hp) (fp0 fp' : Nat → List Addr) (H' : Hp) : List (Nat × S) → List V → List (List Addr) → Prop
  | nil : PsOk H0 fp0 fp' H' [] [] []
  | im {i : Nat} {d : PyData} {v : V} {ss : List (Nat × S)} {vs : List V} {ls : List (List Addr)} : Fp H' v d → PsOk H0 fp0 fp' H' ss vs ls → PsOk H0 fp0 fp' H' ((i, .im d) :: ss) (v :: vs) ([] :: ls)
  | mu {i : Nat} {m : M} {v : V} {p : Addr} {ss : List (Nat × S)} {vs : List V} {ls : List (List Addr)} : Ow H' v [p] m → NewAt H0 fp0 fp' p → (∀ l ∈ ls, p ∉ l) → PsOk H0 fp0 fp' H' ss vs ls → PsOk H0 fp0 fp' H' ((i, .mu m) :: ss) (v :: vs) ([p] :: ls)
def vPs : Vp (List (Nat × S)) (List V) := ⟨fun _ H fp fp' H' ss vs => ∃ ls, PsOk H fp fp' H' ss vs ls, by
  intro σ H fp H1 fp1 fp' H' a b s ⟨ls, h⟩
  refine ⟨ls, ?_⟩
  induction h with
  | nil => exact .nil
  | im f _ ih => exact .im f ih
  | mu o n d _ ih => exact .mu o (n.step s) d ih⟩
theorem PsOk.step {H0 H1 : Hp} {fp0 fp1 fp' : Nat → List Addr} {H' : Hp} {ss : List (Nat × S)} {vs : List V} {ls : List (List Addr)} (s1 : Stp H0 fp0 H1 fp1) (h : PsOk H1 fp1 fp' H' ss vs ls) : PsOk H0 fp0 fp' H' ss vs ls := by
  induction h with
  | nil => exact .nil
  | im f _ ih => exact .im f ih
  | mu o n d _ ih => exact .mu o (n.step s1) d ih
theorem PsOk.cells {H0 : Hp} {fp0 fp' : Nat → List Addr} {H' : Hp} {ss : List (Nat × S)} {vs : List V} {ls : List (List Addr)} (h : PsOk H0 fp0 fp' H' ss vs ls) : ∀ l ∈ ls, ∀ p ∈ l, NewAt H0 fp0 fp' p := by
  induction h with
  | nil => intro l hl; cases hl
  | im f _ ih =>
    intro l hl p hp
    rcases List.mem_cons.mp hl with rfl | hl
    · cases hp
    · exact ih l hl p hp
  | mu o n d _ ih =>
    intro l hl p hp
    rcases List.mem_cons.mp hl with rfl | hl
    · obtain rfl := List.mem_singleton.mp hp; exact n
    · exact ih l hl p hp
theorem PsOk.same {H0 : Hp} {fp0 fp' : Nat → List Addr} {H' H'' : Hp} {ss : List (Nat × S)} {vs : List V} {ls : List (List Addr)} (s : Sam H' H'') (h : PsOk H0 fp0 fp' H' ss vs ls) : PsOk H0 fp0 fp' H'' ss vs ls := by
  induction h with
  | nil => exact .nil
  | im f _ ih => exact .im (Fp.mono s.ext _ f) ih
  | mu o n d _ ih => exact .mu (o.mono s.ext fun a _ u hu => s a u hu) n d ih
def setV : List (Nat × S) → List V → L2.St → L2.St
  | (i, _) :: ss, v :: vs, σ => setV ss vs (σ.set i (some v))
  | _, _, σ => σ
theorem set_all {K : PySem.W.Frag} {σb : L2.St} {H0 : Hp} {fp0 fp' : Nat → List Addr} {H' : Hp} : ∀ {ss : List (Nat × S)} {vs : List V} {ls : List (List Addr)} {ρ ρ' : En} {σ : L2.St} {fp1 : Nat → List Addr}, PsOk H0 fp0 fp' H' ss vs ls → setAll ss ρ = some ρ' → Rep K σb H' ρ σ fp1 →
    (∀ l ∈ ls, ∀ p ∈ l, ∀ j, p ∉ fp1 j) → ∃ fp2, Rep K σb H' ρ' (setV ss vs σ) fp2 ∧ ∀ j p, p ∈ fp2 j → (∃ k, p ∈ fp1 k) ∨ ∃ l ∈ ls, p ∈ l := by
  intro ss vs ls ρ ρ' σ fp1 h
  induction h generalizing ρ ρ' σ fp1 with
  | nil => intro e r _; cases e; exact ⟨fp1, r, fun j p hp => .inl ⟨j, hp⟩⟩
  | @im i d v ss vs ls f _ ih =>
    intro e r dis
    obtain ⟨ρ1, e1, e2⟩ := Option.bind_eq_some_iff.mp (show (setS ρ i (.im d)).bind (setAll ss) = some ρ' from e)
    obtain ⟨rfl, hi⟩ := setS_inv e1
    have sub : ∀ j p, p ∈ fpSet fp1 i [] j → p ∈ fp1 j := fun j p hp => by
      by_cases z : j = i
      · rw [z, fpSet_same] at hp; cases hp
      · rw [fpSet_ne z] at hp; exact hp
    obtain ⟨fp2, r2, z⟩ := ih e2 (r.setIm hi f) fun l hl p hp j hj => dis l (List.mem_cons_of_mem _ hl) p hp j (sub j p hj)
    refine ⟨fp2, r2, fun j p hp => ?_⟩
    rcases z j p hp with ⟨k, hk⟩ | ⟨l, hl, hk⟩
    · exact .inl ⟨k, sub k p hk⟩
    · exact .inr ⟨l, List.mem_cons_of_mem _ hl, hk⟩
  | @mu i m v p0 ss vs ls o n d _ ih =>
    intro e r dis
    obtain ⟨ρ1, e1, e2⟩ := Option.bind_eq_some_iff.mp (show (setS ρ i (.mu m)).bind (setAll ss) = some ρ' from e)
    obtain ⟨rfl, hi⟩ := setS_inv e1
    have sub : ∀ j p, p ∈ fpSet fp1 i [p0] j → p ∈ fp1 j ∨ p = p0 := fun j p hp => by
      by_cases z : j = i
      · rw [z, fpSet_same] at hp; exact .inr (List.mem_singleton.mp hp)
      · rw [fpSet_ne z] at hp; exact .inl hp
    have r1 := r.set hi (s := .mu m) (l := [p0]) ⟨v, rfl, o⟩ fun a ha j _ => dis _ List.mem_cons_self a ha j
    obtain ⟨fp2, r2, z⟩ := ih e2 r1 fun l hl p hp j hj => by
      rcases sub j p hj with y | y
      · exact dis l (List.mem_cons_of_mem _ hl) p hp j y
      · subst y; exact d l hl hp
    refine ⟨fp2, r2, fun j p hp => ?_⟩
    rcases z j p hp with ⟨k, hk⟩ | ⟨l, hl, hk⟩
    · rcases sub k p hk with y | y
      · exact .inl ⟨k, y⟩
      · exact .inr ⟨_, List.mem_cons_self, List.mem_singleton.mpr y⟩
    · exact .inr ⟨l, List.mem_cons_of_mem _ hl, hk⟩
section
variable {q : Sx} {cf : CallF} {c : Ct} {X : Cx} {a b d : Expr} {fa fb fd : En → R PyData} {sts rest : List Stmt} {st : Stmt} {es : List Expr} {fs : En → R (List (Nat × S))}
theorem np_nil (ρ : En) : PA X [] (tR vPs c ρ (.ok [] ρ)) := jA.imp pa_nil fun σ H Q h => tR.finB h fun _ _ => ⟨[], .nil⟩
theorem np_cons {own : Bool} {i : Nat} (hs : nstar a = true) (ha : if own then ∀ ρ, PE X a (tF c ρ (fa ρ)) else ∀ ρ, PE X a (tE c ρ (fa ρ))) (hr : ∀ ρ, PA X es (tR vPs c ρ (fs ρ))) (ρ : En) :
    PA X (a :: es) (tR vPs c ρ ((fa ρ).bind fun x ρ1 => (R.of (if own then (ownD x).map .mu else some (.im x)) ρ1).bind fun s ρ2 => (fs ρ2).bind fun ss ρ3 => .ok ((i, s) :: ss) ρ3)) := by
  have st := star1 hs es X.env
  cases own with
  | false =>
    have ha : PE X a (tE c ρ (fa ρ)) := ha ρ
    generalize fa ρ = ra at ha ⊢
    cases ra with
    | st => exact jA.imp jA.no fun σ H Q h => h.stF
    | ex n f ρ1 => exact jA.imp (pa_cons ha jA.no st) fun σ H Q h => tR.ex h
    | ok x ρ1 =>
      refine jA.imp (pa_cons ha (hr ρ1) st) fun σ H Q h => tR.go h fun fp v H1 fp1 fv _ h1 => ?_
      have h1 : tR vPs c ρ1 ((fs ρ1).bind fun ss ρ3 => .ok ((i, .im x) :: ss) ρ3) σ H1 Q := h1
      generalize fs ρ1 = rb at h1 ⊢
      cases rb with
      | st => exact h1.stF.elim
      | ex n f ρ2 => exact tR.ex h1
      | ok y ρ2 =>
        obtain ⟨fp1, r1, h1⟩ := h1
        refine ⟨fp1, r1, fun ws H2 fp2 r2 ⟨ls, fw⟩ s2 => h1 _ H2 fp2 r2 ⟨_, .im (Fp.mono s2.ext _ fv) fw⟩ s2⟩
  | true =>
    have ha : PE X a (tF c ρ (fa ρ)) := ha ρ
    generalize fa ρ = ra at ha ⊢
    cases ra with
    | st => exact jA.imp jA.no fun σ H Q h => h.stF
    | ex n f ρ1 => exact jA.imp (pa_cons ha jA.no st) fun σ H Q h => tR.ex h
    | ok x ρ1 =>
      refine jA.imp (pa_cons ha (hr ρ1) st) fun σ H Q h => ?_
      obtain ⟨fp, r, h⟩ := h
      refine ⟨fp, r, fun v H1 fp1 r1 fv s1 => ?_⟩
      have h : tRc vPs c fp ((R.of ((ownD x).map S.mu) ρ1).bind fun s ρ2 => (fs ρ2).bind fun ss ρ3 => .ok ((i, s) :: ss) ρ3) σ H Q := h
      cases eo : ownD x with
      | none => rw [eo] at h; exact h.elim
      | some m =>
        rw [eo] at h
        have h : tRc vPs c fp ((fs ρ1).bind fun ss ρ3 => .ok ((i, .mu m) :: ss) ρ3) σ H Q := h
        have go : ∃ p, NewAt H fp fp1 p ∧ Ow H1 v [p] m := by
          cases x with
          | list ds => cases eo; obtain ⟨p, vs, rfl, nw, hp, f⟩ := fv; exact ⟨p, nw, p, vs, rfl, rfl, hp, f⟩
          | dict ds => cases eo; obtain ⟨p, vs, rfl, nw, hp, f⟩ := fv; exact ⟨p, nw, p, vs, rfl, rfl, hp, f⟩
          | _ => cases eo
        obtain ⟨p, nw, ow⟩ := go
        obtain ⟨u, hp, _⟩ := ow.cell p (by simp)
        generalize fs ρ1 = rb at h ⊢
        cases rb with
        | st => exact h.elim
        | ex n f ρ2 => exact ⟨fp1, r1, fun cls dd H' fp' a b t => h cls dd H' fp' a b (s1.trans t)⟩
        | ok y ρ2 =>
          refine ⟨fp1, r1, fun ws H2 fp2 r2 fw s2 => ?_⟩
          obtain ⟨ls, fw⟩ := fw
          refine h _ H2 fp2 r2 ⟨[p] :: ls, PsOk.mu (ow.mono s2.ext fun b hb w hw => ?_) ⟨nw.1, fun j hj => ?_⟩ (fun l hl hpl => ?_) (fw.step s1)⟩ (s1.trans s2)
          · obtain rfl := List.mem_singleton.mp hb
            exact s2.keep b w hw nw.2
          · rcases s2.new j p hj with ⟨k, hk⟩ | z
            · exact nw.2 k hk
            · rw [hp] at z; cases z
          · rcases (fw.cells l hl p hpl).1 with ⟨k, hk⟩ | z
            · exact nw.2 k hk
            · rw [hp] at z; cases z
def parR (r : R (List (Nat × S))) : R Fl := r.bind fun ss ρ1 => (R.of (setAll ss ρ1) ρ1).bind fun ρ3 _ => .ok .nx ρ3
theorem par_fin {ss : List (Nat × S)} {ρ1 : En} {σ : L2.St} {D : Ends} {vs : List V} {H H1 : Hp} {fp fp1 : Nat → List Addr} (h : tSc c fp ((R.of (setAll ss ρ1) ρ1).bind fun ρ3 _ => .ok .nx ρ3) D H) (f : ∃ ls, PsOk H fp fp1 H1 ss vs ls) (r : Rep c.K c.σb H1 ρ1 σ fp1) (s : Stp H fp H1 fp1) :
    D.nx (setV ss vs σ) H1 := by
  obtain ⟨ls, f⟩ := f
  cases e : setAll ss ρ1 with
  | none => rw [e] at h; exact h.elim
  | some ρ3 =>
    rw [e] at h
    obtain ⟨fp2, r2, z⟩ := set_all f e r fun l hl p hp => (f.cells l hl p hp).2
    refine h _ H1 fp2 r2 ⟨s.ext, s.keep, fun j p hp => ?_⟩
    rcases z j p hp with ⟨k, hk⟩ | ⟨l, hl, hk⟩
    · exact s.new k p hk
    · exact (f.cells l hl p hk).1
theorem par_read {r : R (List (Nat × S))} {ρ : En} {D : Ends} {σ : L2.St} {H : Hp} (h : tS c ρ (parR r) D σ H) : tR vPs c ρ r σ H (fun vs H1 => ∃ ss, (∃ ρ1, r = .ok ss ρ1) ∧ vs.length = ss.length ∧ ∀ H2, Sam H1 H2 → D.nx (setV ss vs σ) H2) := by
  cases r with
  | st => exact h.stF.elim
  | ex n f ρ1 => exact h.exE
  | ok ss ρ1 =>
    obtain ⟨fp, rp, h⟩ := h
    refine ⟨fp, rp, fun vs H1 fp1 r1 f s1 => ⟨ss, ⟨ρ1, rfl⟩, ?_, fun H2 sm => ?_⟩⟩
    · obtain ⟨ls, f⟩ := f
      clear h
      induction f with
      | nil => rfl
      | im _ _ ih => simp [ih]
      | mu _ _ _ _ ih => simp [ih]
    · obtain ⟨ls, f⟩ := f
      exact par_fin h ⟨ls, f.same sm⟩ (r1.same sm) (s1.trans (Stp.same sm))
def psIx : Ps → List Nat
  | .nil => []
  | .cons _ i _ ps => i :: psIx ps
theorem evPs_ix : ∀ {ps : Ps} {ρ ρ1 : En} {ss : List (Nat × S)}, evPs cf ps ρ = .ok ss ρ1 → ss.map (·.1) = psIx ps
  | .nil, ρ, ρ1, ss, e => by cases e; rfl
  | .cons own i e ps, ρ, ρ1, ss, h => by
    have h : (ev cf e ρ).bind (fun x ρ1 => (R.of (if own then (ownD x).map .mu else some (.im x)) ρ1).bind fun s ρ2 => (evPs cf ps ρ2).bind fun ss ρ3 => .ok ((i, s) :: ss) ρ3) = .ok ss ρ1 := h
    cases e1 : ev cf e ρ with
    | st => rw [e1] at h; cases h
    | ex _ _ _ => rw [e1] at h; cases h
    | ok x ρ2 =>
      rw [e1, R.bind_ok] at h
      cases e2 : (if own then (ownD x).map S.mu else some (.im x)) with
      | none => rw [e2] at h; cases h
      | some s =>
        rw [e2, R.of_some, R.bind_ok] at h
        cases e3 : evPs cf ps ρ2 with
        | st => rw [e3] at h; cases h
        | ex _ _ _ => rw [e3] at h; cases h
        | ok ss' ρ3 =>
          rw [e3] at h
          cases h
          rw [List.map_cons, evPs_ix e3]
          rfl
end
end AF

set_option maxHeartbeats 4000000
namespace AF
open PySem PySem.Spec L2
open PyProof.Rows hiding St
def setN : List Nat → List V → L2.St → L2.St
  | i :: is, v :: vs, σ => setN is vs (σ.set i (some v))
  | _, _, σ => σ
theorem setV_eq : ∀ (ss : List (Nat × S)) (vs : List V) (σ : L2.St), setV ss vs σ = setN (ss.map (·.1)) vs σ
  | [], vs, σ => rfl
  | (i, s) :: ss, [], σ => rfl
  | (i, s) :: ss, v :: vs, σ => setV_eq ss vs _
def gV (is : List Nat) : TGs := fun vs σ H Q => vs.length = is.length ∧ Q (setN is vs σ) H
def chkNs (q : Sx) : List Nat → List Expr → Bool
  | [], [] => true
  | i :: is, .Name x _ :: es => stoOk q i x && chkNs q is es
  | _, _ => false
/-- the names that may swap -/
def locNames (q : Sx) (ts : List Expr) (line : Nat) : List Str := ts.filterMap fun
  | .Name id pos => if isLoc q.sc id && pos.line == line then some id else none
  | _ => none
def line0 (ts : List Expr) : Nat := (ts.head?.map fun x => (Expr.pos x).line).getD 0
def swpB (q : Sx) (ts vs : List Expr) : Option Bool :=
  if (!(ts.length == 2 || ts.length == 3) || vs.length != ts.length) = true then some false
  else if ((locNames q ts (line0 ts)).length != ts.length || (locNames q ts (line0 ts)).eraseDups.length != (locNames q ts (line0 ts)).length) = true then some false
  else if vs.all (foldedForSure 8) = true then some false
  else if vs.all (constantsAlone 8) = true then none
  else some true
section
variable {q : Sx} {cf : CallF} {c : Ct} {X : Cx} {a b d : Expr} {fa fb fd : En → R PyData} {sts rest : List Stmt} {st : Stmt} {es : List Expr} {fs : En → R (List (Nat × S))} {ρ : En}
theorem isLoc_eq (sc : PySem.Scope) (x : Str) : (List.lookup x sc.names == some NameKind.local) = isLoc sc x := by
  unfold isLoc
  cases List.lookup x sc.names with
  | none => rfl
  | some kd => cases kd <;> rfl
theorem swp_eq (k : OkX q cf c X) (hf : isFun q = true) {ts vs : List Expr} {n n2 : Nat} {p p2 : Pos} (hs : vs.all nstar = true) :
    (swpB q ts vs = some false → swappedStores [.Tuple ts n p] (.Tuple vs n2 p2) X.env = pure none) ∧ (swpB q ts vs = some true → swappedStores [.Tuple ts n p] (.Tuple vs n2 p2) X.env = pure (some (locNames q ts (line0 ts)))) := by
  have hk : (X.env.blockKind != ScopeKind.function) = false := by
    unfold Env.blockKind
    rw [k.sc, isFun_ok hf]
    rfl
  have st : (vs.any fun x => match x with
    | Expr.Starred value pos => true
    | x => false) = false := by
    rw [List.any_eq_false]
    intro x hx
    have := List.all_eq_true.mp hs x hx
    cases x <;> first | (simp; done) | cases this
  have nm : (List.filterMap (fun x => match x with
    | Expr.Name id pos => if (Env.kindOf X.env id == some NameKind.local && pos.line == line0 ts) = true then some id else none
    | x => none) ts) = locNames q ts (line0 ts) := by
    unfold locNames
    congr 1
    funext x
    cases x with
    | Name id pos =>
      have e : (Env.kindOf X.env id == some NameKind.local) = isLoc q.sc id := by
        unfold Env.kindOf
        rw [k.sc]
        exact isLoc_eq q.sc id
      show (if (Env.kindOf X.env id == some NameKind.local && pos.line == line0 ts) = true then some id else none) = _
      rw [e]
    | _ => rfl
  have main : swappedStores [.Tuple ts n p] (.Tuple vs n2 p2) X.env = if (!(ts.length == 2 || ts.length == 3) || vs.length != ts.length) = true then pure none else
      if ((locNames q ts (line0 ts)).length != ts.length || (locNames q ts (line0 ts)).eraseDups.length != (locNames q ts (line0 ts)).length) = true then pure none else
      if vs.all (foldedForSure 8) = true then pure none else
      if vs.all (constantsAlone 8) = true then (do
          let __r : PUnit ← unsupported "assign.tuple-of-constant-expressions:order-of-the-stores"
          pure (some (locNames q ts (line0 ts)))) else pure (some (locNames q ts (line0 ts))) := by
    unfold swappedStores
    rw [← nm]
    simp only [hk, Bool.or_false]
    split
    · rfl
    · refine Eq.trans (if_neg ?_) rfl
      intro h
      have h2 := st.symm.trans h
      cases h2
  rw [main]
  unfold swpB
  constructor
  · intro h
    split
    · rfl
    · rename_i h1
      rw [if_neg h1] at h
      split
      · rfl
      · rename_i h2
        rw [if_neg h2] at h
        split
        · rfl
        · rename_i h3
          rw [if_neg h3] at h
          split at h <;> cases h
  · intro h
    split
    · rename_i h1; rw [if_pos h1] at h; cases h
    · rename_i h1
      rw [if_neg h1] at h
      split
      · rename_i h2; rw [if_pos h2] at h; cases h
      · rename_i h2
        rw [if_neg h2] at h
        split
        · rename_i h3; rw [if_pos h3] at h; cases h
        · rename_i h3
          rw [if_neg h3] at h
          split
          · rename_i h4; rw [if_pos h4] at h; cases h
          · rfl
theorem pg_names (k : OkX q cf c X) : ∀ (is : List Nat) (es : List Expr), chkNs q is es = true → PGs X es (gV is) ∧ es.all tgOk = true ∧ es.length = is.length
  | [], [], _ => by
    refine ⟨PGs.imp pgs_nil fun vs σ H Q h => ?_, rfl, rfl⟩
    obtain ⟨h1, h2⟩ := h
    cases vs with
    | nil => exact ⟨rfl, h2⟩
    | cons v vs => simp at h1
  | i :: is, e :: es, h => by
    unfold chkNs at h
    split at h
    · rename_i z1 z2; cases z1
    · rename_i z1 z2
      cases z1; cases z2
      rw [Bool.and_eq_true] at h
      obtain ⟨s1, s2, s3⟩ := k.sto h.1
      obtain ⟨a1, a2, a3⟩ := pg_names k is es h.2
      refine ⟨PGs.imp (pgs_cons (pg_name k.nd s1 s2 s3) a1 (by rw [assign1 (by rfl)]; rfl)) fun vs σ H Q h => ?_, by simpa [tgOk] using a2, by simp [a3]⟩
      obtain ⟨h1, h2⟩ := h
      cases vs with
      | nil => cases h1
      | cons v vs => exact ⟨v, vs, rfl, by simpa using h1, h2⟩
    · cases h
  | [], _ :: _, h => by cases h
  | _ :: _, [], h => by cases h
theorem ns_parG (k : OkX q cf c X) {ps : Ps} {ts vs : List Expr} {n n2 : Nat} {p p2 pos : Pos} (hf : isFun q = true) (hs : vs.all nstar = true) (hw : swpB q ts vs = some false) (hn : chkNs q (psIx ps) ts = true) (hl : ts.length ≤ lim) (ha : ∀ ρ, PA X vs (tR vPs c ρ (evPs cf ps ρ))) :
    PS X (.Assign [.Tuple ts n p] (.Tuple vs n2 p2) pos) (tS c ρ (parR (evPs cf ps ρ))) := by
  obtain ⟨a1, a2, a3⟩ := pg_names k _ _ hn
  obtain ⟨l1, l2⟩ := assign_len X.env ts a2
  refine PS.imp (ps_asg (pe_tup (ha ρ)) (pg_tup k.calm a1 l1 l2) (sw_tup _ _ _ _ _) ((swp_eq k hf hs).1 hw) rfl) fun D σ H h => ?_
  have z := par_read h
  obtain ⟨fp, r, z⟩ := z
  refine ⟨fp, r, ?_⟩
  cases e : evPs cf ps ρ with
  | st => rw [e] at z; exact z
  | ex m f ρ1 => rw [e] at z; exact z
  | ok ss ρ1 =>
    rw [e] at z
    intro xs H1 fp1 r1 f s1
    obtain ⟨ss', ⟨ρ1', e'⟩, hlen, z⟩ := z xs H1 fp1 r1 f s1
    cases e'
    have hix := evPs_ix e
    have hxs : xs.length = ts.length := by rw [hlen, a3, ← hix, List.length_map]
    refine ⟨by rw [hxs]; exact Nat.le_trans hl lim_line, fun pp hp => ⟨pp, xs, rfl, SqT.of upd_same, hxs, by rw [← hix, List.length_map]; exact hlen, ?_⟩⟩
    have := z (upd H1 pp (.tup xs)) (Sam.new hp)
    rw [setV_eq, hix] at this
    exact this
theorem ns_par2 (k : OkX q cf c X) {ps : Ps} {x y : Str} {px py : Pos} {vs : List Expr} {n n2 : Nat} {p p2 pos : Pos} {i j : Nat} (hix : psIx ps = [i, j]) (hv : vs.length = 2) (hij : i ≠ j) (hf : isFun q = true) (hs : vs.all nstar = true)
    (hw : swpB q [.Name x px, .Name y py] vs = some true) (hx : stoOk q i x = true) (hy : stoOk q j y = true) (lx : isLoc q.sc x = true) (ly : isLoc q.sc y = true) (hl : locNames q [.Name x px, .Name y py] (line0 [.Name x px, .Name y py]) = [x, y]) (ha : ∀ ρ, PA X vs (tR vPs c ρ (evPs cf ps ρ))) :
    PS X (.Assign [.Tuple [.Name x px, .Name y py] n p] (.Tuple vs n2 p2) pos) (tS c ρ (parR (evPs cf ps ρ))) := by
  obtain ⟨x1, _, _⟩ := k.sto hx
  obtain ⟨y1, _, _⟩ := k.sto hy
  match vs, hv with
  | [v, w], _ =>
    have sw := (swp_eq k hf hs (n := n) (n2 := n2) (p := p) (p2 := p2)).2 hw
    rw [hl] at sw
    refine PS.imp (ps_par (pos := pos) k.calm k.nd x1 y1 hij (by rw [k.sc]; exact isLoc_ok lx) (by rw [k.sc]; exact isLoc_ok ly) (ha ρ) sw (sw_tup _ _ _ _ _)) fun D σ H h => ?_
    obtain ⟨fp, r, z⟩ := par_read h
    refine ⟨fp, r, ?_⟩
    cases e : evPs cf ps ρ with
    | st => rw [e] at z; exact z
    | ex m f ρ1 => rw [e] at z; exact z
    | ok ss ρ1 =>
      rw [e] at z
      intro xs H1 fp1 r1 f s1
      obtain ⟨ss', ⟨ρ1', e'⟩, hlen, z⟩ := z xs H1 fp1 r1 f s1
      cases e'
      have hi2 := evPs_ix e
      rw [hix] at hi2
      have l2 : ss.length = 2 := by rw [← List.length_map (f := (·.1)), hi2]; rfl
      rw [l2] at hlen
      match xs, hlen with
      | [v, w], _ =>
        have := z H1 (Sam.refl H1)
        rw [setV_eq, hi2] at this
        exact ⟨v, w, rfl, this⟩
theorem ns_par3 (k : OkX q cf c X) {ps : Ps} {x y u : Str} {px py pu : Pos} {vs : List Expr} {n n2 : Nat} {p p2 pos : Pos} {i j l : Nat} (hix : psIx ps = [i, j, l]) (hv : vs.length = 3) (hij : i ≠ j) (hil : i ≠ l) (hjl : j ≠ l) (hf : isFun q = true) (hs : vs.all nstar = true)
    (hw : swpB q [.Name x px, .Name y py, .Name u pu] vs = some true) (hx : stoOk q i x = true) (hy : stoOk q j y = true) (hu : stoOk q l u = true) (lx : isLoc q.sc x = true) (ly : isLoc q.sc y = true) (lu : isLoc q.sc u = true)
    (hl : locNames q [.Name x px, .Name y py, .Name u pu] (line0 [.Name x px, .Name y py, .Name u pu]) = [x, y, u]) (ha : ∀ ρ, PA X vs (tR vPs c ρ (evPs cf ps ρ))) :
    PS X (.Assign [.Tuple [.Name x px, .Name y py, .Name u pu] n p] (.Tuple vs n2 p2) pos) (tS c ρ (parR (evPs cf ps ρ))) := by
  obtain ⟨x1, _, _⟩ := k.sto hx
  obtain ⟨y1, _, _⟩ := k.sto hy
  obtain ⟨u1, _, _⟩ := k.sto hu
  match vs, hv with
  | [v, w, t], _ =>
    have sw := (swp_eq k hf hs (n := n) (n2 := n2) (p := p) (p2 := p2)).2 hw
    rw [hl] at sw
    refine PS.imp (ps_par3 (pos := pos) k.calm k.nd x1 y1 u1 hij hil hjl (by rw [k.sc]; exact isLoc_ok lx) (by rw [k.sc]; exact isLoc_ok ly) (by rw [k.sc]; exact isLoc_ok lu) (ha ρ) sw (sw_tup _ _ _ _ _)) fun D σ H h => ?_
    obtain ⟨fp, r, z⟩ := par_read h
    refine ⟨fp, r, ?_⟩
    cases e : evPs cf ps ρ with
    | st => rw [e] at z; exact z
    | ex m f ρ1 => rw [e] at z; exact z
    | ok ss ρ1 =>
      rw [e] at z
      intro xs H1 fp1 r1 f s1
      obtain ⟨ss', ⟨ρ1', e'⟩, hlen, z⟩ := z xs H1 fp1 r1 f s1
      cases e'
      have hi2 := evPs_ix e
      rw [hix] at hi2
      have l2 : ss.length = 3 := by rw [← List.length_map (f := (·.1)), hi2]; rfl
      rw [l2] at hlen
      match xs, hlen with
      | [v, w, t], _ =>
        have := z H1 (Sam.refl H1)
        rw [setV_eq, hi2] at this
        exact ⟨v, w, t, rfl, this⟩
end
end AF

set_option maxHeartbeats 4000000
namespace AF
open PySem PySem.Spec L2
open PyProof.Rows hiding St
section
variable {q : Sx} {cf : CallF} {c : Ct} {X : Cx} {a b d : Expr} {fa fb fd : En → R PyData} {ρ : En}
theorem Ext.write {H : Hp} {p : Addr} {u w : HO} (h : H p = some u) (hu : frzable u = true) : Ext H (upd H p w) :=
  ⟨fun b xs e => by rw [upd_ne (fun z => by subst z; rw [h] at e; cases e; cases hu)]; exact e, fun b o x e => by rw [upd_ne (fun z => by subst z; rw [h] at e; cases e; cases hu)]; exact e⟩
theorem ns_app (k : OkX q cf c X) {i : Nat} {y : Str} {p2 apos cpos pos : Pos} (hv : varOk q i y = true) (hs : nstar a = true) (hl : (apos.endLine == cpos.line) = true) (ha : ∀ ρ, PE X a (tE c ρ (fa ρ))) :
    PS X (.Expr (.Call (.Attribute (.Name y p2) (Str.ofString "append") apos) [a] [] cpos) pos) (tS c ρ (R.gd (getL ρ i) <| (fa ρ).bind fun x ρ1 => (R.of ((getM ρ1 i).bind fun m => match m with
    | .l xs => if xs.length < lim then putM ρ1 i (.l (xs ++ [x])) else none
    | _ => none) ρ1).bind fun ρ2 _ => .ok .nx ρ2)) := by
  cases e : getL ρ i with
  | none => exact PS.imp PS.no fun D σ H h => h.stF
  | some xs0 =>
    refine PS.imp (ps_expr (pe_bm PySem.F.plainAttrs_list PySem.F.slot_list_append PySem.F.type_list_append mt_append (pv_of k hv) (pa1 hs (ha ρ)) rfl (few1 hs cpos X.env) hl (star1 hs [] X.env) rfl) rfl) fun D σ H h => ?_
    have h : tS c ρ ((fa ρ).bind fun x ρ1 => (R.of ((getM ρ1 i).bind fun m => match m with
      | .l xs => if xs.length < lim then putM ρ1 i (.l (xs ++ [x])) else none
      | _ => none) ρ1).bind fun ρ2 _ => .ok .nx ρ2) D σ H := h
    obtain ⟨v, e3, o⟩ := h.choose_spec.1.atM (getL_eq e)
    obtain ⟨p, vs0, rfl, _, ep0, _⟩ := o
    refine ⟨_, e3, .inl ⟨rfl, vs0, SqL.of ep0⟩, ?_⟩
    show tE c ρ (fa ρ) σ H _
    generalize fa ρ = ra at h ⊢
    cases ra with
    | st => exact h.stF.elim
    | ex n f ρ1 => exact h.exE
    | ok x ρ1 =>
      refine h.go fun fp v H1 fp1 fv _ r h1 => ?_
      rw [R.bind_ok] at h1
      cases e1 : getM ρ1 i with
      | none => rw [e1] at h1; exact h1.elim
      | some m =>
        rw [e1] at h1
        cases m with
        | l xs =>
          have h1 : tSc c fp1 ((R.of (if xs.length < lim then putM ρ1 i (.l (xs ++ [x])) else none) ρ1).bind fun ρ2 _ => .ok .nx ρ2) D H1 := h1
          split at h1
          · rename_i hlen
            cases e2 : putM ρ1 i (.l (xs ++ [x])) with
            | none => rw [e2] at h1; exact h1.elim
            | some ρ2 =>
              rw [e2] at h1
              obtain ⟨w, e4, o⟩ := r.atM e1
              rw [e3] at e4
              cases e4
              obtain ⟨p', vs, e5, ec, ep, f⟩ := o
              cases e5
              have ex := Ext.write (w := .lst (vs ++ [v])) ep rfl
              obtain ⟨r2, s2⟩ := r.write (w := .lst (vs ++ [v])) e2 e3 ec ep rfl ⟨p, _, rfl, rfl, upd_same, FpAll.append (FpAll.mono ex _ f) (.cons (Fp.mono ex _ fv) .nil)⟩
              refine ⟨p, vs, v, rfl, rfl, ep, ?_, h1 σ _ _ r2 s2⟩
              rw [f.length]
              exact Nat.lt_of_lt_of_le hlen lim_line
          · exact h1.elim
        | _ => exact h1.elim
theorem ns_ext (k : OkX q cf c X) {i : Nat} {y : Str} {p2 apos cpos pos : Pos} (hv : varOk q i y = true) (hs : nstar a = true) (hl : (apos.endLine == cpos.line) = true) (ha : ∀ ρ, PE X a (tF c ρ (fa ρ))) :
    PS X (.Expr (.Call (.Attribute (.Name y p2) (Str.ofString "extend") apos) [a] [] cpos) pos) (tS c ρ (R.gd (getL ρ i) <| (fa ρ).bind fun x ρ1 => (R.of ((getM ρ1 i).bind fun m => match m, x with
    | .l xs, .list ys => if xs.length + ys.length < lim then putM ρ1 i (.l (xs ++ ys)) else none
    | _, _ => none) ρ1).bind fun ρ2 _ => .ok .nx ρ2)) := by
  cases e : getL ρ i with
  | none => exact PS.imp PS.no fun D σ H h => h.stF
  | some xs0 =>
    refine PS.imp (ps_expr (pe_bm PySem.F.plainAttrs_list PySem.F.slot_list_extend PySem.F.type_list_extend mt_extend (pv_of k hv) (pa1 hs (ha ρ)) rfl (few1 hs cpos X.env) hl (star1 hs [] X.env) rfl) rfl) fun D σ H h => ?_
    have h : tS c ρ ((fa ρ).bind fun x ρ1 => (R.of ((getM ρ1 i).bind fun m => match m, x with
      | .l xs, .list ys => if xs.length + ys.length < lim then putM ρ1 i (.l (xs ++ ys)) else none
      | _, _ => none) ρ1).bind fun ρ2 _ => .ok .nx ρ2) D σ H := h
    obtain ⟨v, e3, o⟩ := h.choose_spec.1.atM (getL_eq e)
    obtain ⟨p, vs0, rfl, _, ep0, _⟩ := o
    refine ⟨_, e3, .inl ⟨rfl, vs0, SqL.of ep0⟩, ?_⟩
    show tF c ρ (fa ρ) σ H _
    generalize fa ρ = ra at h ⊢
    cases ra with
    | st => exact h.stF.elim
    | ex n f ρ1 => exact h.exE
    | ok x ρ1 =>
      refine h.go (V' := vF) fun fp v H1 fp1 fv _ r h1 => ?_
      rw [R.bind_ok] at h1
      cases e1 : getM ρ1 i with
      | none => rw [e1] at h1; exact h1.elim
      | some m =>
        rw [e1] at h1
        cases m with
        | l xs =>
          cases x with
          | list ys =>
            have h1 : tSc c fp1 ((R.of (if xs.length + ys.length < lim then putM ρ1 i (.l (xs ++ ys)) else none) ρ1).bind fun ρ2 _ => .ok .nx ρ2) D H1 := h1
            split at h1
            · rename_i hlen
              cases e2 : putM ρ1 i (.l (xs ++ ys)) with
              | none => rw [e2] at h1; exact h1.elim
              | some ρ2 =>
                rw [e2] at h1
                obtain ⟨b, ws, rfl, nw, eb, fb⟩ := fv
                obtain ⟨w, e4, o⟩ := r.atM e1
                rw [e3] at e4
                cases e4
                obtain ⟨p', vs, e5, ec, ep, f⟩ := o
                cases e5
                have ex := Ext.write (w := .lst (vs ++ ws)) ep rfl
                obtain ⟨r2, s2⟩ := r.write (w := .lst (vs ++ ws)) e2 e3 ec ep rfl ⟨p, _, rfl, rfl, upd_same, FpAll.append (FpAll.mono ex _ f) (FpAll.mono ex _ fb)⟩
                refine ⟨p, b, vs, ws, rfl, rfl, ep, eb, ?_, h1 σ _ _ r2 s2⟩
                rw [f.length, fb.length]
                exact Nat.le_trans (Nat.le_of_lt hlen) lim_line
            · exact h1.elim
          | _ => exact h1.elim
        | _ => exact h1.elim
/-- extend by a list that is never written again -/
def rExtF : V → List V → Hp → VK → Prop := fun x vs H Q => ∃ l b xs zs, x = .ref l ∧ vs = [.ref b] ∧ H l = some (.lst xs) ∧ FzL H b zs ∧ xs.length + zs.length ≤ sizeLine ∧ Q .non (upd H l (.lst (xs ++ zs)))
theorem lstFz {X : Cx} {pins : List (Addr × Obj)} {σ : L2.St} {H : Hp} {s : Shared} {l : Addr} {xs : List V} (I : Inv X pins σ H s) (hH : FzL H l xs) : xs.length ≤ sizeLine ∧ ∃ (its : List Value) (n : Nat), Vals xs its ∧ xs.length = its.length ∧ s.heap.get? l = some { cls := .type "list", data := .seq its.toArray n } := by
  obtain ⟨o, hH⟩ := hH
  obtain ⟨_, z, its, n, r, e⟩ := I.hok l _ hH
  exact ⟨z, its, n, r, r.length, e⟩
theorem mt_extF {X : Cx} : MtM X "list.extend" rExtF := by
  intro pins s σ H x vs v us Q I rx rv h
  obtain ⟨l, b, xs, zs, rfl, rfl, hH, hB, hz, q⟩ := h
  cases rx
  obtain ⟨u, rfl, ru⟩ := rv.one
  cases ru
  obtain ⟨z, its, n, r, hl, e⟩ := I.lstM hH
  obtain ⟨z2, its2, n2, r2, hl2, e2⟩ := lstFz I hB
  have hsz : its.toArray.size + its2.toArray.size ≤ sizeLine := by rw [List.size_toArray, List.size_toArray]; omega
  have hlong : ¬ (!its.toArray.isEmpty && Builtin.List.listTooLong (its.toArray.size + its2.toArray.size)) = true := by
    rw [notLongL hsz, Bool.and_false]
    exact Bool.false_ne_true
  refine call_meets PySem.F.slot_list_extend ⟨_, e, rfl⟩ PySem.F.entry_list_extend (PySem.F.args_list_extend_2 _ _)
    (AutoSeq1.list_extend_list_list_0 l its.toArray n b its2.toArray n2 hlong (by rw [List.size_toArray]; omega) (by omega)) ⟨e, e2, ?_⟩
  refine ⟨.non, _, I.lset (its' := its ++ its2) hH e (by simp) (r.append r2) ?_, rfl, q⟩
  rw [List.length_append]
  omega
theorem ns_ext2 (k : OkX q cf c X) {i : Nat} {y : Str} {p2 apos cpos pos : Pos} (hv : varOk q i y = true) (hs : nstar a = true) (hl : (apos.endLine == cpos.line) = true) (ha : ∀ ρ, PE X a (tE c ρ (fa ρ))) :
    PS X (.Expr (.Call (.Attribute (.Name y p2) (Str.ofString "extend") apos) [a] [] cpos) pos) (tS c ρ (R.gd (getL ρ i) <| (fa ρ).bind fun x ρ1 => (R.of ((getM ρ1 i).bind fun m => match m, x with
    | .l xs, .list ys => if xs.length + ys.length < lim then putM ρ1 i (.l (xs ++ ys)) else none
    | _, _ => none) ρ1).bind fun ρ2 _ => .ok .nx ρ2)) := by
  cases e : getL ρ i with
  | none => exact PS.imp PS.no fun D σ H h => h.stF
  | some xs0 =>
    refine PS.imp (ps_expr (pe_bm PySem.F.plainAttrs_list PySem.F.slot_list_extend PySem.F.type_list_extend mt_extF (pv_of k hv) (pa1 hs (ha ρ)) rfl (few1 hs cpos X.env) hl (star1 hs [] X.env) rfl) rfl) fun D σ H h => ?_
    have h : tS c ρ ((fa ρ).bind fun x ρ1 => (R.of ((getM ρ1 i).bind fun m => match m, x with
      | .l xs, .list ys => if xs.length + ys.length < lim then putM ρ1 i (.l (xs ++ ys)) else none
      | _, _ => none) ρ1).bind fun ρ2 _ => .ok .nx ρ2) D σ H := h
    obtain ⟨v, e3, o⟩ := h.choose_spec.1.atM (getL_eq e)
    obtain ⟨p, vs0, rfl, _, ep0, _⟩ := o
    refine ⟨_, e3, .inl ⟨rfl, vs0, SqL.of ep0⟩, ?_⟩
    show tE c ρ (fa ρ) σ H _
    generalize fa ρ = ra at h ⊢
    cases ra with
    | st => exact h.stF.elim
    | ex n f ρ1 => exact h.exE
    | ok x ρ1 =>
      refine h.go fun fp v H1 fp1 fv _ r h1 => ?_
      rw [R.bind_ok] at h1
      cases e1 : getM ρ1 i with
      | none => rw [e1] at h1; exact h1.elim
      | some m =>
        rw [e1] at h1
        cases m with
        | l xs =>
          cases x with
          | list ys =>
            have h1 : tSc c fp1 ((R.of (if xs.length + ys.length < lim then putM ρ1 i (.l (xs ++ ys)) else none) ρ1).bind fun ρ2 _ => .ok .nx ρ2) D H1 := h1
            split at h1
            · rename_i hlen
              cases e2 : putM ρ1 i (.l (xs ++ ys)) with
              | none => rw [e2] at h1; exact h1.elim
              | some ρ2 =>
                rw [e2] at h1
                have fv : Fp H1 v (.list ys) := fv
                cases fv with
                | @lst b ws _ eb fb =>
                obtain ⟨w, e4, o⟩ := r.atM e1
                rw [e3] at e4
                cases e4
                obtain ⟨p', vs, e5, ec, ep, f⟩ := o
                cases e5
                have ex := Ext.write (w := .lst (vs ++ ws)) ep rfl
                obtain ⟨r2, s2⟩ := r.write (w := .lst (vs ++ ws)) e2 e3 ec ep rfl ⟨p, _, rfl, rfl, upd_same, FpAll.append (FpAll.mono ex _ f) (FpAll.mono ex _ fb)⟩
                refine ⟨p, b, vs, ws, rfl, rfl, ep, eb, ?_, h1 σ _ _ r2 s2⟩
                rw [f.length, fb.length]
                exact Nat.le_trans (Nat.le_of_lt hlen) lim_line
            · exact h1.elim
          | _ => exact h1.elim
        | _ => exact h1.elim
theorem sub_assign {o i : Expr} (h : nsl i = true) (pos : Pos) (env : PySem.Env) : ∀ v : Value, assign (.Subscript o i pos) env v = (do
    let ov ← holding [v] (eval o env)
    let iv ← holding [v, ov] (eval i env)
    standAt pos
    holding [v, ov, iv] (setItem ov iv v)
    release [v, ov, iv] []) := by
  intro v
  cases i <;> first | rfl | cases h
theorem ns_set (k : OkX q cf c X) {i : Nat} {y : Str} {p2 sp pos : Pos} (hv : varOk q i y = true) (hi : nsl b = true) (ha : ∀ ρ, PE X a (tE c ρ (fa ρ))) (hb : ∀ ρ, PE X b (tE c ρ (fb ρ))) :
    PS X (.Assign [.Subscript (.Name y p2) b sp] a pos) (tS c ρ ((fa ρ).bind fun x ρ1 => R.gd (getM ρ1 i) <| (fb ρ1).bind fun k ρ2 => (R.of (setM ρ2 i x k) ρ2).bind fun ρ3 _ => .ok .nx ρ3)) := by
  have ru : ∀ {ta tb : TE} {t : TSet}, PSet X t → PE X a ta → PE X b tb → PS X (.Assign [.Subscript (.Name y p2) b sp] a pos) (tAsg ta (gSub (tVar i) tb t)) := fun hset h1 h2 =>
    ps_asg h1 (pg_sub (pv_of k hv) h2 hset (sub_assign hi sp X.env)) (sw_sub _ _ _) rfl rfl
  have ha := ha ρ
  generalize fa ρ = ra at ha ⊢
  cases ra with
  | st => exact PS.imp PS.no fun D σ H h => h.stF
  | ex n f ρ1 => exact PS.imp (ru set_list ha jE.no) fun D σ H h => h.exE
  | ok x ρ1 =>
    rw [R.bind_ok]
    cases e0 : getM ρ1 i with
    | none => exact PS.imp PS.no fun D σ H h => h.stF
    | some m0 =>
      show PS X _ (tS c ρ ((fb ρ1).bind fun k ρ2 => (R.of (setM ρ2 i x k) ρ2).bind fun ρ3 _ => .ok .nx ρ3))
      have hb := hb ρ1
      generalize fb ρ1 = rb at hb ⊢
      have go : ∀ {t : TSet} (hset : PSet X t), (∀ kd ρ2 ρ3, rb = .ok kd ρ2 → setM ρ2 i x kd = some ρ3 → ∀ σ v w u H fp (Q : Hp → Prop), σ[i]? = some (some v) → Rep c.K c.σb H ρ2 σ fp → Fp H w kd → Fp H u x →
          (∀ H' fp', Rep c.K c.σb H' ρ3 σ fp' → Stp H fp H' fp' → Q H') → t v w u H Q) → PS X (.Assign [.Subscript (.Name y p2) b sp] a pos) (tS c ρ (rb.bind fun k ρ2 => (R.of (setM ρ2 i x k) ρ2).bind fun ρ3 _ => .ok .nx ρ3)) := by
        intro t hset fin
        refine PS.imp (ru hset ha hb) fun D σ H ⟨fp, r, h⟩ => ⟨fp, r, fun u H1 fp1 r1 fu s1 => ?_⟩
        obtain ⟨v, e3, o⟩ := r1.atM e0
        refine ⟨v, e3, ?_⟩
        have h := h.step s1
        show tE c ρ1 rb σ H1 _
        cases rb with
        | st => exact h.elim
        | ex n f ρ2 => exact ⟨fp1, r1, fun cls dd H' fp' a b t => h cls dd σ H' fp' a b t⟩
        | ok kd ρ2 =>
          refine ⟨fp1, r1, fun w H2 fp2 r2 fw s2 => ?_⟩
          have h := h.step s2
          rw [R.bind_ok] at h
          cases es : setM ρ2 i x kd with
          | none => rw [es] at h; exact h.elim
          | some ρ3 =>
            rw [es] at h
            exact fin kd ρ2 ρ3 rfl es σ v w u H2 fp2 _ e3 r2 fw (Fp.mono s2.ext _ fu) fun H' fp' r3 s3 => h σ H' fp' r3 s3
      by_cases hd : ∃ kd ρ2 kvs, rb = .ok kd ρ2 ∧ getM ρ2 i = some (.d kvs)
      · obtain ⟨kd0, ρ20, kvs, e1, e2⟩ := hd
        refine go (set_dict (by have := k.hu; omega)) fun kd ρ2 ρ3 er es σ v w u H fp Q hv r fw fu hq => ?_
        rw [e1] at er
        cases er
        unfold setM at es
        rw [e2] at es
        have es : (if isKey kd0 && decide (kvs.length < lim) then putM ρ20 i (.d (putD kvs kd0 x)) else none) = some ρ3 := es
        split at es
        · rename_i hk
          rw [Bool.and_eq_true, decide_eq_true_eq] at hk
          obtain ⟨hk, hlen⟩ := hk
          obtain ⟨key, rfl⟩ := isKey_inv hk
          obtain ⟨bb, rfl, eb⟩ := fw.key_inv
          obtain ⟨w, e4, o⟩ := r.atM e2
          rw [hv] at e4
          cases e4
          obtain ⟨p, ks, rfl, ec, ep, f⟩ := o
          have ex := Ext.write (w := .dT (putK ks key u)) ep rfl
          obtain ⟨r2, s2⟩ := r.write (w := .dT (putK ks key u)) es hv ec ep rfl ⟨p, _, rfl, rfl, upd_same, FpKv.put key (Fp.mono ex _ fu) (FpKv.mono ex _ f)⟩
          refine ⟨p, _, rfl, .inr ⟨ks, key, bb, ep, rfl, eb, ?_, rfl⟩, hq _ _ r2 s2⟩
          rw [f.length]
          exact Nat.lt_of_lt_of_le hlen lim_line
        · cases es
      · refine go set_list fun kd ρ2 ρ3 er es σ v w u H fp Q hv r fw fu hq => ?_
        obtain ⟨m, e1, e2⟩ := Option.bind_eq_some_iff.mp (show (getM ρ2 i).bind _ = some ρ3 from es)
        cases m with
        | l xs =>
          cases kd with
          | int j =>
            obtain ⟨j', e5, e6⟩ := Option.bind_eq_some_iff.mp (show (ixN xs.length j).bind (fun j => putM ρ2 i (.l (xs.set j x))) = some ρ3 from e2)
            obtain rfl := fw.int_inv
            obtain ⟨w, e4, o⟩ := r.atM e1
            rw [hv] at e4
            cases e4
            obtain ⟨p, vs, rfl, ec, ep, f⟩ := o
            have ex := Ext.write (w := .lst (vs.set j' u)) ep rfl
            obtain ⟨r2, s2⟩ := r.write (w := .lst (vs.set j' u)) e6 hv ec ep rfl ⟨p, _, rfl, rfl, upd_same, FpAll.set (Fp.mono ex _ fu) j' (FpAll.mono ex _ f)⟩
            exact ⟨p, vs, j, j', rfl, rfl, ep, by rw [f.length]; exact e5, hq _ _ r2 s2⟩
          | _ => cases e2
        | d kvs => exact absurd ⟨kd, ρ2, kvs, er, e1⟩ hd
        | ll xs => cases e2
        | dl xs => cases e2
theorem nodup_ix {α : Type} : ∀ {as : List α} {m n : Nat} {b : α}, as.Nodup → as[m]? = some b → as[n]? = some b → m = n
  | [], m, n, b, _, h, _ => by simp at h
  | a :: as, 0, 0, b, _, _, _ => rfl
  | a :: as, 0, n + 1, b, nd, h, h2 => by cases h; exact absurd (List.mem_of_getElem? (by simpa using h2)) (List.nodup_cons.mp nd).1
  | a :: as, m + 1, 0, b, nd, h2, h => by cases h; exact absurd (List.mem_of_getElem? (by simpa using h2)) (List.nodup_cons.mp nd).1
  | a :: as, m + 1, n + 1, b, nd, h, h2 => by
    have z := nodup_ix (as := as) (m := m) (n := n) (b := b) (List.nodup_cons.mp nd).2 (by simpa using h) (by simpa using h2)
    omega
theorem getLL_eq {ρ : En} {i : Nat} {xs : List (List PyData)} (h : getLL ρ i = some xs) : getM ρ i = some (.ll xs) := by
  unfold getLL at h
  unfold getM
  split at h
  · rename_i e; rw [e]; cases h; rfl
  · rename_i e; rw [e]; cases h; rfl
  · cases h
theorem ns_asL (k : OkX q cf c X) {i : Nat} {x : Str} {p p2 pos : Pos} (hs : stoOk q i x = true) : PS X (.Assign [.Name x p] (.List [] p2) pos) (tS c ρ ((R.of (setS ρ i (.mu (.ll []))) ρ).bind fun ρ3 _ => .ok .nx ρ3)) := by
  obtain ⟨h1, h2, h3⟩ := k.sto hs
  refine PS.imp (ps_set k.nd h1 h2 (pe_lst pa_nil) rfl h3) fun D σ H ⟨fp, r, h⟩ => ⟨by simp, fun a ha => ?_⟩
  cases e : setS ρ i (.mu (.ll [])) with
  | none => rw [e] at h; exact h.elim
  | some ρ3 =>
    rw [e] at h
    obtain ⟨rfl, hi⟩ := setS_inv e
    have sm : Sam H (upd H a (.lst [])) := Sam.new ha
    have r2 := (r.same sm).set hi (s := .mu (.ll [])) (v := .ref a) (l := [a]) ⟨.ref a, rfl, a, [], rfl, rfl, by simp, upd_same, rfl, fun i b ds h => by simp at h⟩ (fun b hb j _ hj => by
      obtain rfl := List.mem_singleton.mp hb
      obtain ⟨u, hu, _⟩ := r.cell hj
      rw [ha] at hu; cases hu)
    refine h _ _ _ r2 ⟨sm.ext, fun b o hb _ => sm b o hb, fun j b hb => ?_⟩
    by_cases z : j = i
    · rw [z, fpSet_same] at hb; obtain rfl := List.mem_singleton.mp hb; exact .inr ha
    · rw [fpSet_ne z] at hb; exact .inl ⟨j, hb⟩
theorem ns_appL (k : OkX q cf c X) {i : Nat} {y : Str} {p2 apos cpos pos : Pos} (hv : varOk q i y = true) (hs : nstar a = true) (hl : (apos.endLine == cpos.line) = true) (ha : ∀ ρ, PE X a (tF c ρ (fa ρ))) :
    PS X (.Expr (.Call (.Attribute (.Name y p2) (Str.ofString "append") apos) [a] [] cpos) pos) (tS c ρ (R.gd (getLL ρ i) <| (fa ρ).bind fun x ρ1 => (R.of (appLL ρ1 i x) ρ1).bind fun ρ2 _ => .ok .nx ρ2)) := by
  cases e : getLL ρ i with
  | none => exact PS.imp PS.no fun D σ H h => h.stF
  | some xs0 =>
    refine PS.imp (ps_expr (pe_bm PySem.F.plainAttrs_list PySem.F.slot_list_append PySem.F.type_list_append mt_append (pv_of k hv) (pa1 hs (ha ρ)) rfl (few1 hs cpos X.env) hl (star1 hs [] X.env) rfl) rfl) fun D σ H h => ?_
    have h : tS c ρ ((fa ρ).bind fun x ρ1 => (R.of (appLL ρ1 i x) ρ1).bind fun ρ2 _ => .ok .nx ρ2) D σ H := h
    obtain ⟨fp, r0, h⟩ := h
    obtain ⟨v, e3, o⟩ := r0.atM (getLL_eq e)
    obtain ⟨p, as0, rfl, _, _, ep0, _⟩ := o
    refine ⟨_, e3, .inl ⟨rfl, _, SqL.of ep0⟩, ?_⟩
    show tF c ρ (fa ρ) σ H _
    generalize fa ρ = ra at h ⊢
    cases ra with
    | st => exact h.elim
    | ex n f ρ1 => exact ⟨fp, r0, fun cls dd H' fp' a b t => h cls dd σ H' fp' a b t⟩
    | ok x ρ1 =>
      refine ⟨fp, r0, fun v H1 fp1 r fv s1 => ?_⟩
      rw [R.bind_ok] at h
      cases ea : appLL ρ1 i x with
      | none => rw [ea] at h; exact h.elim
      | some ρ2 =>
        rw [ea] at h
        obtain ⟨xss, e1, e2⟩ := Option.bind_eq_some_iff.mp (show (getLL ρ1 i).bind _ = some ρ2 from ea)
        cases x with
        | list xs =>
          have e2 : (if xss.length < lim then putM ρ1 i (.ll (xss ++ [xs])) else none) = some ρ2 := e2
          split at e2
          · rename_i hlen
            obtain ⟨b, ws, rfl, nw, eb, fb⟩ := fv
            obtain ⟨w, e4, o⟩ := r.atM (getLL_eq e1)
            rw [e3] at e4
            cases e4
            obtain ⟨p', as, e5, ec, nd, ep, hlen2, hq⟩ := o
            cases e5
            have bn : b ∉ fp1 i := nw.2 i
            rw [ec] at bn
            have bp : b ≠ p := fun z => bn (by rw [z]; exact List.mem_cons_self)
            have ba : b ∉ as := fun z => bn (List.mem_cons_of_mem _ z)
            have ex := Ext.write (w := .lst (as.map V.ref ++ [.ref b])) ep rfl
            have pi : p ∈ fp1 i := by rw [ec]; exact List.mem_cons_self
            have ow : Ow (upd H1 p (.lst (as.map V.ref ++ [.ref b]))) (.ref p) (p :: (as ++ [b])) (.ll (xss ++ [xs])) := by
              refine ⟨p, as ++ [b], rfl, rfl, ?_, by rw [List.map_append]; exact upd_same, by simp [hlen2], fun j b' ds h1 h2 => ?_⟩
              · rw [← List.cons_append, List.nodup_append]
                refine ⟨nd, by simp, fun x hx y hy z => ?_⟩
                obtain rfl := List.mem_singleton.mp hy
                subst z
                exact bn hx
              · have pne : ∀ b' ∈ as, b' ≠ p := fun b' hb' z => (List.nodup_cons.mp nd).1 (by rw [← z]; exact hb')
                by_cases hj : j < as.length
                · rw [List.getElem?_append_left hj] at h1
                  rw [List.getElem?_append_left (by omega)] at h2
                  obtain ⟨vs, e6, f6⟩ := hq j b' ds h1 h2
                  exact ⟨vs, by rw [upd_ne (pne b' (List.mem_of_getElem? h1))]; exact e6, FpAll.mono ex _ f6⟩
                · rw [List.getElem?_append_right (by omega)] at h1
                  rw [List.getElem?_append_right (by omega)] at h2
                  have hj0 : j - as.length = 0 := by
                    have := (List.getElem?_eq_some_iff.mp h1).1
                    simpa using this
                  rw [hj0] at h1
                  rw [← hlen2, hj0] at h2
                  cases h1; cases h2
                  exact ⟨ws, by rw [upd_ne bp]; exact eb, FpAll.mono ex _ fb⟩
            have ne : ∀ j, j ≠ i → p ∉ fp1 j := fun j hj hp => hj (r.dis j i p hp pi)
            have r2 := r.chg e2 e3 ex (fun j hj c hc u hu => by rw [upd_ne (fun z => ne j hj (by rw [← z]; exact hc))]; exact hu) ow (fun c hc j hj hcj => by
              rcases List.mem_cons.mp hc with rfl | hc
              · exact ne j hj hcj
              · rcases List.mem_append.mp hc with hc | hc
                · exact hj (r.dis j i c hcj (by rw [ec]; exact List.mem_cons_of_mem _ hc))
                · obtain rfl := List.mem_singleton.mp hc; exact nw.2 j hcj)
            refine ⟨p, as.map V.ref, .ref b, rfl, rfl, ep, ?_, h σ _ _ r2 ⟨s1.ext.trans ex, fun c o hc n => ?_, fun j c hc => ?_⟩⟩
            · rw [List.length_map, hlen2]
              exact Nat.lt_of_lt_of_le hlen lim_line
            · refine (upd_ne (fun z => ?_)).trans (s1.keep c o hc n)
              subst z
              rcases s1.new i c pi with ⟨j, hj⟩ | z
              · exact n j hj
              · rw [z] at hc; cases hc
            · by_cases z : j = i
              · rw [z, fpSet_same] at hc
                rcases List.mem_cons.mp hc with rfl | hc
                · exact s1.new i _ pi
                · rcases List.mem_append.mp hc with hc | hc
                  · exact s1.new i c (by rw [ec]; exact List.mem_cons_of_mem _ hc)
                  · obtain rfl := List.mem_singleton.mp hc; exact nw.1
              · rw [fpSet_ne z] at hc; exact s1.new j c hc
          · cases e2
        | _ => cases e2
theorem ns_set2 (k : OkX q cf c X) {i ia ib : Nat} {y xa xb : Str} {p1 p2 p3 sp sp2 pos : Pos} (hv : varOk q i y = true) (hva : varOk q ia xa = true) (hvb : varOk q ib xb = true) (ha : ∀ ρ, PE X a (tE c ρ (fa ρ))) :
    PS X (.Assign [.Subscript (.Subscript (.Name y p1) (.Name xa p2) sp) (.Name xb p3) sp2] a pos) (tS c ρ ((fa ρ).bind fun x ρ1 => (R.of (setLL ρ1 i ia ib x) ρ1).bind fun ρ2 _ => .ok .nx ρ2)) := by
  refine bS1 (ha ρ) (G := fun D σ v H => ∃ w, σ[i]? = some (some w) ∧ ∃ u, σ[ia]? = some (some u) ∧ rIxL X.K w u H fun o H1 => ∃ t, σ[ib]? = some (some t) ∧ rSetL o t v H1 fun H3 => D.nx σ H3)
    (fun ta h1 => ps_asg h1 (pg_sub (pe_ix ix_list (pv_of k hv) (pv_of k hva) (ix_plain rfl)) (pv_of k hvb) set_list (sub_assign rfl sp2 X.env)) (sw_sub _ _ _) rfl rfl) fun x ρ1 _ D σ v H0 fp0 fp H f r h => ?_
  cases es : setLL ρ1 i ia ib x with
  | none => rw [es] at h; exact h.elim
  | some ρ2 =>
    rw [es] at h
    obtain ⟨xss, e1, e2⟩ := Option.bind_eq_some_iff.mp (show (getLL ρ1 i).bind _ = some ρ2 from es)
    split at e2
    · rename_i j l ej el
      obtain ⟨j', e3, e2⟩ := Option.bind_eq_some_iff.mp e2
      obtain ⟨row, e4, e2⟩ := Option.bind_eq_some_iff.mp e2
      obtain ⟨l', e5, e2⟩ := Option.bind_eq_some_iff.mp e2
      obtain ⟨w, e6, o⟩ := r.atM (getLL_eq e1)
      obtain ⟨u, e7, fu⟩ := r.at ej
      obtain ⟨t, e8, ft⟩ := r.at el
      obtain rfl := fu.int_inv
      obtain rfl := ft.int_inv
      obtain ⟨p, as, rfl, ec, nd, ep, hlen, hq⟩ := o
      have hj : j' < as.length := by rw [hlen]; exact (List.getElem?_eq_some_iff.mp e4).1
      obtain ⟨vs, eb, fr⟩ := hq j' as[j'] row (List.getElem?_eq_getElem hj) e4
      have ex := Ext.write (w := .lst (vs.set l' v)) eb rfl
      have bi : as[j'] ∈ fp i := by rw [ec]; exact List.mem_cons_of_mem _ (List.getElem_mem hj)
      have bp : as[j'] ≠ p := fun z => (List.nodup_cons.mp nd).1 (by rw [← z]; exact List.getElem_mem hj)
      have ow : Ow (upd H as[j'] (.lst (vs.set l' v))) (.ref p) (p :: as) (.ll (xss.set j' (row.set l' x))) := by
        refine ⟨p, as, rfl, rfl, nd, by rw [upd_ne (Ne.symm bp)]; exact ep, by simp [hlen], fun m b ds h1 h2 => ?_⟩
        by_cases hm : m = j'
        · subst hm
          rw [List.getElem?_eq_getElem hj] at h1
          cases h1
          rw [List.getElem?_set_self (by omega)] at h2
          cases h2
          exact ⟨_, upd_same, FpAll.set (Fp.mono ex _ f) l' (FpAll.mono ex _ fr)⟩
        · rw [List.getElem?_set_ne (Ne.symm hm)] at h2
          obtain ⟨vs2, e9, f9⟩ := hq m b ds h1 h2
          have : b ≠ as[j'] := fun z => by
            exact hm (nodup_ix (List.nodup_cons.mp nd).2 h1 (by rw [List.getElem?_eq_getElem hj, z]))
          exact ⟨vs2, by rw [upd_ne this]; exact e9, FpAll.mono ex _ f9⟩
      have ne : ∀ m, m ≠ i → as[j'] ∉ fp m := fun m hm hb => hm (r.dis m i _ hb bi)
      have r2 := r.chg e2 e6 ex (fun m hm c hc u hu => by rw [upd_ne (fun z => ne m hm (by rw [← z]; exact hc))]; exact hu) ow (fun c hc m hm hcm => hm (r.dis m i c hcm (by rw [ec]; exact hc)))
      have st : Stp H fp (upd H as[j'] (.lst (vs.set l' v))) (fpSet fp i (p :: as)) := Stp.write (i := i) eb rfl bi fun m => .inl (fpSet_id ec m)
      have ej' : atI (as.map V.ref) j = some (.ref as[j']) := by
        unfold atI
        rw [List.length_map, hlen, e3]
        simp [hj]
      exact ⟨_, e6, _, e7, p, as.map V.ref, j, .ref as[j'], rfl, rfl, SqL.of ep, ej', _, e8, as[j'], vs, l, l', rfl, rfl, eb, by rw [fr.length]; exact e5, h σ _ _ r2 st⟩
    · cases e2
theorem mapM_some {α β : Type} (f : α → Option β) : ∀ (xs : List α) (ys : List β), xs.mapM f = some ys → xs.map f = ys.map some
  | [], ys, h => by
    rw [List.mapM_nil] at h
    cases h
    rfl
  | x :: xs, ys, h => by
    rw [List.mapM_cons] at h
    obtain ⟨y, h1, h⟩ := Option.bind_eq_some_iff.mp h
    obtain ⟨zs, h2, h⟩ := Option.bind_eq_some_iff.mp h
    cases h
    rw [List.map_cons, List.map_cons, h1, mapM_some f xs zs h2]
theorem keyInts_keys {k : List Key} {ns : List Int} (h : keyInts? (keysD k) = some ns) : k = ns.map Sum.inl := by
  unfold keyInts? keysD at h
  simp only at h
  induction k generalizing ns with
  | nil => cases h; rfl
  | cons x k ih =>
    cases x with
    | inl i =>
      obtain ⟨ms, h1, rfl⟩ := Option.map_eq_some_iff.mp (show (intsD (k.map keyD)).map (i :: ·) = some ns from h)
      rw [List.map_cons, ← ih h1]
    | inr x => cases h
theorem hash_int (P : Program) (w : World) (ns : List Int) : tupleKeyHash (mixKind P w) (ns.map Sum.inl) = hashI ns := by
  unfold tupleKeyHash hashI
  rw [List.map_map]
  rfl
theorem hashOk_nd {H : Hp} {P : Program} {w : World} {ms : List (List Key × V)} {more : List (PyData × PyData)} (f : FpKv H ms more) (h : hashOk more = true) : (ms.map fun m => tupleKeyHash (mixKind P w) m.1).Nodup := by
  unfold hashOk at h
  split at h
  · rename_i nss e
    have hn := of_decide_eq_true h
    have e2 := mapM_some _ _ _ e
    have e3 : ms.map (fun m => tupleKeyHash (mixKind P w) m.1) = nss.map hashI := by
      have ek := FpKv.keys f
      clear h e hn
      induction ms generalizing more nss with
      | nil =>
        cases f
        cases nss with
        | nil => rfl
        | cons _ _ => cases e2
      | cons m ms ih =>
        cases f with
        | cons f1 f2 =>
          cases nss with
          | nil => cases e2
          | cons ns nss =>
            rw [List.map_cons, List.map_cons] at e2 ek
            injection e2 with a1 a2
            injection ek with b1 b2
            rw [List.map_cons, List.map_cons, ih f2 nss a2 b2]
            rw [keyInts_keys a1, hash_int]
    rw [e3]
    exact hn
  · cases h
theorem ns_upd (k : OkX q cf c X) {i : Nat} {y : Str} {p2 apos cpos pos : Pos} (hv : varOk q i y = true) (hs : nstar a = true) (hl : (apos.endLine == cpos.line) = true) (ha : ∀ ρ, PE X a (tF c ρ (fa ρ))) :
    PS X (.Expr (.Call (.Attribute (.Name y p2) (Str.ofString "update") apos) [a] [] cpos) pos) (tS c ρ (R.gd (getD ρ i) <| (fa ρ).bind fun x ρ1 => (R.of ((getM ρ1 i).bind fun m => match m, x with
    | .d kvs, .dict more => if kvs.length + more.length < lim ∧ (!kvs.isEmpty || hashOk more) then putM ρ1 i (.d (more.foldl (fun acc p => putD acc p.1 p.2) kvs)) else none
    | _, _ => none) ρ1).bind fun ρ2 _ => .ok .nx ρ2)) := by
  cases e0 : getD ρ i with
  | none => exact PS.imp PS.no fun D σ H h => h.stF
  | some kvs0 =>
    have e := getD_eq e0
    refine PS.imp (ps_expr (pe_bm PySem.F.plainAttrs_dict PySem.F.slot_dict_update PySem.F.type_dict_update (mt_update k.hu) (pv_of k hv) (pa1 hs (ha ρ)) rfl (few1 hs cpos X.env) hl (star1 hs [] X.env) rfl) rfl) fun D σ H h => ?_
    have h : tS c ρ ((fa ρ).bind fun x ρ1 => (R.of ((getM ρ1 i).bind fun m => match m, x with
      | .d kvs, .dict more => if kvs.length + more.length < lim ∧ (!kvs.isEmpty || hashOk more) then putM ρ1 i (.d (more.foldl (fun acc p => putD acc p.1 p.2) kvs)) else none
      | _, _ => none) ρ1).bind fun ρ2 _ => .ok .nx ρ2) D σ H := h
    obtain ⟨v, e3, o⟩ := h.choose_spec.1.atM e
    obtain ⟨p, ks0, rfl, _, ep0, _⟩ := o
    refine ⟨_, e3, (.inr (.inr (.inl ⟨rfl, .inr ⟨_, ep0⟩⟩))), ?_⟩
    show tF c ρ (fa ρ) σ H _
    generalize fa ρ = ra at h ⊢
    cases ra with
    | st => exact h.stF.elim
    | ex n f ρ1 => exact h.exE
    | ok x ρ1 =>
      refine h.go (V' := vF) fun fp v H1 fp1 fv _ r h1 => ?_
      rw [R.bind_ok] at h1
      cases e1 : getM ρ1 i with
      | none => rw [e1] at h1; exact h1.elim
      | some m =>
        rw [e1] at h1
        cases m with
        | d kvs =>
          cases x with
          | dict more =>
            have h1 : tSc c fp1 ((R.of (if kvs.length + more.length < lim ∧ (!kvs.isEmpty || hashOk more) = true then putM ρ1 i (.d (more.foldl (fun acc p => putD acc p.1 p.2) kvs)) else none) ρ1).bind fun ρ2 _ => .ok .nx ρ2) D H1 := h1
            split at h1
            · rename_i hlen
              cases e2 : putM ρ1 i (.d (more.foldl (fun acc p => putD acc p.1 p.2) kvs)) with
              | none => rw [e2] at h1; exact h1.elim
              | some ρ2 =>
                rw [e2] at h1
                obtain ⟨b, ms, rfl, nw, eb, fb⟩ := fv
                obtain ⟨w, e4, o⟩ := r.atM e1
                rw [e3] at e4
                cases e4
                obtain ⟨p', ks, e5, ec, ep, f⟩ := o
                cases e5
                have ne : p ≠ b := fun z => nw.2 i (by rw [ec, z]; exact List.mem_singleton.mpr rfl)
                have ex := Ext.write (w := .dT (ms.foldl (fun acc p => putK acc p.1 p.2) ks)) ep rfl
                obtain ⟨r2, s2⟩ := r.write (w := .dT (ms.foldl (fun acc p => putK acc p.1 p.2) ks)) e2 e3 ec ep rfl ⟨p, _, rfl, rfl, upd_same, FpKv.putAll (FpKv.mono ex _ f) (FpKv.mono ex _ fb)⟩
                refine ⟨p, b, ks, ms, rfl, rfl, ep, eb, ne, ?_, ?_, h1 σ _ _ r2 s2⟩
                · rw [f.length, fb.length]
                  exact Nat.le_of_lt hlen.1
                · have h2 := hlen.2
                  rw [Bool.or_eq_true] at h2
                  rcases h2 with h2 | h2
                  · left
                    intro z
                    subst z
                    cases kvs with
                    | nil => cases h2
                    | cons _ _ => have := f.length; simp at this
                  · exact .inr (hashOk_nd fb h2)
            · exact h1.elim
          | _ => exact h1.elim
        | _ => exact h1.elim
/-- one of several targets -/
def gM (cf : CallF) (c : Ct) (t : MT) : TG := fun v σ H Q => ∃ d ρ fp, Rep c.K c.σb H ρ σ fp ∧ Fp H v d ∧ match setMt cf t d ρ with
  | .ok _ ρ' => ∀ σ' H' fp', Rep c.K c.σb H' ρ' σ' fp' → Stp H fp H' fp' → Q σ' H'
  | _ => False
def gMs (cf : CallF) (c : Ct) (ts : List MT) : TGs := fun vs σ H Q => ∃ ds ρ fp, Rep c.K c.σb H ρ σ fp ∧ FpAll H vs ds ∧ match setMs cf ts ds ρ with
  | .ok _ ρ' => ∀ σ' H' fp', Rep c.K c.σb H' ρ' σ' fp' → Stp H fp H' fp' → Q σ' H'
  | _ => False
def chkMt (q : Sx) : MT → Expr → Bool
  | .n i, .Name x _ => stoOk q i x
  | .s i k, .Subscript (.Name y _) b _ => varOk q i y && nsl b && chkE q k b
  | _, _ => false
def chkMs (q : Sx) : List MT → List Expr → Bool
  | [], [] => true
  | t :: ts, e :: es => chkMt q t e && chkMs q ts es
  | _, _ => false
def tgOk2 : Expr → Bool
  | .Name .. => true
  | .Subscript .. => true
  | _ => false
theorem assign2 {e : Expr} (h : tgOk2 e = true) (es : List Expr) (env : PySem.Env) : assignEach (e :: es) env = (false, assign e env) :: assignEach es env := by
  cases e <;> first | rfl | cases h
theorem assign_len2 (env : PySem.Env) : ∀ es : List Expr, es.all tgOk2 = true → (assignEach es env).length = es.length ∧ (assignEach es env).findIdx? (·.1) = none
  | [], _ => ⟨rfl, rfl⟩
  | e :: es, h => by
    rw [List.all_cons, Bool.and_eq_true] at h
    obtain ⟨a, b⟩ := assign_len2 env es h.2
    rw [assign2 h.1]
    refine ⟨by simp [a], ?_⟩
    rw [List.findIdx?_cons]
    simp [b]
theorem chkMs_tg {q : Sx} : ∀ {ts : List MT} {es : List Expr}, chkMs q ts es = true → es.all tgOk2 = true ∧ es.length = ts.length
  | [], [], _ => ⟨rfl, rfl⟩
  | t :: ts, e :: es, h => by
    rw [chkMs, Bool.and_eq_true] at h
    obtain ⟨h1, h2⟩ := chkMs_tg h.2
    refine ⟨?_, by simp [h2]⟩
    rw [List.all_cons, h1, Bool.and_true]
    have h := h.1
    unfold chkMt at h
    split at h <;> first | rfl | cases h
  | [], _ :: _, h => by cases h
  | _ :: _, [], h => by cases h
theorem calm_ok' {α : Type} {r : R α} {a : α} {ρ : En} (h : r.calm = .ok a ρ) : r = .ok a ρ := by
  cases r with
  | ok _ _ => exact h
  | ex _ _ _ => cases h
  | st => cases h
theorem pg_mt (k : OkX q cf c X) (pe : ∀ e b, chkE q e b = true → ∀ ρ, PE X b (tE c ρ (ev cf e ρ))) (t : MT) (e : Expr) (h : chkMt q t e = true) : PG X e (gM cf c t) := by
  unfold chkMt at h
  split at h
  · rename_i i x p
    obtain ⟨h1, h2, h3⟩ := k.sto h
    refine PG.imp (pg_name k.nd h1 h2 h3) fun v σ H Q ⟨d, ρ, fp, r, f, z⟩ => ?_
    have z : (match ((R.of (setS ρ i (.im d)) ρ).bind fun ρ3 _ => R.ok Fl.nx ρ3) with
        | .ok _ ρ' => ∀ σ' H' fp', Rep c.K c.σb H' ρ' σ' fp' → Stp H fp H' fp' → Q σ' H'
        | _ => False) := z
    cases es : setS ρ i (.im d) with
    | none => rw [es] at z; exact z.elim
    | some ρ3 =>
      rw [es] at z
      obtain ⟨fp', r', s'⟩ := set_im r f es
      exact z _ _ fp' r' s'
  · rename_i i kE y p b sp
    rw [Bool.and_eq_true, Bool.and_eq_true] at h
    obtain ⟨⟨hv, hi⟩, hk⟩ := h
    refine ⟨fun pins s σ H v u Q I r q => ?_⟩
    obtain ⟨d, ρ, fp, r0, f, z⟩ := q
    have z : (match (R.gd (getM ρ i) <| (ev cf kE ρ).calm.bind fun kd ρ2 => (R.of (setM ρ2 i d kd) ρ2).bind fun ρ3 _ => R.ok Fl.nx ρ3) with
        | .ok _ ρ' => ∀ σ' H' fp', Rep c.K c.σb H' ρ' σ' fp' → Stp H fp H' fp' → Q σ' H'
        | _ => False) := z
    cases e0 : getM ρ i with
    | none => rw [e0] at z; exact z.elim
    | some m0 =>
      rw [e0] at z
      have z : (match ((ev cf kE ρ).calm.bind fun kd ρ2 => (R.of (setM ρ2 i d kd) ρ2).bind fun ρ3 _ => R.ok Fl.nx ρ3) with
        | .ok _ ρ' => ∀ σ' H' fp', Rep c.K c.σb H' ρ' σ' fp' → Stp H fp H' fp' → Q σ' H'
        | _ => False) := z
      cases ek : (ev cf kE ρ).calm with
      | st => rw [ek] at z; exact z.elim
      | ex _ _ _ => rw [ek] at z; exact z.elim
      | ok kd ρ2 =>
        rw [ek, R.bind_ok] at z
        have ek := calm_ok' ek
        have pk := pe _ _ hk ρ
        cases es : setM ρ2 i d kd with
        | none => rw [es] at z; exact z.elim
        | some ρ3 =>
          rw [es] at z
          have z : ∀ σ' H' fp', Rep c.K c.σb H' ρ3 σ' fp' → Stp H fp H' fp' → Q σ' H' := z
          obtain ⟨w0, e3, o0⟩ := r0.atM e0
          have rd : ∀ {t : TSet}, (∀ H1 fp1 w, Rep c.K c.σb H1 ρ2 σ fp1 → Fp H1 w kd → Fp H1 v d → (∀ H' fp', Rep c.K c.σb H' ρ3 σ fp' → Stp H1 fp1 H' fp' → Q σ H') → t w0 w v H1 (Q σ)) → gSub (tVar i) (tE c ρ (ev cf kE ρ)) t v σ H Q := by
            intro t ht
            refine ⟨w0, e3, ?_⟩
            rw [ek]
            refine ⟨fp, r0, fun w H1 fp1 r1 fw s1 => ?_⟩
            exact ht H1 fp1 w r1 fw (Fp.mono s1.ext _ f) fun H' fp' r' s' => z σ H' fp' r' (s1.trans s')
          by_cases hd : ∃ kvs, getM ρ2 i = some (.d kvs)
          · obtain ⟨kvs, e2⟩ := hd
            refine (pg_sub (pv_of k hv) pk (set_dict (by have := k.hu; omega)) (sub_assign hi sp X.env)).run pins s σ H v u Q I r (rd fun H1 fp1 w r1 fw fu hq => ?_)
            unfold setM at es
            rw [e2] at es
            have es : (if isKey kd && decide (kvs.length < lim) then putM ρ2 i (.d (putD kvs kd d)) else none) = some ρ3 := es
            split at es
            · rename_i hkk
              rw [Bool.and_eq_true, decide_eq_true_eq] at hkk
              obtain ⟨hkk, hlen⟩ := hkk
              obtain ⟨key, rfl⟩ := isKey_inv hkk
              obtain ⟨bb, rfl, eb⟩ := fw.key_inv
              obtain ⟨w', e4, o⟩ := r1.atM e2
              rw [e3] at e4
              cases e4
              obtain ⟨pp, ks, rfl, ec, ep, f2⟩ := o
              have ex := Ext.write (w := .dT (putK ks key v)) ep rfl
              obtain ⟨r2, s2⟩ := r1.write (w := .dT (putK ks key v)) es e3 ec ep rfl ⟨pp, _, rfl, rfl, upd_same, FpKv.put key (Fp.mono ex _ fu) (FpKv.mono ex _ f2)⟩
              refine ⟨pp, _, rfl, .inr ⟨ks, key, bb, ep, rfl, eb, ?_, rfl⟩, hq _ _ r2 s2⟩
              rw [f2.length]
              exact Nat.lt_of_lt_of_le hlen lim_line
            · cases es
          · refine (pg_sub (pv_of k hv) pk set_list (sub_assign hi sp X.env)).run pins s σ H v u Q I r (rd fun H1 fp1 w r1 fw fu hq => ?_)
            obtain ⟨m, e1, e2⟩ := Option.bind_eq_some_iff.mp (show (getM ρ2 i).bind _ = some ρ3 from es)
            cases m with
            | l xs =>
              cases kd with
              | int j =>
                obtain ⟨j', e5, e6⟩ := Option.bind_eq_some_iff.mp (show (ixN xs.length j).bind (fun j => putM ρ2 i (.l (xs.set j d))) = some ρ3 from e2)
                obtain rfl := fw.int_inv
                obtain ⟨w', e4, o⟩ := r1.atM e1
                rw [e3] at e4
                cases e4
                obtain ⟨pp, vs, rfl, ec, ep, f2⟩ := o
                have ex := Ext.write (w := .lst (vs.set j' v)) ep rfl
                obtain ⟨r2, s2⟩ := r1.write (w := .lst (vs.set j' v)) e6 e3 ec ep rfl ⟨pp, _, rfl, rfl, upd_same, FpAll.set (Fp.mono ex _ fu) j' (FpAll.mono ex _ f2)⟩
                exact ⟨pp, vs, j, j', rfl, rfl, ep, by rw [f2.length]; exact e5, hq _ _ r2 s2⟩
              | _ => cases e2
            | d kvs => exact absurd ⟨kvs, e1⟩ hd
            | ll xs => cases e2
            | dl xs => cases e2
  · cases h
theorem pg_ms (k : OkX q cf c X) (pe : ∀ e b, chkE q e b = true → ∀ ρ, PE X b (tE c ρ (ev cf e ρ))) : ∀ (ts : List MT) (es : List Expr), chkMs q ts es = true → PGs X es (gMs cf c ts)
  | [], [], _ => PGs.imp pgs_nil fun vs σ H Q ⟨ds, ρ, fp, r, f, z⟩ => by
    cases ds with
    | nil => cases f; exact ⟨rfl, z σ H fp r Stp.refl⟩
    | cons d ds => exact z.elim
  | t :: ts, e :: es, h => by
    have tg := (chkMs_tg h).1
    rw [List.all_cons, Bool.and_eq_true] at tg
    rw [chkMs, Bool.and_eq_true] at h
    refine PGs.imp (pgs_cons (pg_mt k pe t e h.1) (pg_ms k pe ts es h.2) (by rw [assign2 tg.1]; rfl)) fun vs σ H Q ⟨ds, ρ, fp, r, f, z⟩ => ?_
    cases ds with
    | nil => exact z.elim
    | cons d ds =>
      cases f with
      | cons f1 f2 =>
        have z : (match (setMt cf t d ρ).bind (fun _ ρ1 => setMs cf ts ds ρ1) with
          | .ok _ ρ' => ∀ σ' H' fp', Rep c.K c.σb H' ρ' σ' fp' → Stp H fp H' fp' → Q σ' H'
          | _ => False) := z
        refine ⟨_, _, rfl, d, ρ, fp, r, f1, ?_⟩
        cases e1 : setMt cf t d ρ with
        | st => rw [e1] at z; exact z
        | ex _ _ _ => rw [e1] at z; exact z
        | ok _ ρ1 =>
          rw [e1, R.bind_ok] at z
          refine fun σ' H' fp' r' s' => ⟨ds, ρ1, fp', r', FpAll.mono s'.ext _ f2, ?_⟩
          cases e2 : setMs cf ts ds ρ1 with
          | st => rw [e2] at z; exact z
          | ex _ _ _ => rw [e2] at z; exact z
          | ok _ ρ2 =>
            rw [e2] at z
            exact fun σ2 H2 fp2 r2 s2 => z σ2 H2 fp2 r2 (s'.trans s2)
  | [], _ :: _, h => by cases h
  | _ :: _, [], h => by cases h
theorem setMt_nx (cf : CallF) (t : MT) (x : PyData) (ρ : En) : (setMt cf t x ρ = .st) ∨ ∃ ρ', setMt cf t x ρ = .ok .nx ρ' := by
  cases t with
  | n i =>
    show ((R.of (setS ρ i (.im x)) ρ).bind (fun ρ3 _ => R.ok Fl.nx ρ3) = .st) ∨ ∃ ρ', ((R.of (setS ρ i (.im x)) ρ).bind (fun ρ3 _ => R.ok Fl.nx ρ3) = .ok .nx ρ')
    cases setS ρ i (.im x) with
    | none => exact .inl rfl
    | some ρ' => exact .inr ⟨ρ', rfl⟩
  | s i k =>
    show ((R.gd (getM ρ i) <| (ev cf k ρ).calm.bind fun kd ρ2 => (R.of (setM ρ2 i x kd) ρ2).bind fun ρ3 _ => R.ok Fl.nx ρ3) = .st) ∨ ∃ ρ', (R.gd (getM ρ i) <| (ev cf k ρ).calm.bind fun kd ρ2 => (R.of (setM ρ2 i x kd) ρ2).bind fun ρ3 _ => R.ok Fl.nx ρ3) = .ok .nx ρ'
    cases getM ρ i with
    | none => exact .inl rfl
    | some m =>
      show ((ev cf k ρ).calm.bind (fun kd ρ2 => (R.of (setM ρ2 i x kd) ρ2).bind fun ρ3 _ => R.ok Fl.nx ρ3) = .st) ∨ ∃ ρ', ((ev cf k ρ).calm.bind (fun kd ρ2 => (R.of (setM ρ2 i x kd) ρ2).bind fun ρ3 _ => R.ok Fl.nx ρ3) = .ok .nx ρ')
      cases ev cf k ρ with
      | st => exact .inl rfl
      | ex _ _ _ => exact .inl rfl
      | ok kd ρ2 =>
        show ((R.of (setM ρ2 i x kd) ρ2).bind _ = R.st) ∨ ∃ ρ', ((R.of (setM ρ2 i x kd) ρ2).bind _ = R.ok Fl.nx ρ')
        cases setM ρ2 i x kd with
        | none => exact .inl rfl
        | some ρ3 => exact .inr ⟨ρ3, rfl⟩
theorem setMs_nx (cf : CallF) : ∀ (ts : List MT) (xs : List PyData) (ρ : En), (setMs cf ts xs ρ = .st) ∨ ∃ ρ', setMs cf ts xs ρ = .ok .nx ρ'
  | [], [], ρ => .inr ⟨ρ, rfl⟩
  | t :: ts, x :: xs, ρ => by
    show ((setMt cf t x ρ).bind _ = R.st) ∨ ∃ ρ', ((setMt cf t x ρ).bind _ = R.ok Fl.nx ρ')
    rcases setMt_nx cf t x ρ with e | ⟨ρ1, e⟩
    · rw [e]; exact .inl rfl
    · rw [e]; exact setMs_nx cf ts xs ρ1
  | [], _ :: _, ρ => .inl rfl
  | _ :: _, [], ρ => .inl rfl
theorem ns_mset (k : OkX q cf c X) (pe : ∀ e b, chkE q e b = true → ∀ ρ, PE X b (tE c ρ (ev cf e ρ))) {ms : List MT} {es : Es} {ts vs : List Expr} {n n2 : Nat} {p p2 pos : Pos} (hf : isFun q = true) (hs : vs.all nstar = true) (hw : swpB q ts vs = some false) (hn : chkMs q ms ts = true) (hl : vs.length ≤ lim) (hl2 : vs.length = ts.length)
    (ha : ∀ ρ, PA X vs (tR vA c ρ (evs cf es ρ))) (hlen : ∀ ρ xs ρ1, evs cf es ρ = .ok xs ρ1 → xs.length = vs.length) :
    PS X (.Assign [.Tuple ts n p] (.Tuple vs n2 p2) pos) (tS c ρ ((evs cf es ρ).bind fun xs ρ1 => setMs cf ms xs ρ1)) := by
  have tg := chkMs_tg hn
  obtain ⟨l1, l2⟩ := assign_len2 X.env ts tg.1
  have ha' := ha ρ
  have ru : ∀ ta, PA X vs ta → PS X (.Assign [.Tuple ts n p] (.Tuple vs n2 p2) pos) _ := fun ta h => ps_asg (pe_tup h) (pg_tup k.calm (pg_ms k pe ms ts hn) l1 l2) (sw_tup _ _ _ _ _) ((swp_eq k hf hs).1 hw) rfl
  generalize er : evs cf es ρ = ra at ha' ⊢
  cases ra with
  | st => exact PS.imp PS.no fun D σ H h => h.stF
  | ex m f ρ1 => exact PS.imp (ru _ ha') fun D σ H h => h.exE
  | ok xs ρ1 =>
    have hxs := hlen ρ xs ρ1 er
    refine PS.imp (ru _ ha') fun D σ H h => h.go (V' := vA) fun fp ws H1 fp1 fv _ r h1 => ?_
    have fv : FpAll H1 ws xs := fv
    have lw : ws.length = ts.length := by rw [fv.length, hxs, hl2]
    refine ⟨by rw [lw, ← hl2]; exact Nat.le_trans hl lim_line, fun pp hp => ⟨pp, ws, rfl, SqT.of upd_same, lw, xs, ρ1, fp1, r.same (Sam.new hp), FpAll.mono (Ext.new hp) _ fv, ?_⟩⟩
    rw [R.bind_ok] at h1
    rcases setMs_nx cf ms xs ρ1 with e2 | ⟨ρ2, e2⟩
    · rw [e2] at h1; exact h1.elim
    · rw [e2] at h1 ⊢
      exact fun σ' H' fp' r' s' => h1 σ' H' fp' r' ((Stp.same (Sam.new hp)).trans s')
def excOk (q : Sx) (x : Str) : Bool := gloOk q x && q.g.excs.any (· == x)
theorem ns_rse (k : OkX q cf c X) {x m : Str} {j : Nat} {p p2 p3 pos : Pos} (h : excOk q x = true) : PS X (.Raise (some (.Call (.Name x p) [.Constant (.str m) j p2] [] p3)) none pos) (tS c ρ (.ex x none ρ)) := by
  unfold excOk at h
  rw [Bool.and_eq_true, List.any_eq_true] at h
  obtain ⟨hg, y, hy, e⟩ := h
  obtain rfl := eq_of_beq e
  obtain ⟨g1, g2⟩ := k.gl hg
  obtain ⟨C, m1, m2, m3, m4, m5⟩ := k.exc _ hy
  refine PS.imp (ps_raise k.calm k.tk (pmk_own PySem.F.excBase_ValueError m2 m1 m3 (raises_own m4 m5) g1 g2)) fun D σ H ⟨fp, r, z⟩ => ?_
  exact z (.ref C) none σ H fp r ⟨C, by rw [← k.mg]; exact m1, rfl, rfl⟩ Stp.refl
end
end AF

set_option maxHeartbeats 4000000
namespace AF
open PySem PySem.Spec L2
open PyProof.Rows hiding St
/-! ## 30. the check of statements -/
def par23 (q : Sx) : List Nat → List Expr → List Expr → Bool
  | [i, j], [.Name x px, .Name y py], vs => decide (i ≠ j) && isLoc q.sc x && isLoc q.sc y && decide (vs.length = 2) && decide (locNames q [.Name x px, .Name y py] (line0 [.Name x px, .Name y py]) = [x, y]) && stoOk q i x && stoOk q j y
  | [i, j, l], [.Name x px, .Name y py, .Name z pz], vs => decide (i ≠ j) && decide (i ≠ l) && decide (j ≠ l) && isLoc q.sc x && isLoc q.sc y && isLoc q.sc z && decide (vs.length = 3) && decide (locNames q [.Name x px, .Name y py, .Name z pz] (line0 [.Name x px, .Name y py, .Name z pz]) = [x, y, z]) && stoOk q i x && stoOk q j y && stoOk q l z
  | _, _, _ => false
def parOk (q : Sx) (is : List Nat) (ts vs : List Expr) : Bool :=
  match swpB q ts vs with
  | some false => true
  | some true => par23 q is ts vs
  | none => false
mutual
def chkS (q : Sx) : AF.St → Stmt → Bool
  | .as own i e, .Assign [.Name x _] v _ => stoOk q i x && (!own || isF e) && (noLc v || isFun q) && chkE q e v
  | .unp t e, .Assign [.Tuple es n p] v _ => notTup v && chkT q t (.Tuple es n p) && chkE q e v
  | .par ps, .Assign [.Tuple ts _ _] (.Tuple vs _ _) _ => isFun q && vs.all nstar && chkNs q (psIx ps) ts && decide (ts.length ≤ lim) && parOk q (psIx ps) ts vs && chkPs q ps vs
  | .app i e, .Expr (.Call (.Attribute (.Name y _) nm p) [a] [] p2) _ => nmEq nm "append" && varOk q i y && nstar a && lineOk p p2 && chkE q e a
  | .ext i e, .Expr (.Call (.Attribute (.Name y _) nm p) [a] [] p2) _ => nmEq nm "extend" && varOk q i y && nstar a && lineOk p p2 && chkE q e a
  | .set i a e, .Assign [.Subscript (.Name y _) b _] v _ => varOk q i y && nsl b && chkE q a b && chkE q e v
  | .ex e, .Expr a _ => noLc a && chkE q e a
  | .ret e, .Return (some a) _ => chkE q e a
  | .brk, .Break _ => true
  | .cnt, .Continue _ => true
  | .ite c a b, .If t x y _ => tst t && chkE q c t && chkSs q a x && chkSs q b y
  | .for_ t it b _, .For tg iter body [] _ => nset iter && chkIt q it tg iter && chkT q t tg && chkSs q b body
  | .whl _ c b _, .While t body [] _ => tst t && chkE q c t && chkSs q b body
  | .rse c txt _, .Raise (some (.Call (.Name x _) [.Constant (.str _) _ _] [] _)) none _ => txt && decide (c = x) && excOk q x
  | .asL i, .Assign [.Name x _] (.List [] _) _ => stoOk q i x
  | .appL i e, .Expr (.Call (.Attribute (.Name y _) nm p) [a] [] p2) _ => nmEq nm "append" && varOk q i y && nstar a && lineOk p p2 && isF e && chkE q e a
  | .upd i e, .Expr (.Call (.Attribute (.Name y _) nm p) [a] [] p2) _ => nmEq nm "update" && varOk q i y && nstar a && lineOk p p2 && isF e && chkE q e a
  | .mset ms es, .Assign [.Tuple ts _ _] (.Tuple vs _ _) _ => isFun q && vs.all nstar && (swpB q ts vs == some false) && chkMs q ms ts && decide (vs.length ≤ lim) && decide (vs.length = ts.length) && chkEs q es vs
  | .any, _ => true
  | .set2 i a b e, .Assign [.Subscript (.Subscript (.Name y _) (.Name xa _) _) (.Name xb _) _] v _ => varOk q i y && varOk q a xa && varOk q b xb && chkE q e v
  | _, _ => false
def chkSs (q : Sx) : Ss → List Stmt → Bool
  | .nil, [] => true
  | .cons (.frz _) ss, sts => chkSs q ss sts
  | .cons (.fgt _) ss, sts => chkSs q ss sts
  | .cons s ss, st :: sts => chkS q s st && chkSs q ss sts
  | _, _ => false
def chkPs (q : Sx) : Ps → List Expr → Bool
  | .nil, [] => true
  | .cons own _ e ps, a :: as => nstar a && (!own || isF e) && chkE q e a && chkPs q ps as
  | _, _ => false
end
def MotS (cf : CallF) (s : AF.St) : Prop := ∀ (q : Sx) (c : Ct) (X : Cx), OkX q cf c X → ∀ st, chkS q s st = true → ∀ ρ, PS X st (tS c ρ (evS cf s ρ))
def MotSs (cf : CallF) (s : Ss) : Prop := ∀ (q : Sx) (c : Ct) (X : Cx), OkX q cf c X → ∀ st, chkSs q s st = true → ∀ ρ, PSs X st (tS c ρ (evSs cf s ρ))
def MotPs (cf : CallF) (s : Ps) : Prop := ∀ (q : Sx) (c : Ct) (X : Cx), OkX q cf c X → ∀ vs, chkPs q s vs = true → ∀ ρ, PA X vs (tR vPs c ρ (evPs cf s ρ))
section
variable {cf : CallF}
theorem own_pe {q : Sx} {c : Ct} {X : Cx} {own : Bool} {e : E} {v : Expr} (h : (!own || isF e) = true) (s : SndE cf c X e v) : if own then ∀ ρ, PE X v (tF c ρ (ev cf e ρ)) else ∀ ρ, PE X v (tE c ρ (ev cf e ρ)) := by
  cases own with
  | true => exact s.pf (by simpa using h)
  | false => exact s.pe
theorem lc_inv {q : Sx} {e : E} {v : Expr} (h : chkE q e v = true) (hn : noLc v = false) : e = .any ∨ ∃ e' t it cs own elt tg iter ifs scope p, e = .lc e' t it cs own ∧ v = .ListComp elt [⟨tg, iter, ifs, 0⟩] scope p := by
  unfold chkE at h
  split at h <;> first | (cases hn; done) | (cases h; done) | exact .inr ⟨_, _, _, _, _, _, _, _, _, _, _, rfl, rfl⟩ | exact .inl rfl
theorem s_as (own : Bool) (i : Nat) (e : E) : MotS cf (.as own i e) := by
  intro q c X k x h
  unfold chkS at h
  split at h <;> first | (cases h; done) | (cases ‹AF.St.as own i e = _›; done) | cases ‹AF.St.as own i e = _›
  rename_i x p v pos
  rw [Bool.and_eq_true, Bool.and_eq_true, Bool.and_eq_true] at h
  obtain ⟨⟨⟨h1, h2⟩, h3⟩, h4⟩ := h
  intro ρ
  show PS X _ (tS c ρ (asR own i (ev cf e ρ)))
  cases hn : noLc v with
  | true => exact ns_as (fa := ev cf e) k h1 hn (own_pe (q := q) h2 ((sndE cf).1 e q c X k _ h4))
  | false =>
    rw [hn] at h3
    rcases lc_inv h4 hn with rfl | ⟨e', t, it, cs, ow, elt, tg, iter, ifs, scope, lp, rfl, rfl⟩
    · exact PS.imp PS.no fun D σ H h => h.stF
    rw [chkE] at h4
    rw [Bool.and_eq_true, Bool.and_eq_true, Bool.and_eq_true, Bool.and_eq_true, Bool.and_eq_true, Bool.and_eq_true, Bool.and_eq_true, Bool.and_eq_true] at h4
    obtain ⟨⟨⟨⟨⟨⟨⟨⟨a1, a2⟩, a3⟩, a4⟩, a5⟩, a6⟩, a7⟩, a8⟩, a9⟩ := h4
    exact ns_asLc k h1 (by simpa using h3) a1 a2 a3 (of_decide_eq_true a4) a5 ((sndE cf).2.1 it q c X k _ _ a6) a7 (fun c X k => ((sndE cf).2.2 cs _ c X k _ a8).ifs (of_decide_eq_true a4) a5) (fun c X k => ((sndE cf).1 e' _ c X k _ a9).pe) ρ
theorem s_unp (t : Tg) (e : E) : MotS cf (.unp t e) := by
  intro q c X k x h
  unfold chkS at h
  split at h <;> first | (cases h; done) | (cases ‹AF.St.unp t e = _›; done) | cases ‹AF.St.unp t e = _›
  rw [Bool.and_eq_true, Bool.and_eq_true] at h
  exact fun ρ => ns_unp k h.1.1 h.1.2 ((sndE cf).1 e q c X k _ h.2).pe
theorem s_par (ps : Ps) (ih : MotPs cf ps) : MotS cf (.par ps) := by
  intro q c X k x h
  unfold chkS at h
  split at h <;> first | (cases h; done) | (cases ‹AF.St.par ps = _›; done) | cases ‹AF.St.par ps = _›
  rename_i ts n p vs n2 p2 pos
  rw [Bool.and_eq_true, Bool.and_eq_true, Bool.and_eq_true, Bool.and_eq_true, Bool.and_eq_true] at h
  obtain ⟨⟨⟨⟨⟨h1, h2⟩, h3⟩, h4⟩, h5⟩, h6⟩ := h
  have ha := ih q c X k _ h6
  intro ρ
  show PS X _ (tS c ρ (parR (evPs cf ps ρ)))
  unfold parOk at h5
  split at h5
  · exact ns_parG k h1 h2 (by assumption) h3 (of_decide_eq_true h4) ha
  · rename_i hsw
    unfold par23 at h5
    split at h5
    · simp only [Bool.and_eq_true, decide_eq_true_eq] at h5
      obtain ⟨⟨⟨⟨⟨⟨b1, b2⟩, b3⟩, b4⟩, b5⟩, b6⟩, b7⟩ := h5
      exact ns_par2 k (by assumption) b4 b1 h1 h2 hsw b6 b7 b2 b3 b5 ha
    · simp only [Bool.and_eq_true, decide_eq_true_eq] at h5
      obtain ⟨⟨⟨⟨⟨⟨⟨⟨⟨⟨b1, b2⟩, b3⟩, b4⟩, b5⟩, b6⟩, b7⟩, b8⟩, b9⟩, b10⟩, b11⟩ := h5
      exact ns_par3 k (by assumption) b7 b1 b2 b3 h1 h2 hsw b9 b10 b11 b4 b5 b6 b8 ha
    · cases h5
  · cases h5
theorem s_app (i : Nat) (e : E) : MotS cf (.app i e) := by
  intro q c X k x h
  unfold chkS at h
  split at h <;> first | (cases h; done) | (cases ‹AF.St.app i e = _›; done) | cases ‹AF.St.app i e = _›
  rw [Bool.and_eq_true, Bool.and_eq_true, Bool.and_eq_true, Bool.and_eq_true] at h
  obtain ⟨⟨⟨⟨h1, h2⟩, h3⟩, h4⟩, h5⟩ := h
  obtain rfl := eq_of_beq h1
  exact fun ρ => ns_app k h2 h3 h4 ((sndE cf).1 e q c X k _ h5).pe
theorem s_ext (i : Nat) (e : E) : MotS cf (.ext i e) := by
  intro q c X k x h
  unfold chkS at h
  split at h <;> first | (cases h; done) | (cases ‹AF.St.ext i e = _›; done) | cases ‹AF.St.ext i e = _›
  rw [Bool.and_eq_true, Bool.and_eq_true, Bool.and_eq_true, Bool.and_eq_true] at h
  obtain ⟨⟨⟨⟨h1, h2⟩, h3⟩, h4⟩, h5⟩ := h
  obtain rfl := eq_of_beq h1
  by_cases hf : isF e = true
  · exact fun ρ => ns_ext k h2 h3 h4 (((sndE cf).1 e q c X k _ h5).pf hf)
  · exact fun ρ => ns_ext2 k h2 h3 h4 ((sndE cf).1 e q c X k _ h5).pe
theorem s_set (i : Nat) (a e : E) : MotS cf (.set i a e) := by
  intro q c X k x h
  unfold chkS at h
  split at h <;> first | (cases h; done) | (cases ‹AF.St.set i a e = _›; done) | cases ‹AF.St.set i a e = _›
  rw [Bool.and_eq_true, Bool.and_eq_true, Bool.and_eq_true] at h
  obtain ⟨⟨⟨h1, h2⟩, h3⟩, h4⟩ := h
  exact fun ρ => ns_set k h1 h2 ((sndE cf).1 e q c X k _ h4).pe ((sndE cf).1 a q c X k _ h3).pe
theorem s_upd (i : Nat) (e : E) : MotS cf (.upd i e) := by
  intro q c X k x h
  unfold chkS at h
  split at h <;> first | (cases h; done) | (cases ‹AF.St.upd i e = _›; done) | cases ‹AF.St.upd i e = _›
  rw [Bool.and_eq_true, Bool.and_eq_true, Bool.and_eq_true, Bool.and_eq_true, Bool.and_eq_true] at h
  obtain ⟨⟨⟨⟨⟨h1, h2⟩, h3⟩, h4⟩, hf⟩, h5⟩ := h
  obtain rfl := eq_of_beq h1
  exact fun ρ => ns_upd k h2 h3 h4 (((sndE cf).1 e q c X k _ h5).pf hf)
theorem s_mset (ms : List MT) (es : Es) : MotS cf (.mset ms es) := by
  intro q c X k x h
  unfold chkS at h
  split at h <;> first | (cases h; done) | (cases ‹AF.St.mset ms es = _›; done) | cases ‹AF.St.mset ms es = _›
  simp only [Bool.and_eq_true, decide_eq_true_eq, beq_iff_eq] at h
  obtain ⟨⟨⟨⟨⟨⟨h1, h2⟩, h3⟩, h4⟩, h5⟩, h6⟩, h7⟩ := h
  have ss := (sndE cf).2.2 es q c X k _ h7
  exact fun ρ => ns_mset k (fun e b h => ((sndE cf).1 e q c X k _ h).pe) h1 h2 h3 h4 h5 h6 (ss.pa h2) ss.len
theorem s_any : MotS cf .any := fun q c X k x h ρ => PS.imp PS.no fun D σ H h => h.stF
theorem s_ex (e : E) : MotS cf (.ex e) := by
  intro q c X k x h
  unfold chkS at h
  split at h <;> first | (cases h; done) | (cases ‹AF.St.ex e = _›; done) | cases ‹AF.St.ex e = _›
  rw [Bool.and_eq_true] at h
  exact fun ρ => ns_ex (fa := ev cf e) h.1 ((sndE cf).1 e q c X k _ h.2).pe
theorem s_ret (e : E) : MotS cf (.ret e) := by
  intro q c X k x h
  unfold chkS at h
  split at h <;> first | (cases h; done) | (cases ‹AF.St.ret e = _›; done) | cases ‹AF.St.ret e = _›
  exact fun ρ => ns_ret (fa := ev cf e) ((sndE cf).1 e q c X k _ h).pe
theorem s_brk : MotS cf .brk := by
  intro q c X k x h
  unfold chkS at h
  split at h <;> first | (cases h; done) | (cases ‹AF.St.brk = _›; done) | cases ‹AF.St.brk = _›
  exact fun ρ => ns_brk
theorem s_cnt : MotS cf .cnt := by
  intro q c X k x h
  unfold chkS at h
  split at h <;> first | (cases h; done) | (cases ‹AF.St.cnt = _›; done) | cases ‹AF.St.cnt = _›
  exact fun ρ => ns_cnt
theorem s_ite (d : E) (a b : Ss) (iha : MotSs cf a) (ihb : MotSs cf b) : MotS cf (.ite d a b) := by
  intro q c X k x h
  unfold chkS at h
  split at h <;> first | (cases h; done) | (cases ‹AF.St.ite d a b = _›; done) | cases ‹AF.St.ite d a b = _›
  rw [Bool.and_eq_true, Bool.and_eq_true, Bool.and_eq_true] at h
  obtain ⟨⟨⟨h1, h2⟩, h3⟩, h4⟩ := h
  exact fun ρ => ns_ite (((sndE cf).1 d q c X k _ h2).pt h1 ρ) (iha q c X k _ h3) (ihb q c X k _ h4)
theorem s_for (t : Tg) (it : AF.It) (b : Ss) (fg : List Nat) (ihb : MotSs cf b) : MotS cf (.for_ t it b fg) := by
  intro q c X k x h
  unfold chkS at h
  split at h <;> first | (cases h; done) | (cases ‹AF.St.for_ t it b fg = _›; done) | cases ‹AF.St.for_ t it b fg = _›
  rw [Bool.and_eq_true, Bool.and_eq_true, Bool.and_eq_true] at h
  obtain ⟨⟨⟨h1, h2⟩, h3⟩, h4⟩ := h
  exact fun ρ => ns_for k h1 ((sndE cf).2.1 it q c X k _ _ h2) h3 (ihb q c X k _ h4)
theorem s_whl (n : Nat) (d : E) (b : Ss) (fg : List Nat) (ihb : MotSs cf b) : MotS cf (.whl n d b fg) := by
  intro q c X k x h
  unfold chkS at h
  split at h <;> first | (cases h; done) | (cases ‹AF.St.whl n d b fg = _›; done) | cases ‹AF.St.whl n d b fg = _›
  rw [Bool.and_eq_true, Bool.and_eq_true] at h
  exact fun ρ => ns_whl k (((sndE cf).1 d q c X k _ h.1.2).pt h.1.1) (ihb q c X k _ h.2)
theorem s_rse (y : Str) (txt : Bool) (e : E) : MotS cf (.rse y txt e) := by
  intro q c X k x h
  unfold chkS at h
  split at h <;> first | (cases h; done) | (cases ‹AF.St.rse y txt e = _›; done) | cases ‹AF.St.rse y txt e = _›
  rw [Bool.and_eq_true, Bool.and_eq_true, decide_eq_true_eq] at h
  obtain ⟨⟨rfl, rfl⟩, h3⟩ := h
  exact fun ρ => ns_rse k h3
theorem s_no (s : AF.St) (h : ∀ q st, chkS q s st = false) : MotS cf s := fun q c X k x hx => by rw [h] at hx; cases hx
theorem s_frz (i : Nat) : MotS cf (.frz i) := s_no _ fun q st => by unfold chkS; rfl
theorem s_fgt (i : List Nat) : MotS cf (.fgt i) := s_no _ fun q st => by unfold chkS; rfl
theorem s_asL (i : Nat) : MotS cf (.asL i) := by
  intro q c X k x h
  unfold chkS at h
  split at h <;> first | (cases h; done) | (cases ‹AF.St.asL i = _›; done) | cases ‹AF.St.asL i = _›
  exact fun ρ => ns_asL k h
theorem s_appL (i : Nat) (e : E) : MotS cf (.appL i e) := by
  intro q c X k x h
  unfold chkS at h
  split at h <;> first | (cases h; done) | (cases ‹AF.St.appL i e = _›; done) | cases ‹AF.St.appL i e = _›
  rw [Bool.and_eq_true, Bool.and_eq_true, Bool.and_eq_true, Bool.and_eq_true, Bool.and_eq_true] at h
  obtain ⟨⟨⟨⟨⟨h1, h2⟩, h3⟩, h4⟩, hf⟩, h5⟩ := h
  obtain rfl := eq_of_beq h1
  exact fun ρ => ns_appL k h2 h3 h4 (((sndE cf).1 e q c X k _ h5).pf hf)
theorem s_set2 (i a b : Nat) (e : E) : MotS cf (.set2 i a b e) := by
  intro q c X k x h
  unfold chkS at h
  split at h <;> first | (cases h; done) | (cases ‹AF.St.set2 i a b e = _›; done) | cases ‹AF.St.set2 i a b e = _›
  rw [Bool.and_eq_true, Bool.and_eq_true, Bool.and_eq_true] at h
  obtain ⟨⟨⟨h1, h2⟩, h3⟩, h4⟩ := h
  exact fun ρ => ns_set2 k h1 h2 h3 ((sndE cf).1 e q c X k _ h4).pe
theorem ss_nil : MotSs cf .nil := by
  intro q c X k x h
  cases x with
  | nil => exact fun ρ => ns_nil
  | cons a as => cases h
theorem ss_cons (s : AF.St) (ss : Ss) (ih1 : MotS cf s) (ih2 : MotSs cf ss) : MotSs cf (.cons s ss) := by
  intro q c X k x h ρ
  show PSs X x (tS c ρ (seqR (evS cf s ρ) (evSs cf ss)))
  unfold chkSs at h
  split at h <;> first | (cases h; done) | (cases ‹Ss.cons s ss = _›; done) | cases ‹Ss.cons s ss = _›
  · exact ns_frz (ih2 q c X k _ h)
  · exact ns_fgt (ih2 q c X k _ h)
  · rw [Bool.and_eq_true] at h
    exact ns_cons (ih1 q c X k _ h.1 ρ) (ih2 q c X k _ h.2)
theorem ps_nil : MotPs cf .nil := by
  intro q c X k x h
  cases x with
  | nil => exact np_nil
  | cons a as => cases h
theorem ps_cons (own : Bool) (i : Nat) (e : E) (ps : Ps) (ih : MotPs cf ps) : MotPs cf (.cons own i e ps) := by
  intro q c X k x h
  cases x with
  | nil => cases h
  | cons a as =>
    rw [chkPs, Bool.and_eq_true, Bool.and_eq_true, Bool.and_eq_true] at h
    obtain ⟨⟨⟨h1, h2⟩, h3⟩, h4⟩ := h
    exact np_cons (fa := ev cf e) (fs := evPs cf ps) h1 (own_pe (q := q) h2 ((sndE cf).1 e q c X k _ h3)) (ih q c X k _ h4)
theorem sndS (cf : CallF) (ss : Ss) : MotSs cf ss :=
  @Ss.rec (MotS cf) (MotSs cf) (MotPs cf) (@s_as cf) (@s_unp cf) (@s_par cf) (@s_app cf) (@s_ext cf) (@s_set cf) (@s_upd cf) (@s_ex cf) (@s_ret cf) (@s_brk cf) (@s_cnt cf) (@s_ite cf) (@s_for cf) (@s_whl cf) (@s_rse cf) (@s_frz cf) (@s_fgt cf) (@s_asL cf) (@s_appL cf) (@s_set2 cf) (@s_mset cf) (@s_any cf) (@ss_nil cf) (@ss_cons cf) (@ps_nil cf) (@ps_cons cf) ss
end
end AF

set_option maxHeartbeats 4000000
namespace AF
open PySem PySem.Spec L2
open PyProof.Rows hiding St
/-! ## 31. defs -/
structure DefIn (K : PySem.W.Frag) (g : Gs) (tbl : Nat → Option Df) (id : Nat) (ps : List Str) (f : Addr) (fd : FuncData) : Prop where
  ex : ∃ x qual params body scope N df, FunD K x qual params body scope [] [] f fd ∧ FnScope N ps scope ∧ tbl id = some df ∧ df.np = ps.length ∧ df.ns = N.length ∧ chkSs ⟨g, N, scope, none⟩ df.body body = true
structure ModIn (K : PySem.W.Frag) (mg : Str → Option Value) (g : Gs) (tbl : Nat → Option Df) : Prop where
  free : ∀ x ∈ g.frees, mg x = none
  con : ∀ p ∈ g.cons, ∃ v u, mg p.1 = some u ∧ RelV v u ∧ ∀ H, Fp H v p.2
  tt : ∀ p ∈ g.tts, ∃ (a : Addr) (bs : List Addr), mg p.1 = some (.ref a) ∧ (∀ H, SqT K H a (bs.map V.ref)) ∧ bs.length = p.2.length ∧ ∀ (i : Nat) b row, bs[i]? = some b → p.2[i]? = some row → ∀ H, SqT K H b (row.map V.int)
  ts : ∀ p ∈ g.tss, ∃ a, mg p.1 = some (.ref a) ∧ ∀ H, SqT K H a (p.2.map V.str)
  exc : ∀ x ∈ g.excs, ∃ C, mg x = some (.ref C) ∧ PySem.W.excIn K C [.type "ValueError", .type "Exception", .type "BaseException", .type "object"] "ValueError.__new__" = true ∧ PySem.W.keepIn K (.ref C) = true ∧
    PySem.W.subIn K (.ref C) (.type "BaseException") = some true ∧ PySem.W.typeIn K (.ref C) = some (.type "type")
  fn : ∀ p ∈ g.fns, ∃ f fd, mg p.1 = some (.ref f) ∧ PySem.W.keepIn K (.ref f) = true ∧ Binds K fd p.2.2 [] ∧ DefIn K g tbl p.2.1 p.2.2 f fd
theorem start_at {N : List Str} {vs : List V} {i : Nat} (h : i < vs.length) : at_ (L2.start N vs) i = at_ (vs.map some) i := by
  unfold at_ L2.start
  rw [List.getElem?_append_left (by simpa using h)]
theorem start_len {N : List Str} {vs : List V} (h : vs.length ≤ N.length) : (L2.start N vs).length = N.length := by
  unfold L2.start
  simp
  omega
theorem rep_start {K : PySem.W.Frag} {H : Hp} {args : List S} {vs : List V} {fp : Nat → List Addr} {N : List Str} (r : Rep K (vs.map some) H args (vs.map some) fp) (h : vs.length ≤ N.length) :
    Rep K (L2.start N vs) H (args ++ List.replicate (N.length - args.length) .un) (L2.start N vs) fp := by
  have hl : args.length = vs.length := by have := r.len; simpa using this
  refine ⟨by rw [start_len h]; simp; omega, fun i s hi => ?_, fun i hi => ?_, r.dis, rfl⟩
  · by_cases z : i < args.length
    · rw [List.getElem?_append_left z] at hi
      rw [start_at (by omega)]
      exact r.ok i s hi
    · rw [List.getElem?_append_right (by omega)] at hi
      have : s = .un := by
        have := List.mem_of_getElem? hi
        exact (List.mem_replicate.mp this).2
      subst this
      exact r.out i (by omega)
  · simp at hi
    exact r.out i (by omega)
def fpOut (ρ : En) (fp : Nat → List Addr) (i : Nat) : List Addr := match ρ[i]? with
  | some (.rf _) => fp i
  | _ => []
theorem fpOut_sub (ρ : En) (fp : Nat → List Addr) (i : Nat) : fpOut ρ fp i = fp i ∨ fpOut ρ fp i = [] := by
  unfold fpOut
  split
  · exact .inl rfl
  · exact .inr rfl
theorem rep_out {K : PySem.W.Frag} {H : Hp} {ρ : En} {vs : List V} {fp : Nat → List Addr} {N : List Str} {σ : L2.St} {n : Nat} (r : Rep K (L2.start N vs) H ρ σ fp) (hn : n = vs.length) (h : vs.length ≤ N.length) :
    Rep K (vs.map some) H (outE n ρ) (vs.map some) (fpOut (outE n ρ) fp) := by
  have hs : N.length = ρ.length := by rw [r.len, r.lb, start_len h]
  have hl : (outE n ρ).length = vs.length := by unfold outE; simp; omega
  refine ⟨by simp [hl], fun i s hi => ?_, fun i hi => ?_, fun i j a ha hb => ?_, rfl⟩
  · have hi0 := hi
    have hil : i < vs.length := by
      have := (List.getElem?_eq_some_iff.mp hi).1
      omega
    unfold outE at hi
    rw [List.getElem?_map, List.getElem?_take_of_lt (by omega)] at hi
    obtain ⟨t, ht, rfl⟩ := Option.map_eq_some_iff.mp hi
    have ok := r.ok i t ht
    cases t with
    | rf m =>
      obtain ⟨v, e1, e2, o⟩ := ok
      rw [start_at hil] at e2
      refine ⟨v, e2, e2, ?_⟩
      unfold fpOut
      rw [hi0]
      exact o
    | un => unfold fpOut; rw [hi0]; rfl
    | im _ => unfold fpOut; rw [hi0]; rfl
    | mu _ => unfold fpOut; rw [hi0]; rfl
    | sc _ => unfold fpOut; rw [hi0]; rfl
  · unfold fpOut
    rw [List.getElem?_eq_none hi]
  · rcases fpOut_sub (outE n ρ) fp i with z | z
    · rw [z] at ha
      rcases fpOut_sub (outE n ρ) fp j with y | y
      · rw [y] at hb; exact r.dis i j a ha hb
      · rw [y] at hb; cases hb
    · rw [z] at ha; cases ha
theorem fns_ok {P : Program} {w : World} {K : PySem.W.Frag} {mg : Str → Option Value} {base : Heap} {g : Gs} {tbl : Nat → Option Df} (m : ModIn K mg g tbl) : ∀ (n : Nat) (p : Str × Nat × List Str), p ∈ g.fns →
    ∀ f fd, DefIn K g tbl p.2.1 p.2.2 f fd → FnOk P w K mg base (L2.CX P w) n f fd p.2.2 (spF K mg (evF tbl n p.2.1))
  | 0, p, hp, f, fd, D => ⟨fun vs H Q E ⟨args, fp, r, z⟩ => z.elim, fun A outer s H args us vs Q E _ _ _ _ ⟨_, _, _, z⟩ => z.elim⟩
  | n + 1, p, hp, f, fd, D => by
    obtain ⟨x, qual, params, body, scope, N, df, F, S, ht, hnp, hns, hc⟩ := D.ex
    have dep : ∀ (vs : List V) (H : Hp) (Q : VK) (E : XK), spF K mg (evF tbl (n + 1) p.2.1) vs H Q E → ∃ args fp, Rep K (vs.map some) H args (vs.map some) fp ∧ args.length = df.np ∧ (match runDf (evF tbl n) df args with
      | .ok d ρo => ∀ v H' fp', Rep K (vs.map some) H' ρo (vs.map some) fp' → Fp H' v d → Stp H fp H' fp' → Q v H'
      | .ex n f ρo => ∀ cls dd H' fp', Rep K (vs.map some) H' ρo (vs.map some) fp' → ExcIs mg n f cls dd H' → Stp H fp H' fp' → E cls dd H'
      | .st => False) := by
      intro vs H Q E ⟨args, fp, r, z⟩
      have e : evF tbl (n + 1) p.2.1 args = runDf (evF tbl n) df args := by
        show (match tbl p.2.1 with
          | some d => runDf (evF tbl n) d args
          | none => .st) = _
        rw [ht]
      rw [e] at z
      refine ⟨args, fp, r, ?_, z⟩
      by_cases hl : args.length = df.np
      · exact hl
      · unfold runDf at z
        rw [if_neg hl] at z
        exact z.elim
    have npl : p.2.2.length ≤ N.length := by
      have := S.pre
      have h2 := congrArg List.length this
      rw [List.length_take] at h2
      omega
    refine F.ok S (fun vs H Q E h => ?_) fun cdv A outer s H vs Q E hr h => ?_
    · obtain ⟨args, fp, r, hl, _⟩ := dep vs H Q E h
      have := r.len
      rw [List.length_map] at this
      omega
    · obtain ⟨args, fp, r, hl, z⟩ := dep vs H Q E h
      have hvl : vs.length = p.2.2.length := by
        have := r.len
        rw [List.length_map] at this
        omega
      have hlen : vs.length ≤ N.length := by omega
      have tk : Takes (cxOf (L2.CX P w) P w K mg base N qual scope f cdv A outer s H E) (fun cls d _ H => E cls d H) := takes_of rfl rfl rfl rfl
      have k : OkX ⟨g, N, scope, none⟩ (evF tbl n) ⟨K, mg, fun cls d _ H => E cls d H, L2.start N vs⟩ (cxOf (L2.CX P w) P w K mg base N qual scope f cdv A outer s H E) := by
        refine ⟨rfl, rfl, S.nd, rfl, ?_, rfl, rfl, m.free, m.con, m.tt, m.ts, fun p' hp' => ?_, fun σ => passAt tk σ, PassesOwn.leaving, tk, m.exc, fun x => rfl⟩
        · have := hr.un
          show (A.deeper (PyProof.Rows.envOfC qual scope s.heap.objs.size f cdv)).units + 65 < cLine
          omega
        · obtain ⟨f', fd', h1, h2, h3, h4⟩ := m.fn p' hp'
          exact ⟨n, f', fd', h1, h2, hr, fns_ok m n p' hp' f' fd' h4, h3⟩
      refine ⟨_, sndS (evF tbl n) df.body ⟨g, N, scope, none⟩ _ _ k body hc (args ++ List.replicate (df.ns - df.np) .un), fp, ?_, ?_⟩
      · have r2 := rep_start (N := N) r hlen
        rw [hl, ← hns] at r2
        exact r2
      · unfold runDf at z
        rw [if_pos hl] at z
        have fin : ∀ {ρ : En} {σ' : L2.St} {H' : Hp} {fp' : Nat → List Addr}, Rep K (L2.start N vs) H' ρ σ' fp' → Stp H fp H' fp' → ∃ fp2, Rep K (vs.map some) H' (outE df.np ρ) (vs.map some) fp2 ∧ Stp H fp H' fp2 := fun r' s' =>
          ⟨_, rep_out r' (by omega) hlen, s'.sub (fpOut_sub _ _)⟩
        cases e : evSs (evF tbl n) df.body (args ++ List.replicate (df.ns - df.np) .un) with
        | st => rw [e] at z; exact z
        | ex nm f ρ1 =>
          rw [e] at z
          intro cls dd σ' H' fp' r' f' s'
          obtain ⟨fp2, r2, s2⟩ := fin r' s'
          exact z cls dd H' fp2 r2 f' s2
        | ok fl ρ1 =>
          rw [e] at z
          cases fl with
          | nx =>
            intro σ' H' fp' r' s'
            obtain ⟨fp2, r2, s2⟩ := fin r' s'
            exact z .non H' fp2 r2 .non s2
          | brk => exact z.elim
          | cnt => exact z.elim
          | rt d =>
            intro σ' H' fp' r' s' v f
            obtain ⟨fp2, r2, s2⟩ := fin r' s'
            exact z v H' fp2 r2 f s2
end AF

set_option maxHeartbeats 4000000
namespace AF
open PySem PySem.Spec L2
open PyProof.Rows hiding St
/-! ## 32. a law: its defs, its facts, its end -/
structure DefS where
  name : Str
  id : Nat
  ps : List Str
  N : List Str
  st : Stmt
def DefS.d (x : DefS) : He.DefD := ⟨(x.name, none), x.name, x.name, defArgs x.st, defBody x.st, defScope x.st, [], []⟩
def scopeC (N ps : List Str) (sc : PySem.Scope) : Bool :=
  (match sc.kind with
  | .function => true
  | _ => false) && !sc.isCoroutine && !sc.isGenerator && decide N.Nodup && decide (N.take ps.length = ps) && ps.all (locB sc) && sc.names.all (fun y => match y.2 with
  | .free => false
  | _ => true)
theorem scopeC_ok {N ps : List Str} {sc : PySem.Scope} (h : scopeC N ps sc = true) : FnScope N ps sc := by
  unfold scopeC at h
  simp only [Bool.and_eq_true, Bool.not_eq_true', decide_eq_true_eq] at h
  obtain ⟨⟨⟨⟨⟨⟨h1, h2⟩, h3⟩, h4⟩, h5⟩, h6⟩, h7⟩ := h
  refine ⟨?_, h2, h3, h4, h5, fun x hx => locB_ok (List.all_eq_true.mp h6 x hx), fun y hy z => ?_⟩
  · split at h1
    · assumption
    · cases h1
  · have := List.all_eq_true.mp h7 y hy
    rw [z] at this
    cases this
structure Cf where
  frees : List Str
  kI : List (Str × Int)
  kS : List (Str × Str)
  excs : List Str
  defs : List DefS
  tts : List (Str × List (List Int)) := []
  tss : List (Str × List Str) := []
def Cf.g (c : Cf) : Gs := ⟨c.defs.map fun d => (d.name, d.id, d.ps), c.frees, c.kI.map (fun p => (p.1, .int p.2)) ++ c.kS.map (fun p => (p.1, .str p.2)), c.excs, c.tts, c.tss⟩
def Cf.fa (c : Cf) : List He.Fa := c.frees.map .free ++ (c.kI.map (fun p => He.Fa.int p.1 p.2) ++ (c.kS.map (fun p => He.Fa.str p.1 p.2) ++ (c.excs.map .glo ++ (c.excs.map .exc ++ (c.defs.map (fun d => He.Fa.glo d.name) ++ (c.tts.map (fun p => He.Fa.glo p.1) ++ c.tss.map fun p => He.Fa.glo p.1))))))
def Cf.fn (c : Cf) : List He.DefD := c.defs.map DefS.d
def dfC (g : Gs) (tbl : Nat → Option Df) (d : DefS) : Bool := scopeC d.N d.ps (defScope d.st) && (match tbl d.id with
  | some df => decide (df.np = d.ps.length) && decide (df.ns = d.N.length) && chkSs ⟨g, d.N, defScope d.st, none⟩ df.body (defBody d.st)
  | none => false)
structure DefOk (g : Gs) (tbl : Nat → Option Df) (d : DefS) : Prop where
  bi : ∀ (kV doc pm : Value) (an : Option Addr) (cdv ct : Value) (us : List Value), us.length = d.ps.length → bindArgs (PySem.W.fnOf d.name d.name (defArgs d.st) (defBody d.st) (defScope d.st) .none kV doc pm an cdv ct) { pos := us } = pure (d.ps.zip us)
  ck : dfC g tbl d = true
/-! ### the head's facts, with more of them -/
def obsX (fa : List He.Fa) (fn : List He.DefD) (ex : List (PySem.W.Frag → Bool)) (K : PySem.W.Frag) : He.AlD := (((fa.all fun f => f.ok K) && fn.all fun d => d.ok K) && ex.all fun f => f K, fn.map fun d => He.fnW K d.at_)
def SaysX (fa : List He.Fa) (fn : List He.DefD) (ex : List (PySem.W.Frag → Bool)) (K : PySem.W.Frag) : Prop := obsX fa fn ex K = He.valD fn
def obsXG (n : Nat) (fa : List He.Fa) (fn : List He.DefD) (ex : List (PySem.W.Frag → Bool)) (g : Addr → Option Obj) : He.AlD := obsX fa fn ex (He.frG g (He.asD g n))
def hookX (n : Nat) (fa : List He.Fa) (fn : List He.DefD) (ex : List (PySem.W.Frag → Bool)) : PySem.W.Hook where
  α := He.AlD
  obs := fun s => obsXG n fa fn ex s.heap.get?
  val := fun _ => He.valD fn
  says := fun _ h => ∃ K : PySem.W.Frag, K.In h ∧ SaysX fa fn ex K
  of := fun _ _ e => ⟨_, He.frG_in, e⟩
  keeps := fun _ _ _ ⟨K, hK, c⟩ k => ⟨K, PySem.W.Frag.In.keeps hK k, c⟩
theorem obsXG_eq {n : Nat} {fa : List He.Fa} {fn : List He.DefD} {ex : List (PySem.W.Frag → Bool)} {g : Addr → Option Obj} {s : Shared} (h : ∀ a, g a = s.heap.get? a) : obsXG n fa fn ex g = (hookX n fa fn ex).obs s := by
  have e : g = s.heap.get? := funext h
  rw [e] <;> rfl
theorem SaysX.says {fa : List He.Fa} {fn : List He.DefD} {ex : List (PySem.W.Frag → Bool)} {K : PySem.W.Frag} (c : SaysX fa fn ex K) : He.SaysD fa fn K ∧ ∀ f ∈ ex, f K = true := by
  have c1 := Bool.and_eq_true_iff.mp (show (((fa.all fun f => f.ok K) && fn.all fun d => d.ok K) && ex.all fun f => f K) = true from congrArg (fun z : He.AlD => z.1) c)
  have c2 : fn.map (fun d => He.fnW K d.at_) = fn.map He.DefD.val := congrArg (fun z : He.AlD => z.2) c
  refine ⟨?_, fun f hf => List.all_eq_true.mp c1.2 f hf⟩
  show ((fa.all fun f => f.ok K) && fn.all fun d => d.ok K, fn.map fun d => He.fnW K d.at_) = (true, fn.map He.DefD.val)
  rw [c1.1, c2]
def rowB (K : PySem.W.Frag) (b : Addr) (row : List Int) : Bool := match K.lookup b with
  | some ⟨.type c, _, .seq its _, _⟩ => decide (c = "tuple") && (decide (its.size ≤ sizeLine) && He.relAll (row.map V.int) its.toList)
  | _ => false
theorem rowB_ok {K : PySem.W.Frag} {b : Addr} {row : List Int} (h : rowB K b row = true) (H : Hp) : SqT K H b (row.map V.int) := by
  unfold rowB at h
  split at h
  · rename_i c od its n sl q
    obtain ⟨h1, h2⟩ := He.ba h
    obtain ⟨h3, h4⟩ := He.ba h2
    exact .inr ⟨_, its, n, q, congrArg Value.type (of_decide_eq_true h1), rfl, of_decide_eq_true h3, He.relAll_ok h4⟩
  · cases h
def refB (K : PySem.W.Frag) (u : Value) (r : List Int) : Bool := match u with
  | .ref b => rowB K b r
  | _ => false
def rowsB (K : PySem.W.Frag) : List Value → List (List Int) → Bool
  | [], [] => true
  | u :: us, r :: rs => refB K u r && rowsB K us rs
  | _, _ => false
theorem rowsB_ok {K : PySem.W.Frag} : ∀ {us : List Value} {rs : List (List Int)}, rowsB K us rs = true → ∃ bs : List Addr, us = bs.map Value.ref ∧ bs.length = rs.length ∧ ∀ (i : Nat) b row, bs[i]? = some b → rs[i]? = some row → ∀ H, SqT K H b (row.map V.int)
  | [], [], _ => ⟨[], rfl, rfl, fun i b row h => by simp at h⟩
  | u :: us, r :: rs, h => by
    obtain ⟨h1, h2⟩ := He.ba (show (refB K u r && rowsB K us rs) = true from h)
    obtain ⟨bs, rfl, e2, e3⟩ := rowsB_ok h2
    unfold refB at h1
    split at h1
    · rename_i b
      refine ⟨b :: bs, rfl, by simp [e2], fun i b' row h3 h4 H => ?_⟩
      cases i with
      | zero => cases h3; cases h4; exact rowB_ok h1 H
      | succ i => exact e3 i b' row (by simpa using h3) (by simpa using h4) H
    · cases h1
  | [], _ :: _, h => by cases h
  | _ :: _, [], h => by cases h
def ttB (K : PySem.W.Frag) (x : Str) (rows : List (List Int)) : Bool := match K.lookup (He.ga K x) with
  | some ⟨.type c, _, .seq its _, _⟩ => decide (c = "tuple") && (decide (its.size ≤ sizeLine) && rowsB K its.toList rows)
  | _ => false
theorem vals_refs : ∀ (bs : List Addr), Vals (bs.map V.ref) (bs.map Value.ref)
  | [] => .nil
  | b :: bs => .cons rfl (vals_refs bs)
theorem ttB_ok {K : PySem.W.Frag} {x : Str} {rows : List (List Int)} (h : ttB K x rows = true) : ∃ bs : List Addr, (∀ H, SqT K H (He.ga K x) (bs.map V.ref)) ∧ bs.length = rows.length ∧ ∀ (i : Nat) b row, bs[i]? = some b → rows[i]? = some row → ∀ H, SqT K H b (row.map V.int) := by
  unfold ttB at h
  split at h
  · rename_i c od its n sl q
    obtain ⟨h1, h2⟩ := He.ba h
    obtain ⟨h3, h4⟩ := He.ba h2
    obtain ⟨bs, e1, e2, e3⟩ := rowsB_ok h4
    exact ⟨bs, fun H => .inr ⟨_, its, n, q, congrArg Value.type (of_decide_eq_true h1), rfl, of_decide_eq_true h3, by rw [e1]; exact vals_refs bs⟩, e2, e3⟩
  · cases h
def Cf.ex (c : Cf) : List (PySem.W.Frag → Bool) := c.tts.map (fun p K => ttB K p.1 p.2) ++ c.tss.map fun p K => He.tupB K p.1 (p.2.map .str)
theorem modIn {K : PySem.W.Frag} {h : Heap} {mg : Str → Option Value} {c : Cf} {tbl : Nat → Option Df} (X : K.In h) (G : h.Ns mainGlobals mg) (yx : SaysX c.fa c.fn c.ex K) (ok : ∀ d ∈ c.defs, DefOk c.g tbl d) : ModIn K mg c.g tbl := by
  obtain ⟨y, yex⟩ := yx.says
  have fact : ∀ f ∈ c.fa, He.Fa.ok K f = true := fun f hf => by
    obtain ⟨i, hi, e⟩ := List.mem_iff_getElem.mp hf
    exact y.fact i (by rw [List.getElem?_eq_getElem hi, e])
  have gl : ∀ d ∈ c.defs, mg d.name = some (.ref (He.ga K d.name)) := fun d hd => He.glo_ok X G (fact _ (by
    unfold Cf.fa
    simp only [List.mem_append, List.mem_map]
    exact .inr (.inr (.inr (.inr (.inr (.inl ⟨d, hd, rfl⟩)))))))
  refine ⟨fun x hx => He.free_ok X G (fact _ ?_), fun p hp => ?_, fun p hp => ?_, fun p hp => ?_, fun x hx => ?_, fun p hp => ?_⟩
  · unfold Cf.fa
    simp only [List.mem_append, List.mem_map]
    exact .inl ⟨x, hx, rfl⟩
  · rcases List.mem_append.mp hp with hp | hp
    · obtain ⟨r, hr, rfl⟩ := List.mem_map.mp hp
      obtain ⟨t, e⟩ := He.int_ok X G (x := r.1) (i := r.2) (fact _ (by
        unfold Cf.fa
        simp only [List.mem_append, List.mem_map]
        exact .inr (.inl ⟨r, hr, rfl⟩)))
      exact ⟨.int r.2, _, e, ⟨t, rfl⟩, fun H => .int _⟩
    · obtain ⟨r, hr, rfl⟩ := List.mem_map.mp hp
      obtain ⟨t, e⟩ := He.str_ok X G (x := r.1) (z := r.2) (fact _ (by
        unfold Cf.fa
        simp only [List.mem_append, List.mem_map]
        exact .inr (.inr (.inl ⟨r, hr, rfl⟩))))
      exact ⟨.str r.2, _, e, ⟨t, rfl⟩, fun H => .str _⟩
  · obtain ⟨bs, e1, e2, e3⟩ := ttB_ok (yex _ (List.mem_append_left _ (List.mem_map.mpr ⟨p, hp, rfl⟩)))
    refine ⟨_, bs, He.glo_ok X G (fact _ ?_), e1, e2, e3⟩
    unfold Cf.fa
    simp only [List.mem_append, List.mem_map]
    exact .inr (.inr (.inr (.inr (.inr (.inr (.inl ⟨p, hp, rfl⟩))))))
  · have e1 := He.tupB_ok (yex _ (List.mem_append_right _ (List.mem_map.mpr ⟨p, hp, rfl⟩)))
    rw [List.map_map] at e1
    refine ⟨_, He.glo_ok X G (fact _ ?_), e1⟩
    unfold Cf.fa
    simp only [List.mem_append, List.mem_map]
    exact .inr (.inr (.inr (.inr (.inr (.inr (.inr ⟨p, hp, rfl⟩))))))
  · obtain ⟨e1, e2, e3, e4⟩ := He.exc_ok (x := x) (fact _ (by
      unfold Cf.fa
      simp only [List.mem_append, List.mem_map]
      exact .inr (.inr (.inr (.inr (.inl ⟨x, hx, rfl⟩))))))
    refine ⟨_, He.glo_ok X G (fact _ ?_), e1, e2, e3, e4⟩
    unfold Cf.fa
    simp only [List.mem_append, List.mem_map]
    exact .inr (.inr (.inr (.inl ⟨x, hx, rfl⟩)))
  · obtain ⟨d, hd, rfl⟩ := List.mem_map.mp hp
    obtain ⟨i, hi, e⟩ := List.mem_iff_getElem.mp hd
    obtain ⟨fd, F⟩ := y.def_ i (d := d.d) (by
      unfold Cf.fn
      rw [List.getElem?_map, List.getElem?_eq_getElem hi, e]
      rfl)
    have F : FunD K d.name d.name (defArgs d.st) (defBody d.st) (defScope d.st) [] [] (He.ga K d.name) fd := F
    have o := ok d hd
    have ck := o.ck
    unfold dfC at ck
    rw [Bool.and_eq_true] at ck
    refine ⟨_, fd, gl d hd, F.kp, F.bindsN fun kV doc pm an cdv ct us hl => o.bi kV doc pm an cdv ct us hl, ⟨d.name, d.name, defArgs d.st, defBody d.st, defScope d.st, d.N, ?_⟩⟩
    cases et : tbl d.id with
    | none => rw [et] at ck; cases ck.2
    | some df =>
      rw [et] at ck
      have c2 := ck.2
      simp only [Bool.and_eq_true, decide_eq_true_eq] at c2
      exact ⟨df, F, scopeC_ok ck.1, rfl, c2.1.1, c2.1.2, c2.2⟩
/-- no exception leaves, where none is promised -/
theorem fn_calm {P : Program} {w : World} {K : PySem.W.Frag} {mg : Str → Option Value} {base : Heap} {k : Nat} {f : Addr} {fd : FuncData} {ps : List Str} {sp : Sp} (F : FnOk P w K mg base (L2.CX P w) k f fd ps sp) : FnOk P w K mg base CX0 k f fd ps (fun vs H Q _ => sp vs H Q fun _ _ _ => False) := by
  refine ⟨fun vs H Q E h => F.len vs H Q _ h, fun A outer s H args us vs Q E hr e0 hb hv h => codeAny_mono (F.run A outer s H args us vs Q _ hr e0 hb hv h) fun r s' z => ?_⟩
  cases r with
  | ok fl => cases fl <;> exact z
  | error e =>
    obtain ⟨_, _, _, _, _, _, _, _, _, _, _, _, z⟩ := z
    exact z.elim
/-- the law's own def: what walk_ofE asks -/
theorem law_end {P : Program} {w : World} {K : PySem.W.Frag} {h : Heap} {mg : Str → Option Value} {c : Cf} {tbl : Nat → Option Df} {fa : Addr} {n : Nat} (X : K.In h) (G : h.Ns mainGlobals mg) (yx : SaysX c.fa c.fn c.ex K) (ok : ∀ d ∈ c.defs, DefOk c.g tbl d)
    {d : DefS} (hd : d ∈ c.defs) (hps : d.ps = [Str.ofString "_law_script"]) (hmg : mg d.name = some (.ref fa)) (law : ∀ ns : List Int, ns.length ≤ 63 → ∃ ρ, evF tbl n d.id [.sc ns] = .ok (.bool true) ρ) :
    ∃ (K : PySem.W.Frag) (fd : FuncData) (sp : Sp), K.In h ∧ (∀ (s : Shared) (u : Value), BindsTo s fd { pos := [u] } [(Str.ofString "_law_script", u)]) ∧
      (∀ (H : Hp) (a : Addr) (ns : List Int), ns.length ≤ 63 → Only H → SqL K H a (ns.map V.int) → sp [.ref a] H (fun v _ => v = .bl true) fun _ _ _ => False) ∧
      ∀ base : Heap, K.In base → base.Ns mainGlobals mg → FnOk P w K mg base CX0 n fa fd [Str.ofString "_law_script"] sp := by
  have m := modIn X G yx ok
  obtain ⟨y, yex⟩ := yx.says
  obtain ⟨i, hi, e⟩ := List.mem_iff_getElem.mp hd
  obtain ⟨fd, F⟩ := y.def_ i (d := d.d) (by
    unfold Cf.fn
    rw [List.getElem?_map, List.getElem?_eq_getElem hi, e]
    rfl)
  have F : FunD K d.name d.name (defArgs d.st) (defBody d.st) (defScope d.st) [] [] (He.ga K d.name) fd := F
  have gl : mg d.name = some (.ref (He.ga K d.name)) := by
    refine He.glo_ok X G ?_
    have hf : He.Fa.glo d.name ∈ c.fa := by
      unfold Cf.fa
      simp only [List.mem_append, List.mem_map]
      exact .inr (.inr (.inr (.inr (.inr (.inl ⟨d, hd, rfl⟩)))))
    obtain ⟨j, hj, ej⟩ := List.mem_iff_getElem.mp hf
    exact y.fact j (by rw [List.getElem?_eq_getElem hj, ej])
  have efa : fa = He.ga K d.name := by
    rw [gl] at hmg
    cases hmg
    rfl
  subst efa
  have o := ok d hd
  have ck := o.ck
  unfold dfC at ck
  rw [Bool.and_eq_true] at ck
  have D : DefIn K c.g tbl d.id d.ps (He.ga K d.name) fd := by
    refine ⟨d.name, d.name, defArgs d.st, defBody d.st, defScope d.st, d.N, ?_⟩
    cases et : tbl d.id with
    | none => rw [et] at ck; cases ck.2
    | some df =>
      rw [et] at ck
      have c2 := ck.2
      simp only [Bool.and_eq_true, decide_eq_true_eq] at c2
      exact ⟨df, F, scopeC_ok ck.1, rfl, c2.1.1, c2.1.2, c2.2⟩
  refine ⟨K, fd, (fun vs H Q _ => spF K mg (evF tbl n d.id) vs H Q fun _ _ _ => False), X, fun s u => ?_, fun H a ns hl ho hs => ?_, fun base _ _ => ?_⟩
  · have b := FunD.bindsA (ps := d.ps) F (fun kV doc pm an cdv ct us hl => o.bi kV doc pm an cdv ct us hl) s [u] (by rw [hps]; rfl)
    rw [hps] at b
    exact b
  · obtain ⟨ρ, e⟩ := law ns hl
    refine ⟨[.sc ns], fun _ => [], ⟨rfl, fun i s hi => ?_, fun _ _ => rfl, fun i j b hb => (by cases hb), rfl⟩, ?_⟩
    · cases i with
      | zero =>
        cases hi
        refine ⟨rfl, a, rfl, ?_⟩
        rcases hs with hs | hs
        · rcases hs with hs | hs
          · rcases ho a with z | ⟨o, xs, z⟩
            · rw [z] at hs; cases hs
            · rw [z] at hs; cases hs
          · exact .inl hs
        · exact .inr hs
      | succ i => simp at hi
    · rw [e]
      intro v H' fp' _ f _
      exact f.bl_inv
  · have z := fns_ok (P := P) (w := w) (base := base) m n (d.name, d.id, d.ps) (List.mem_map.mpr ⟨d, hd, rfl⟩) _ _ D
    rw [hps] at z
    exact fn_calm z
end AF

namespace AF
open PySem
/-- a def's answer, from its body's -/
def finR (n : Nat) (r : R Fl) : R PyData := match r with
  | .ok (.rt x) ρ => .ok x (outE n ρ)
  | .ok .nx ρ => .ok .none (outE n ρ)
  | .ok _ _ => .st
  | .ex c f ρ => .ex c f (outE n ρ)
  | .st => .st
/-- is_whole (k01): thing, low, high -/
def df0 : Df := ⟨3, 3, (.cons (.ret (.and (.isi (.v 0) .int) (.cons (.not (.isi (.v 0) .bool)) (.cons (.chn .LtE .LtE (.v 1) (.v 0) (.v 2)) .nil)))) .nil)⟩
/-- is_row (k01): thing, long, sign -/
def df1 : Df := ⟨2, 3, (.cons (.ret (.and (.isi (.v 0) .str) (.cons (.cmp .Eq (.bi .len (.v 0)) (.v 1)) (.cons (.bi .all (.lc (.cmp .In (.v 2) (.k (.str "ab"))) (.n 2) (.ex (.v 0)) .nil [2])) .nil)))) .nil)⟩
/-- is_floor (k01): thing, row -/
def df2 : Df := ⟨1, 2, (.cons (.ite (.or (.not (.isi (.v 0) .tuple)) (.cons (.not (.chn .LtE .LtE (.k (.int 1)) (.bi .len (.v 0)) (.g "MOST" (.int 6)))) .nil)) (.cons (.ret (.k (.bool false))) .nil) .nil) (.cons (.ite (.or (.not (.isi (.ix (.v 0) (.k (.int 0))) .str)) (.cons (.not (.chn .LtE .LtE (.k (.int 1)) (.bi .len (.ix (.v 0) (.k (.int 0)))) (.g "MOST" (.int 6)))) .nil)) (.cons (.ret (.k (.bool false))) .nil) .nil) (.cons (.ret (.bi .all (.lc (.call 1 (.e (.v 1) (.e (.bi .len (.ix (.v 0) (.k (.int 0)))) .nil))) (.n 1) (.ex (.v 0)) .nil [1]))) .nil)))⟩
/-- need_floor (k01): thing -/
def df3 : Df := ⟨1, 1, (.cons (.ite (.not (.call 2 (.e (.v 0) .nil))) (.cons (.rse "NoFloor" true (.k (.str "no floor"))) .nil) .nil) .nil)⟩
/-- is_place (k01): thing, rows, columns -/
def df4 : Df := ⟨3, 3, (.cons (.ite (.or (.not (.isi (.v 0) .tuple)) (.cons (.cmp .NotEq (.bi .len (.v 0)) (.k (.int 2))) .nil)) (.cons (.ret (.k (.bool false))) .nil) .nil) (.cons (.ret (.and (.call 0 (.e (.ix (.v 0) (.k (.int 0))) (.e (.k (.int 0)) (.e (.bin .Sub (.v 1) (.k (.int 1))) .nil)))) (.cons (.call 0 (.e (.ix (.v 0) (.k (.int 1))) (.e (.k (.int 0)) (.e (.bin .Sub (.v 2) (.k (.int 1))) .nil)))) .nil))) .nil))⟩
/-- is_square (k01): floor, thing -/
def df5 : Df := ⟨2, 2, (.cons (.ret (.call 4 (.e (.v 1) (.e (.bi .len (.v 0)) (.e (.bi .len (.ix (.v 0) (.k (.int 0)))) .nil))))) .nil)⟩
/-- need_square (k01): floor, thing -/
def df6 : Df := ⟨2, 2, (.cons (.ite (.not (.call 5 (.e (.v 0) (.e (.v 1) .nil)))) (.cons .any .nil) .nil) .nil)⟩
/-- at (k01): floor, square -/
def df7 : Df := ⟨2, 2, (.cons (.ret (.ix (.ix (.v 0) (.ix (.v 1) (.k (.int 0)))) (.ix (.v 1) (.k (.int 1))))) .nil)⟩
/-- size (k01): floor -/
def df8 : Df := ⟨1, 1, (.cons (.ex (.call 3 (.e (.v 0) .nil))) (.cons (.ret (.tup (.cons (.bi .len (.v 0)) (.cons (.bi .len (.ix (.v 0) (.k (.int 0)))) .nil)))) .nil))⟩
/-- letter (k01): floor, square -/
def df9 : Df := ⟨2, 2, (.cons (.ex (.call 3 (.e (.v 0) .nil))) (.cons (.ex (.call 6 (.e (.v 0) (.e (.v 1) .nil)))) (.cons (.ret (.call 7 (.e (.v 0) (.e (.v 1) .nil)))) .nil)))⟩
/-- other_letter (k01): sign -/
def df10 : Df := ⟨1, 1, (.cons (.ret (.ite (.cmp .Eq (.v 0) (.k (.str "a"))) (.k (.str "b")) (.k (.str "a")))) .nil)⟩
/-- others (k01): row, sign -/
def df11 : Df := ⟨1, 2, (.cons (.ret (.me .join (.k (.str "")) (.lc (.call 10 (.e (.v 1) .nil)) (.n 1) (.ex (.v 0)) .nil [1]))) .nil)⟩
/-- other (k01): floor, row -/
def df12 : Df := ⟨1, 2, (.cons (.ex (.call 3 (.e (.v 0) .nil))) (.cons (.ret (.bi .tuple (.lc (.call 11 (.e (.v 1) .nil)) (.n 1) (.ex (.v 0)) .nil [1]))) .nil))⟩
/-- _law_cell_at (k01): _law_script, _law_k, _law_rest, _law_turn -/
def df13 : Df := ⟨2, 4, (.cons (.ite (.cmp .Lt (.v 1) (.lenS 0)) (.cons (.ret (.ixS 0 (.v 1))) .nil) .nil) (.cons (.ite (.nilS 0) (.cons (.ret (.k (.int 0))) .nil) .nil) (.cons (.as false 2 (.ixS 0 (.bin .Mod (.v 1) (.lenS 0)))) (.cons (.for_ (.n 3) (.rng1 (.mm false (.bin .FloorDiv (.v 1) (.lenS 0)) (.k (.int 60)))) (.cons (.as false 2 (.bin .FloorDiv (.v 2) (.k (.int 1000003)))) .nil) [3]) (.cons (.ret (.bin .Add (.bin .Add (.bin .Mult (.ixS 0 (.bin .Mod (.v 1) (.lenS 0))) (.k (.int 31))) (.v 1)) (.bin .Mult (.v 2) (.k (.int 101))))) .nil)))))⟩
/-- _law_mixed (k01): _law_script, _law_k, _law_bound, _law_drawn -/
def df14 : Df := ⟨3, 4, (.cons (.as false 3 (.bin .Mod (.bin .Add (.bin .Add (.bin .Mult (.call 13 (.s 0 (.e (.v 1) .nil))) (.k (.int 1103515245))) (.bin .Mult (.k (.int 7919)) (.v 1))) (.k (.int 12345))) (.k (.int 2147483647)))) (.cons (.ret (.bin .Mod (.bin .Mod (.bin .Mod (.bin .Pow (.v 3) (.k (.int 5))) (.k (.int 2147483647))) (.k (.int 999983))) (.v 2))) .nil))⟩
/-- _law_draw (k01): _law_script, _law_town, _law_bound -/
def df15 : Df := ⟨3, 3, (.cons (.app 1 (.k (.int 0))) (.cons (.ret (.call 14 (.s 0 (.e (.lenM 1) (.e (.v 2) .nil))))) .nil))⟩
/-- _law_pick (k01): _law_script, _law_town, _law_some -/
def df16 : Df := ⟨3, 3, (.cons (.ret (.ix (.v 2) (.call 15 (.s 0 (.r 1 (.e (.bi .len (.v 2)) .nil)))))) .nil)⟩
/-- _law_floor (k01): _law_script, _law_town, _law_bound, _law_tall, _law_wide, _law_made, _law_down, _law_bits, _law_top, _law_left, _law_clean, _law_across, _law_k, _law_letters -/
def df17 : Df := ⟨3, 14, (.cons (.par (.cons false 3 (.bin .Add (.k (.int 1)) (.call 15 (.s 0 (.r 1 (.e (.v 2) .nil))))) (.cons false 4 (.bin .Add (.k (.int 1)) (.call 15 (.s 0 (.r 1 (.e (.v 2) .nil))))) .nil))) (.cons (.asL 5) (.cons (.for_ (.n 6) (.rng1 (.v 3)) (.cons (.as false 7 (.call 15 (.s 0 (.r 1 (.e (.k (.int 64)) .nil))))) (.cons (.appL 5 (.lc (.ix (.k (.str "ab")) (.bin .BitAnd (.bin .RShift (.v 7) (.v 12)) (.k (.int 1)))) (.n 12) (.rng1 (.v 4)) .nil [12])) .nil)) [6, 7]) (.cons (.ite (.cmp .Eq (.call 15 (.s 0 (.r 1 (.e (.k (.int 2)) .nil)))) (.k (.int 0))) (.cons (.par (.cons false 8 (.call 15 (.s 0 (.r 1 (.e (.bin .Add (.v 3) (.k (.int 1))) .nil)))) (.cons false 9 (.call 15 (.s 0 (.r 1 (.e (.bin .Add (.v 4) (.k (.int 1))) .nil)))) .nil))) (.cons (.as false 10 (.cmp .Eq (.call 15 (.s 0 (.r 1 (.e (.k (.int 3)) .nil)))) (.k (.int 0)))) (.cons (.for_ (.n 6) (.rng1 (.v 3)) (.cons (.for_ (.n 11) (.rng1 (.v 4)) (.cons (.ite (.or (.v 10) (.cons (.cmp .Gt (.call 15 (.s 0 (.r 1 (.e (.k (.int 8)) .nil)))) (.k (.int 0))) .nil)) (.cons (.set2 5 6 11 (.ite (.cmp .Eq (.cmp .Lt (.v 6) (.v 8)) (.cmp .Lt (.v 11) (.v 9))) (.k (.str "a")) (.k (.str "b")))) .nil) .nil) .nil) [11]) .nil) [6, 11]) .nil))) .nil) (.cons (.frz 5) (.cons (.ret (.bi .tuple (.lc (.me .join (.k (.str "")) (.v 13)) (.n 13) (.ex (.v 5)) .nil [13]))) .nil))))))⟩
/-- _law_squares (k01): _law_floor_there, _law_made, _law_down, _law_across -/
def df18 : Df := ⟨1, 4, (.cons (.as true 1 (.lst .nil)) (.cons (.for_ (.n 2) (.rng1 (.bi .len (.v 0))) (.cons (.ext 1 (.lc (.tup (.cons (.v 2) (.cons (.v 3) .nil))) (.n 3) (.rng1 (.bi .len (.ix (.v 0) (.k (.int 0))))) .nil [3])) .nil) [2]) (.cons (.frz 1) (.cons (.ret (.v 1)) .nil))))⟩
/-- _law_none (k01): _law_script, _law_town, _law_some -/
def df20 : Df := ⟨2, 3, (.cons (.as false 2 (.lst (.cons (.k .none) (.cons (.k (.int 5)) (.cons (.tup .nil) (.cons (.tup (.cons (.k (.str "")) .nil)) (.cons (.lst (.cons (.k (.str "ab")) .nil)) (.cons (.k (.str "ab")) (.cons (.tup (.cons (.k (.str "ab")) (.cons (.k (.str "a")) .nil))) (.cons (.tup (.cons (.k (.str "aB")) .nil)) (.cons (.tup (.cons (.k (.str "abc")) .nil)) (.cons (.tup (.cons (.k (.str "aaaaaaa")) .nil)) (.cons (.bin .Mult (.tup (.cons (.k (.str "a")) .nil)) (.k (.int 7))) (.cons (.tup (.cons (.tup (.cons (.k (.str "a")) .nil)) .nil)) .nil)))))))))))))) (.cons (.as false 2 (.bin .Add (.v 2) (.lst (.cons (.tup (.cons (.k (.str "a")) (.cons (.k (.int 5)) .nil))) .nil)))) (.cons (.ret (.call 16 (.s 0 (.r 1 (.e (.bin .Add (.v 2) (.lst (.cons (.tup (.cons (.k (.str "a b")) .nil)) (.cons (.tup (.cons (.k (.str "a")) (.cons (.k .none) .nil))) (.cons (.tup (.cons (.k (.str "ab")) (.cons (.lst (.cons (.k (.str "a")) (.cons (.k (.str "b")) .nil))) .nil))) (.cons (.tup (.cons (.k (.bool true)) .nil)) (.cons (.tup (.cons (.k (.str "a\n")) .nil)) .nil))))))) .nil))))) .nil)))⟩
/-- _law_odd_square (k01): _law_script, _law_town, _law_floor_there, _law_tall, _law_wide, _law_some -/
def df21 : Df := ⟨3, 6, (.cons (.par (.cons false 3 (.bi .len (.v 2)) (.cons false 4 (.bi .len (.ix (.v 2) (.k (.int 0)))) .nil))) (.cons (.as false 5 (.lst (.cons (.k .none) (.cons (.k (.int 5)) (.cons (.lst (.cons (.k (.int 0)) (.cons (.k (.int 0)) .nil))) (.cons (.tup (.cons (.k (.int 0)) .nil)) (.cons (.tup (.cons (.k (.int 0)) (.cons (.k (.int 0)) (.cons (.k (.int 0)) .nil)))) (.cons (.tup (.cons (.v 3) (.cons (.k (.int 0)) .nil))) (.cons (.tup (.cons (.k (.int 0)) (.cons (.v 4) .nil))) (.cons (.tup (.cons (.neg (.k (.int 1))) (.cons (.k (.int 0)) .nil))) (.cons (.tup (.cons (.k (.int 0)) (.cons (.neg (.k (.int 1))) .nil))) (.cons (.tup (.cons (.k (.int 0)) (.cons (.k (.str "0")) .nil))) (.cons (.k (.str "00")) (.cons (.tup (.cons (.k .none) (.cons (.k (.int 0)) .nil))) .nil)))))))))))))) (.cons (.ret (.call 16 (.s 0 (.r 1 (.e (.v 5) .nil))))) .nil)))⟩
/-- _law_same_truth (k01): _law_got, _law_due -/
def df22 : Df := ⟨2, 2, (.cons (.ret (.and (.isi (.v 0) .bool) (.cons (.cmp .Eq (.v 0) (.v 1)) .nil))) .nil)⟩
/-- law (k01): _law_script, _law_town, _law_there, _law_square, _law_sign, _law_bad, _law_odd, _law_down, _law_wrong, _law_letters, _law_spoilt, _law_due, _law_what -/
def df24 : Df := ⟨1, 13, (.cons (.as true 1 (.lst .nil)) (.cons (.as false 2 (.call 17 (.s 0 (.r 1 (.e (.k (.int 6)) .nil))))) (.cons (.ite (.or (.cmp .IsNot (.call 2 (.e (.v 2) .nil)) (.k (.bool true))) (.cons (.cmp .NotEq (.call 8 (.e (.v 2) .nil)) (.tup (.cons (.bi .len (.v 2)) (.cons (.bi .len (.ix (.v 2) (.k (.int 0)))) .nil)))) .nil)) (.cons (.ret (.k (.bool false))) .nil) .nil) (.cons (.ite (.cmp .NotEq (.call 12 (.e (.call 12 (.e (.v 2) .nil)) .nil)) (.v 2)) (.cons (.ret (.k (.bool false))) .nil) .nil) (.cons (.for_ (.n 3) (.ex (.call 18 (.e (.v 2) .nil))) (.cons (.as false 4 (.ix (.ix (.v 2) (.ix (.v 3) (.k (.int 0)))) (.ix (.v 3) (.k (.int 1))))) (.cons (.ite (.or (.cmp .NotEq (.call 9 (.e (.v 2) (.e (.v 3) .nil))) (.v 4)) (.cons (.cmp .NotEq (.call 9 (.e (.call 12 (.e (.v 2) .nil)) (.e (.v 3) .nil))) (.ite (.cmp .Eq (.v 4) (.k (.str "a"))) (.k (.str "b")) (.k (.str "a")))) .nil)) (.cons (.ret (.k (.bool false))) .nil) .nil) .nil)) [3, 4]) (.cons (.as false 5 (.call 20 (.s 0 (.r 1 .nil)))) (.cons (.ite (.or (.cmp .IsNot (.call 2 (.e (.v 5) .nil)) (.k (.bool false))) (.cons (.cmp .NotEq (.lc (.call 23 (.e (.v 12) (.e (.v 5) (.e (.k .none) .nil)))) (.n 12) (.rng1 (.k (.int 3))) .nil [12]) (.bin .Mult (.lst (.cons (.tup (.cons (.k (.str "refused")) (.cons (.k (.int 0)) .nil))) .nil)) (.k (.int 3)))) .nil)) (.cons (.ret (.k (.bool false))) .nil) .nil) (.cons (.as false 6 (.call 21 (.s 0 (.r 1 (.e (.v 2) .nil))))) (.cons (.ite (.cmp .NotEq (.call 23 (.e (.k (.int 2)) (.e (.v 2) (.e (.v 6) .nil)))) (.tup (.cons (.k (.str "square")) (.cons (.v 6) (.cons (.tup (.cons (.k (.str "refused")) (.cons (.k (.int 1)) .nil))) .nil))))) (.cons (.ret (.k (.bool false))) .nil) .nil) (.cons (.as false 7 (.call 15 (.s 0 (.r 1 (.e (.bi .len (.v 2)) .nil))))) (.cons (.as false 8 (.call 16 (.s 0 (.r 1 (.e (.lst (.cons (.k (.str "c")) (.cons (.k (.str "A")) (.cons (.k (.str " ")) (.cons (.k (.str "\n")) .nil))))) .nil))))) (.cons (.for_ (.n 9) (.ex (.lst (.cons (.bin .Add (.ix (.v 2) (.v 7)) (.k (.str "a"))) (.cons (.slT (.ix (.v 2) (.v 7)) (.k (.int 1))) (.cons (.bin .Add (.slH (.ix (.v 2) (.v 7)) (.neg (.k (.int 1)))) (.v 8)) .nil))))) (.cons (.as false 10 (.bin .Add (.bin .Add (.slH (.v 2) (.v 7)) (.tup (.cons (.v 9) .nil))) (.slT (.v 2) (.bin .Add (.v 7) (.k (.int 1)))))) (.cons (.as false 11 (.and (.cmp .Eq (.bi .len (.v 2)) (.k (.int 1))) (.cons (.chn .LtE .LtE (.k (.int 1)) (.bi .len (.v 9)) (.k (.int 6))) (.cons (.cmp .Eq (.me .strip (.v 9) (.k (.str "ab"))) (.k (.str ""))) .nil)))) (.cons (.ite (.not (.call 22 (.e (.call 2 (.e (.v 10) .nil)) (.e (.v 11) .nil)))) (.cons (.ret (.k (.bool false))) .nil) .nil) .nil))) [9, 10, 11]) (.cons (.ret (.and (.cmp .Is (.call 2 (.e (.bi .list (.v 2)) .nil)) (.k (.bool false))) (.cons (.cmp .Is (.call 2 (.e (.bin .Mult (.tup (.cons (.bin .Mult (.k (.str "b")) (.k (.int 6))) .nil)) (.k (.int 6))) .nil)) (.k (.bool true))) .nil))) .nil)))))))))))))⟩
/-- many_ends (k02): floor -/
def df25 : Df := ⟨1, 1, (.cons (.ret (.bin .Mult (.k (.int 2)) (.bin .Add (.bi .len (.v 0)) (.bi .len (.ix (.v 0) (.k (.int 0))))))) .nil)⟩
/-- need_end (k02): floor, thing -/
def df26 : Df := ⟨2, 2, (.cons (.ite (.not (.call 0 (.e (.v 1) (.e (.k (.int 0)) (.e (.bin .Sub (.call 25 (.e (.v 0) .nil)) (.k (.int 1))) .nil))))) (.cons .any .nil) .nil) .nil)⟩
/-- place_of (k02): floor, end, rows, columns -/
def df27 : Df := ⟨2, 4, (.cons (.par (.cons false 2 (.bi .len (.v 0)) (.cons false 3 (.bi .len (.ix (.v 0) (.k (.int 0)))) .nil))) (.cons (.ite (.cmp .Lt (.v 1) (.v 3)) (.cons (.ret (.tup (.cons (.tup (.cons (.k (.int 0)) (.cons (.v 1) .nil))) (.cons (.k (.int 0)) .nil)))) .nil) .nil) (.cons (.ite (.cmp .Lt (.v 1) (.bin .Add (.v 3) (.v 2))) (.cons (.ret (.tup (.cons (.tup (.cons (.bin .Sub (.v 1) (.v 3)) (.cons (.bin .Sub (.v 3) (.k (.int 1))) .nil))) (.cons (.k (.int 1)) .nil)))) .nil) .nil) (.cons (.ite (.cmp .Lt (.v 1) (.bin .Add (.bin .Mult (.k (.int 2)) (.v 3)) (.v 2))) (.cons (.ret (.tup (.cons (.tup (.cons (.bin .Sub (.v 2) (.k (.int 1))) (.cons (.bin .Sub (.bin .Sub (.bin .Add (.bin .Mult (.k (.int 2)) (.v 3)) (.v 2)) (.k (.int 1))) (.v 1)) .nil))) (.cons (.k (.int 2)) .nil)))) .nil) .nil) (.cons (.ret (.tup (.cons (.tup (.cons (.bin .Sub (.bin .Sub (.bin .Add (.bin .Mult (.k (.int 2)) (.v 3)) (.bin .Mult (.k (.int 2)) (.v 2))) (.k (.int 1))) (.v 1)) (.cons (.k (.int 0)) .nil))) (.cons (.k (.int 3)) .nil)))) .nil)))))⟩
/-- end_at (k02): floor, square, side, rows, columns -/
def df28 : Df := ⟨3, 5, (.cons (.par (.cons false 3 (.bi .len (.v 0)) (.cons false 4 (.bi .len (.ix (.v 0) (.k (.int 0)))) .nil))) (.cons (.ite (.cmp .Eq (.v 2) (.k (.int 0))) (.cons (.ret (.ix (.v 1) (.k (.int 1)))) .nil) .nil) (.cons (.ite (.cmp .Eq (.v 2) (.k (.int 1))) (.cons (.ret (.bin .Add (.v 4) (.ix (.v 1) (.k (.int 0))))) .nil) .nil) (.cons (.ite (.cmp .Eq (.v 2) (.k (.int 2))) (.cons (.ret (.bin .Sub (.bin .Sub (.bin .Add (.bin .Mult (.k (.int 2)) (.v 4)) (.v 3)) (.k (.int 1))) (.ix (.v 1) (.k (.int 1))))) .nil) .nil) (.cons (.ret (.bin .Sub (.bin .Sub (.bin .Add (.bin .Mult (.k (.int 2)) (.v 4)) (.bin .Mult (.k (.int 2)) (.v 3))) (.k (.int 1))) (.ix (.v 1) (.k (.int 0))))) .nil)))))⟩
/-- out_by (k02): letter, side -/
def df29 : Df := ⟨2, 2, (.cons (.ret (.ite (.cmp .Eq (.v 0) (.k (.str "a"))) (.bin .Sub (.k (.int 3)) (.v 1)) (.bin .Sub (.bin .Add (.v 1) (.k (.int 1))) (.bin .Mult (.k (.int 2)) (.bin .Mod (.v 1) (.k (.int 2))))))) .nil)⟩
/-- mark_of (k02): letter, side -/
def df30 : Df := ⟨2, 2, (.cons (.ret (.ite (.or (.cmp .Eq (.v 1) (.k (.int 0))) (.cons (.cmp .Eq (.call 29 (.e (.v 0) (.e (.v 1) .nil))) (.k (.int 0))) .nil)) (.k (.int 0)) (.k (.int 1)))) .nil)⟩
/-- stepped (k02): square, side -/
def df31 : Df := ⟨2, 2, (.cons (.ret (.tup (.cons (.tup (.cons (.bin .Add (.ix (.v 0) (.k (.int 0))) (.gix (Str.ofString "STEPS") [[(-1), 0], [0, 1], [1, 0], [0, (-1)]] (.v 1) (.k (.int 0)))) (.cons (.bin .Add (.ix (.v 0) (.k (.int 1))) (.gix (Str.ofString "STEPS") [[(-1), 0], [0, 1], [1, 0], [0, (-1)]] (.v 1) (.k (.int 1)))) .nil))) (.cons (.bin .Mod (.bin .Add (.v 1) (.k (.int 2))) (.k (.int 4))) .nil)))) .nil)⟩
/-- walk_of (k02): floor, square, side, made, first, out, later, inner -/
def df32 : Df := ⟨3, 8, (.cons (.par (.cons true 3 (.lst .nil) (.cons false 4 (.tup (.cons (.v 1) (.cons (.v 2) .nil))) .nil))) (.cons (.whl 6000 (.k (.bool true)) (.cons (.app 3 (.tup (.cons (.ix (.v 1) (.k (.int 0))) (.cons (.ix (.v 1) (.k (.int 1))) (.cons (.call 30 (.e (.call 7 (.e (.v 0) (.e (.v 1) .nil))) (.e (.v 2) .nil))) .nil))))) (.cons (.as false 5 (.call 29 (.e (.call 7 (.e (.v 0) (.e (.v 1) .nil))) (.e (.v 2) .nil)))) (.cons (.unp (.t (.cons (.n 6) (.cons (.n 7) .nil))) (.call 31 (.e (.v 1) (.e (.v 5) .nil)))) (.cons (.ite (.or (.not (.call 5 (.e (.v 0) (.e (.v 6) .nil)))) (.cons (.cmp .Eq (.tup (.cons (.v 6) (.cons (.v 7) .nil))) (.v 4)) .nil)) (.cons (.frz 3) (.cons (.ret (.tup (.cons (.v 3) (.cons (.v 1) (.cons (.v 5) .nil))))) .nil)) .nil) (.cons (.par (.cons false 1 (.v 6) (.cons false 2 (.v 7) .nil))) .nil))))) [5, 6, 7]) .nil))⟩
/-- way_of (k02): floor, end, square, side, made, last, out -/
def df33 : Df := ⟨2, 7, (.cons (.unp (.t (.cons (.n 2) (.cons (.n 3) .nil))) (.call 27 (.e (.v 0) (.e (.v 1) .nil)))) (.cons (.unp (.t (.cons (.n 4) (.cons (.n 5) (.cons (.n 6) .nil)))) (.call 32 (.e (.v 0) (.e (.v 2) (.e (.v 3) .nil))))) (.cons (.ret (.tup (.cons (.v 4) (.cons (.call 28 (.e (.v 0) (.e (.v 5) (.e (.v 6) .nil)))) .nil)))) .nil)))⟩
/-- partner (k02): floor, end -/
def df34 : Df := ⟨2, 2, (.cons (.ex (.call 3 (.e (.v 0) .nil))) (.cons (.ex (.call 26 (.e (.v 0) (.e (.v 1) .nil)))) (.cons (.ret (.ix (.call 33 (.e (.v 0) (.e (.v 1) .nil))) (.k (.int 1)))) .nil)))⟩
/-- way (k02): floor, end -/
def df35 : Df := ⟨2, 2, (.cons (.ex (.call 3 (.e (.v 0) .nil))) (.cons (.ex (.call 26 (.e (.v 0) (.e (.v 1) .nil)))) (.cons (.ret (.ix (.call 33 (.e (.v 0) (.e (.v 1) .nil))) (.k (.int 0)))) .nil)))⟩
/-- partners_of (k02): floor, end -/
def df36 : Df := ⟨1, 2, (.cons (.ret (.lc (.ix (.call 33 (.e (.v 0) (.e (.v 1) .nil))) (.k (.int 1))) (.n 1) (.rng1 (.call 25 (.e (.v 0) .nil))) .nil [1])) .nil)⟩
/-- partners (k02): floor -/
def df37 : Df := ⟨1, 1, (.cons (.ex (.call 3 (.e (.v 0) .nil))) (.cons (.ret (.call 36 (.e (.v 0) .nil))) .nil))⟩
/-- _law_same_number (k02): _law_got, _law_due -/
def df38 : Df := ⟨2, 2, (.cons (.ret (.and (.isi (.v 0) .int) (.cons (.not (.isi (.v 0) .bool)) (.cons (.cmp .Eq (.v 0) (.v 1)) .nil)))) .nil)⟩
/-- _law_sides (k02): _law_down, _law_across -/
def df39 : Df := ⟨2, 2, (.cons (.ret (.lst (.cons (.tup (.cons (.k (.str "h")) (.cons (.v 0) (.cons (.v 1) .nil)))) (.cons (.tup (.cons (.k (.str "v")) (.cons (.v 0) (.cons (.bin .Add (.v 1) (.k (.int 1))) .nil)))) (.cons (.tup (.cons (.k (.str "h")) (.cons (.bin .Add (.v 0) (.k (.int 1))) (.cons (.v 1) .nil)))) (.cons (.tup (.cons (.k (.str "v")) (.cons (.v 0) (.cons (.v 1) .nil)))) .nil)))))) .nil)⟩
/-- _law_arcs (k02): _law_floor_there, _law_made, _law_down, _law_across, _law_sides_here -/
def df40 : Df := ⟨1, 5, (.cons (.as true 1 .dic0) (.cons (.for_ (.t (.cons (.n 2) (.cons (.n 3) .nil))) (.ex (.call 18 (.e (.v 0) .nil))) (.cons (.as false 4 (.call 39 (.e (.v 2) (.e (.v 3) .nil)))) (.cons (.ite (.cmp .Eq (.ix (.ix (.v 0) (.v 2)) (.v 3)) (.k (.str "a"))) (.cons (.mset [.s 1 (.tup (.cons (.v 2) (.cons (.v 3) (.cons (.k (.int 0)) .nil)))), .s 1 (.tup (.cons (.v 2) (.cons (.v 3) (.cons (.k (.int 1)) .nil))))] (.cons (.tup (.cons (.ix (.v 4) (.k (.int 0))) (.cons (.ix (.v 4) (.k (.int 3))) .nil))) (.cons (.tup (.cons (.ix (.v 4) (.k (.int 1))) (.cons (.ix (.v 4) (.k (.int 2))) .nil))) .nil))) .nil) (.cons (.mset [.s 1 (.tup (.cons (.v 2) (.cons (.v 3) (.cons (.k (.int 0)) .nil)))), .s 1 (.tup (.cons (.v 2) (.cons (.v 3) (.cons (.k (.int 1)) .nil))))] (.cons (.tup (.cons (.ix (.v 4) (.k (.int 0))) (.cons (.ix (.v 4) (.k (.int 1))) .nil))) (.cons (.tup (.cons (.ix (.v 4) (.k (.int 2))) (.cons (.ix (.v 4) (.k (.int 3))) .nil))) .nil))) .nil)) .nil)) [2, 3, 4]) (.cons (.frz 1) (.cons (.ret (.v 1)) .nil))))⟩
/-- _law_rim (k02): _law_floor_there, _law_tall, _law_wide, _law_made, _law_k -/
def df41 : Df := ⟨1, 5, (.cons (.par (.cons false 1 (.bi .len (.v 0)) (.cons false 2 (.bi .len (.ix (.v 0) (.k (.int 0)))) .nil))) (.cons (.as false 3 (.bin .Add (.lc (.tup (.cons (.k (.str "h")) (.cons (.k (.int 0)) (.cons (.v 4) .nil)))) (.n 4) (.rng1 (.v 2)) .nil [4]) (.lc (.tup (.cons (.k (.str "v")) (.cons (.v 4) (.cons (.v 2) .nil)))) (.n 4) (.rng1 (.v 1)) .nil [4]))) (.cons (.ret (.bin .Add (.bin .Add (.v 3) (.lc (.tup (.cons (.k (.str "h")) (.cons (.v 1) (.cons (.bin .Sub (.bin .Sub (.v 2) (.k (.int 1))) (.v 4)) .nil)))) (.n 4) (.rng1 (.v 2)) .nil [4])) (.lc (.tup (.cons (.k (.str "v")) (.cons (.bin .Sub (.bin .Sub (.v 1) (.k (.int 1))) (.v 4)) (.cons (.k (.int 0)) .nil)))) (.n 4) (.rng1 (.v 1)) .nil [4]))) .nil)))⟩
/-- _law_at_middle (k02): _law_arcs_here, _law_made, _law_arc, _law_middle -/
def df42 : Df := ⟨1, 4, (.cons (.as true 1 .dic0) (.cons (.for_ (.n 2) (.ex (.bi .sorted (.bi .list (.v 0)))) (.cons (.for_ (.n 3) (.ex (.ix (.v 0) (.v 2))) (.cons (.set 1 (.v 3) (.bin .Add (.getM 1 (.v 3) (.lst .nil)) (.lst (.cons (.v 2) .nil)))) .nil) [3]) .nil) [2, 3]) (.cons (.frz 1) (.cons (.ret (.v 1)) .nil))))⟩
/-- _law_walk (k02): _law_arcs_here, _law_touch, _law_middle, _law_arc, _law_made, _law_more, _law_one -/
def df43 : Df := ⟨4, 7, (.cons (.as true 4 (.lst .nil)) (.cons (.whl 6000 (.inM true (.v 3) 4) (.cons (.app 4 (.v 3)) (.cons (.as false 2 (.ix (.lc (.v 6) (.n 6) (.ex (.ix (.v 0) (.v 3))) (.cons (.cmp .NotEq (.v 6) (.v 2)) .nil) [6]) (.k (.int 0)))) (.cons (.as false 5 (.lc (.v 6) (.n 6) (.ex (.ix (.v 1) (.v 2))) (.cons (.cmp .NotEq (.v 6) (.v 3)) .nil) [6])) (.cons (.as false 3 (.ite (.cmp .NotEq (.v 5) (.lst .nil)) (.ix (.v 5) (.k (.int 0))) (.v 3))) .nil)))) [5]) (.cons (.frz 4) (.cons (.ret (.tup (.cons (.v 4) (.cons (.v 2) .nil)))) .nil))))⟩
/-- _law_ways (k02): _law_floor_there, _law_arcs_here, _law_rim_here, _law_touch, _law_made, _law_middle, _law_some, _law_last -/
def df44 : Df := ⟨1, 8, (.cons (.par (.cons false 1 (.call 40 (.e (.v 0) .nil)) (.cons false 2 (.call 41 (.e (.v 0) .nil)) .nil))) (.cons (.par (.cons false 3 (.call 42 (.e (.v 1) .nil)) (.cons true 4 (.lst .nil) .nil))) (.cons (.for_ (.n 5) (.ex (.v 2)) (.cons (.unp (.t (.cons (.n 6) (.cons (.n 7) .nil))) (.call 43 (.e (.v 1) (.e (.v 3) (.e (.v 5) (.e (.ix (.ix (.v 3) (.v 5)) (.k (.int 0))) .nil)))))) (.cons (.app 4 (.tup (.cons (.v 6) (.cons (.me .index (.v 2) (.v 7)) .nil)))) .nil)) [5, 6, 7]) (.cons (.frz 4) (.cons (.ret (.v 4)) .nil)))))⟩
/-- law (k02): _law_script, _law_town, _law_there, _law_due, _law_end, _law_some, _law_last -/
def df45 : Df := ⟨1, 7, (.cons (.as true 1 (.lst .nil)) (.cons (.as false 2 (.call 17 (.s 0 (.r 1 (.e (.k (.int 5)) .nil))))) (.cons (.as false 3 (.call 44 (.e (.v 2) .nil))) (.cons (.ite (.cmp .NotEq (.call 37 (.e (.v 2) .nil)) (.lc (.v 6) (.t (.cons (.n 5) (.cons (.n 6) .nil))) (.ex (.v 3)) .nil [5, 6])) (.cons (.ret (.k (.bool false))) .nil) .nil) (.cons (.for_ (.t (.cons (.n 4) (.cons (.t (.cons (.n 5) (.cons (.n 6) .nil))) .nil))) (.enm (.v 3)) (.cons (.ite (.or (.cmp .NotEq (.call 35 (.e (.v 2) (.e (.v 4) .nil))) (.v 5)) (.cons (.not (.call 38 (.e (.call 34 (.e (.v 2) (.e (.v 4) .nil))) (.e (.v 6) .nil)))) .nil)) (.cons (.ret (.k (.bool false))) .nil) .nil) (.cons (.ite (.or (.cmp .NotEq (.call 35 (.e (.v 2) (.e (.v 6) .nil))) (.rev (.v 5))) (.cons (.cmp .NotEq (.call 34 (.e (.v 2) (.e (.v 6) .nil))) (.v 4)) .nil)) (.cons (.ret (.k (.bool false))) .nil) .nil) .nil)) [4, 5, 6]) (.cons (.ret (.k (.bool true))) .nil))))))⟩
/-- squares_of (k03): floor, made, down, across -/
def df46 : Df := ⟨1, 4, (.cons (.as true 1 (.lst .nil)) (.cons (.for_ (.n 2) (.rng1 (.bi .len (.v 0))) (.cons (.ext 1 (.lc (.tup (.cons (.v 2) (.cons (.v 3) .nil))) (.n 3) (.rng1 (.bi .len (.ix (.v 0) (.k (.int 0))))) .nil [3])) .nil) [2]) (.cons (.frz 1) (.cons (.ret (.v 1)) .nil))))⟩
/-- rings_of (k03): floor, seen, made, end, square, mark, arcs, arc -/
def df47 : Df := ⟨1, 8, (.cons (.par (.cons true 1 .dic0 (.cons true 2 (.lst .nil) .nil))) (.cons (.for_ (.n 3) (.rng1 (.call 25 (.e (.v 0) .nil))) (.cons (.upd 1 (.bi .dict (.lc (.tup (.cons (.v 7) (.cons (.k (.bool true)) .nil))) (.n 7) (.ex (.ix (.call 33 (.e (.v 0) (.e (.v 3) .nil))) (.k (.int 0)))) .nil [7]))) .nil) [3]) (.cons (.for_ (.n 4) (.ex (.call 46 (.e (.v 0) .nil))) (.cons (.for_ (.n 5) (.rng1 (.k (.int 2))) (.cons (.ite (.inM true (.tup (.cons (.ix (.v 4) (.k (.int 0))) (.cons (.ix (.v 4) (.k (.int 1))) (.cons (.v 5) .nil)))) 1) (.cons (.as false 6 (.ix (.call 32 (.e (.v 0) (.e (.v 4) (.e (.bin .Mult (.k (.int 2)) (.v 5)) .nil)))) (.k (.int 0)))) (.cons (.upd 1 (.bi .dict (.lc (.tup (.cons (.v 7) (.cons (.k (.bool true)) .nil))) (.n 7) (.ex (.v 6)) .nil [7]))) (.cons (.app 2 (.bi .sorted (.v 6))) .nil))) .nil) .nil) [5, 6]) .nil) [4, 5, 6]) (.cons (.frz 2) (.cons (.ret (.v 2)) .nil)))))⟩
/-- rings (k03): floor -/
def df48 : Df := ⟨1, 1, (.cons (.ex (.call 3 (.e (.v 0) .nil))) (.cons (.ret (.call 47 (.e (.v 0) .nil))) .nil))⟩
/-- lengths (k03): floor, ring -/
def df49 : Df := ⟨1, 2, (.cons (.ex (.call 3 (.e (.v 0) .nil))) (.cons (.ret (.bi .sorted (.lc (.bi .len (.v 1)) (.n 1) (.ex (.call 47 (.e (.v 0) .nil))) .nil [1]))) .nil))⟩
/-- longest (k03): floor, ways, end, ring -/
def df50 : Df := ⟨1, 4, (.cons (.ex (.call 3 (.e (.v 0) .nil))) (.cons (.as false 1 (.lc (.bi .len (.ix (.call 33 (.e (.v 0) (.e (.v 2) .nil))) (.k (.int 0)))) (.n 2) (.rng1 (.call 25 (.e (.v 0) .nil))) .nil [2])) (.cons (.ret (.bi .max (.bin .Add (.v 1) (.lc (.bi .len (.v 3)) (.n 3) (.ex (.call 47 (.e (.v 0) .nil))) .nil [3])))) .nil)))⟩
/-- _law_rings (k03): _law_floor_there, _law_arcs_here, _law_seen, _law_made, _law_touch, _law_some, _law_last, _law_arc, _law_one -/
def df51 : Df := ⟨1, 9, (.cons (.par (.cons false 1 (.call 40 (.e (.v 0) .nil)) (.cons true 2 .dic0 (.cons true 3 (.lst .nil) .nil)))) (.cons (.as false 4 (.call 42 (.e (.v 1) .nil))) (.cons (.for_ (.t (.cons (.n 5) (.cons (.n 6) .nil))) (.ex (.call 44 (.e (.v 0) .nil))) (.cons (.upd 2 (.bi .dict (.lc (.tup (.cons (.v 7) (.cons (.k (.bool true)) .nil))) (.n 7) (.ex (.v 5)) .nil [7]))) .nil) [5, 6, 7]) (.cons (.for_ (.n 7) (.ex (.bi .sorted (.bi .list (.v 1)))) (.cons (.ite (.inM true (.v 7) 2) (.cons (.as false 5 (.ix (.call 43 (.e (.v 1) (.e (.v 4) (.e (.ix (.ix (.v 1) (.v 7)) (.k (.int 0))) (.e (.v 7) .nil))))) (.k (.int 0)))) (.cons (.upd 2 (.bi .dict (.lc (.tup (.cons (.v 8) (.cons (.k (.bool true)) .nil))) (.n 8) (.ex (.v 5)) .nil [8]))) (.cons (.app 3 (.bi .sorted (.v 5))) .nil))) .nil) .nil) [5, 7]) (.cons (.frz 3) (.cons (.ret (.v 3)) .nil))))))⟩
/-- law (k03): _law_script, _law_town, _law_there, _law_due, _law_most, _law_some, _law_last -/
def df52 : Df := ⟨1, 7, (.cons (.as true 1 (.lst .nil)) (.cons (.as false 2 (.call 17 (.s 0 (.r 1 (.e (.k (.int 6)) .nil))))) (.cons (.as false 3 (.call 51 (.e (.v 2) .nil))) (.cons (.ite (.or (.cmp .NotEq (.call 48 (.e (.v 2) .nil)) (.v 3)) (.cons (.cmp .NotEq (.call 49 (.e (.v 2) .nil)) (.bi .sorted (.lc (.bi .len (.v 5)) (.n 5) (.ex (.v 3)) .nil [5]))) .nil)) (.cons (.ret (.k (.bool false))) .nil) .nil) (.cons (.as false 4 (.bi .max (.bin .Add (.lc (.bi .len (.v 5)) (.n 5) (.ex (.v 3)) .nil [5]) (.lc (.bi .len (.v 5)) (.t (.cons (.n 5) (.cons (.n 6) .nil))) (.ex (.call 44 (.e (.v 2) .nil))) .nil [5, 6])))) (.cons (.ret (.call 38 (.e (.call 50 (.e (.v 2) .nil)) (.e (.v 4) .nil)))) .nil))))))⟩
/-- law (k04): _law_script, _law_town, _law_there, _law_joined, _law_arcs_here, _law_end, _law_another_one, _law_some, _law_k -/
def df53 : Df := ⟨1, 9, (.cons (.as true 1 (.lst .nil)) (.cons (.as false 2 (.call 17 (.s 0 (.r 1 (.e (.k (.int 6)) .nil))))) (.cons (.as false 3 (.call 37 (.e (.v 2) .nil))) (.cons (.ite (.cmp .NotEq (.bi .len (.v 3)) (.bin .Mult (.k (.int 2)) (.bin .Add (.bi .len (.v 2)) (.bi .len (.ix (.v 2) (.k (.int 0))))))) (.cons (.ret (.k (.bool false))) .nil) .nil) (.cons (.as true 4 (.lst .nil)) (.cons (.for_ (.t (.cons (.n 5) (.cons (.n 6) .nil))) (.enm (.v 3)) (.cons (.ite (.or (.cmp .NotEq (.ix (.v 3) (.v 6)) (.v 5)) (.cons (.cmp .NotEq (.bin .Mod (.bin .Add (.v 5) (.v 6)) (.k (.int 2))) (.k (.int 1))) .nil)) (.cons (.ret (.k (.bool false))) .nil) .nil) (.cons (.ite (.cmp .Lt (.v 5) (.v 6)) (.cons (.ext 4 (.call 35 (.e (.v 2) (.e (.v 5) .nil)))) (.cons (.ite (.cmp .NotEq (.lc (.v 8) (.n 8) (.rng2 (.bin .Add (.v 5) (.k (.int 1))) (.v 6)) (.cons (.not (.chn .Lt .Lt (.v 5) (.ix (.v 3) (.v 8)) (.v 6))) .nil) [8]) (.lst .nil)) (.cons (.ret (.k (.bool false))) .nil) .nil) .nil)) .nil) .nil)) [5, 6]) (.cons (.for_ (.n 7) (.ex (.call 48 (.e (.v 2) .nil))) (.cons (.ext 4 (.v 7)) (.cons (.ite (.or (.cmp .NotEq (.bin .Mod (.bi .len (.v 7)) (.k (.int 4))) (.k (.int 0))) (.cons (.cmp .NotEq (.v 7) (.bi .sorted (.v 7))) .nil)) (.cons (.ret (.k (.bool false))) .nil) .nil) .nil)) [7]) (.cons (.frz 4) (.cons (.ret (.cmp .Eq (.bi .sorted (.v 4)) (.bi .sorted (.bi .list (.call 40 (.e (.v 2) .nil)))))) .nil)))))))))⟩
/-- law (k05): _law_script, _law_town, _law_there, _law_none_here, _law_many, _law_bad, _law_told, _law_what -/
def df55 : Df := ⟨1, 8, (.cons (.as true 1 (.lst .nil)) (.cons (.par (.cons false 2 (.call 17 (.s 0 (.r 1 (.e (.k (.int 5)) .nil)))) (.cons false 3 (.call 20 (.s 0 (.r 1 .nil))) .nil))) (.cons (.ite (.cmp .NotEq (.lc (.call 54 (.e (.v 7) (.e (.v 3) (.e (.k .none) .nil)))) (.n 7) (.rng1 (.k (.int 6))) .nil [7]) (.bin .Mult (.lst (.cons (.tup (.cons (.k (.str "refused")) (.cons (.k (.int 0)) .nil))) .nil)) (.k (.int 6)))) (.cons (.ret (.k (.bool false))) .nil) .nil) (.cons (.as false 4 (.bin .Mult (.k (.int 2)) (.bin .Add (.bi .len (.v 2)) (.bi .len (.ix (.v 2) (.k (.int 0))))))) (.cons (.for_ (.n 5) (.ex (.lst (.cons (.k .none) (.cons (.neg (.k (.int 1))) (.cons (.k (.str "0")) (.cons (.v 4) (.cons (.lst (.cons (.k (.int 0)) .nil)) (.cons (.tup (.cons (.k (.int 0)) .nil)) .nil)))))))) (.cons (.ite (.cmp .NotEq (.lc (.call 54 (.e (.v 7) (.e (.v 2) (.e (.v 5) .nil)))) (.n 7) (.rng1 (.k (.int 2))) .nil [7]) (.bin .Mult (.lst (.cons (.tup (.cons (.k (.str "end")) (.cons (.v 5) (.cons (.k (.bool true)) (.cons (.tup (.cons (.k (.str "refused")) (.cons (.k (.int 2)) .nil))) .nil))))) .nil)) (.k (.int 2)))) (.cons (.ret (.k (.bool false))) .nil) .nil) .nil) [5]) (.cons (.as false 6 (.call 54 (.e (.k (.int 0)) (.e (.v 2) (.e (.k (.bool true)) .nil))))) (.cons (.ite (.or (.cmp .NotEq (.v 6) (.tup (.cons (.k (.str "end")) (.cons (.k (.bool true)) (.cons (.k (.bool true)) (.cons (.tup (.cons (.k (.str "refused")) (.cons (.k (.int 2)) .nil))) .nil)))))) (.cons (.not (.isi (.ix (.v 6) (.k (.int 1))) .bool)) .nil)) (.cons (.ret (.k (.bool false))) .nil) .nil) (.cons (.ret (.and (.cmp .Eq (.call 54 (.e (.k (.int 0)) (.e (.tup (.cons (.k (.str "a")) .nil)) (.e (.k (.int 0)) .nil)))) (.k (.int 3))) (.cons (.cmp .Eq (.call 54 (.e (.k (.int 0)) (.e (.tup (.cons (.k (.str "b")) .nil)) (.e (.k (.int 0)) .nil)))) (.k (.int 1))) (.cons (.cmp .Eq (.call 54 (.e (.k (.int 5)) (.e (.tup (.cons (.k (.str "a")) .nil)) (.e (.k .none) .nil)))) (.k (.int 1))) .nil)))) .nil))))))))⟩
/-- corners_of (k06): floor, made, down, across -/
def df56 : Df := ⟨1, 4, (.cons (.as true 1 (.lst .nil)) (.cons (.for_ (.n 2) (.rng1 (.bin .Add (.bi .len (.v 0)) (.k (.int 1)))) (.cons (.ext 1 (.lc (.tup (.cons (.v 2) (.cons (.v 3) .nil))) (.n 3) (.rng1 (.bin .Add (.bi .len (.ix (.v 0) (.k (.int 0)))) (.k (.int 1)))) .nil [3])) .nil) [2]) (.cons (.frz 1) (.cons (.ret (.v 1)) .nil))))⟩
/-- need_corner (k06): floor, thing -/
def df57 : Df := ⟨2, 2, (.cons (.ite (.not (.call 4 (.e (.v 1) (.e (.bin .Add (.bi .len (.v 0)) (.k (.int 1))) (.e (.bin .Add (.bi .len (.ix (.v 0) (.k (.int 0)))) (.k (.int 1))) .nil))))) (.cons (.rse "NoCorner" true (.k (.str "no corner"))) .nil) .nil) .nil)⟩
/-- tie_of (k06): floor, square, down, across -/
def df58 : Df := ⟨2, 4, (.cons (.unp (.t (.cons (.n 2) (.cons (.n 3) .nil))) (.v 1)) (.cons (.ite (.cmp .Eq (.call 7 (.e (.v 0) (.e (.v 1) .nil))) (.k (.str "a"))) (.cons (.ret (.tup (.cons (.tup (.cons (.v 2) (.cons (.bin .Add (.v 3) (.k (.int 1))) .nil))) (.cons (.tup (.cons (.bin .Add (.v 2) (.k (.int 1))) (.cons (.v 3) .nil))) .nil)))) .nil) .nil) (.cons (.ret (.tup (.cons (.tup (.cons (.v 2) (.cons (.v 3) .nil))) (.cons (.tup (.cons (.bin .Add (.v 2) (.k (.int 1))) (.cons (.bin .Add (.v 3) (.k (.int 1))) .nil))) .nil)))) .nil)))⟩
/-- field_by (k06): ties, corner, found, left, later -/
def df60 : Df := ⟨2, 5, (.cons (.par (.cons true 2 (.dic1 (.v 1) (.k (.bool true))) (.cons true 3 (.lst (.cons (.v 1) .nil)) .nil))) (.cons (.whl 6000 (.nilM true 3) (.cons (.for_ (.n 4) (.ex (.ix (.v 0) (.popM 3))) (.cons (.ite (.inM true (.v 4) 2) (.cons (.set 2 (.v 4) (.k (.bool true))) (.cons (.app 3 (.v 4)) .nil)) .nil) .nil) [4]) .nil) [4]) (.cons (.frz 2) (.cons (.ret (.bi .sorted (.bi .list (.v 2)))) .nil))))⟩
/-- fields_of (k06): floor, ties, seen, made, corner, one -/
def df61 : Df := ⟨1, 6, (.cons (.par (.cons false 1 (.call 59 (.e (.v 0) .nil)) (.cons true 2 .dic0 (.cons true 3 (.lst .nil) .nil)))) (.cons (.for_ (.n 4) (.ex (.call 56 (.e (.v 0) .nil))) (.cons (.ite (.inM true (.v 4) 2) (.cons (.app 3 (.call 60 (.e (.v 1) (.e (.v 4) .nil)))) (.cons (.upd 2 (.bi .dict (.lc (.tup (.cons (.v 5) (.cons (.k (.bool true)) .nil))) (.n 5) (.ex (.ixM 3 (.neg (.k (.int 1))))) .nil [5]))) .nil)) .nil) .nil) [4]) (.cons (.frz 3) (.cons (.ret (.v 3)) .nil))))⟩
/-- fields (k06): floor -/
def df62 : Df := ⟨1, 1, (.cons (.ex (.call 3 (.e (.v 0) .nil))) (.cons (.ret (.call 61 (.e (.v 0) .nil))) .nil))⟩
/-- light_fields (k06): floor, some -/
def df63 : Df := ⟨1, 2, (.cons (.ex (.call 3 (.e (.v 0) .nil))) (.cons (.ret (.bi .len (.lc (.v 1) (.n 1) (.ex (.call 61 (.e (.v 0) .nil))) (.cons (.cmp .Eq (.bin .Mod (.bin .Add (.ix (.ix (.v 1) (.k (.int 0))) (.k (.int 0))) (.ix (.ix (.v 1) (.k (.int 0))) (.k (.int 1)))) (.k (.int 2))) (.k (.int 0))) .nil) [1]))) .nil))⟩
/-- field (k06): floor, corner -/
def df64 : Df := ⟨2, 2, (.cons (.ex (.call 3 (.e (.v 0) .nil))) (.cons (.ex (.call 57 (.e (.v 0) (.e (.v 1) .nil)))) (.cons (.ret (.call 60 (.e (.call 59 (.e (.v 0) .nil)) (.e (.v 1) .nil)))) .nil)))⟩
/-- arcs_at (k06): floor, corner, made, down, across, square -/
def df65 : Df := ⟨2, 6, (.cons (.ex (.call 3 (.e (.v 0) .nil))) (.cons (.ex (.call 57 (.e (.v 0) (.e (.v 1) .nil)))) (.cons (.as true 2 (.lst .nil)) (.cons (.for_ (.t (.cons (.n 3) (.cons (.n 4) .nil))) (.ex (.tup (.cons (.tup (.cons (.neg (.k (.int 1))) (.cons (.neg (.k (.int 1))) .nil))) (.cons (.tup (.cons (.neg (.k (.int 1))) (.cons (.k (.int 0)) .nil))) (.cons (.tup (.cons (.k (.int 0)) (.cons (.neg (.k (.int 1))) .nil))) (.cons (.tup (.cons (.k (.int 0)) (.cons (.k (.int 0)) .nil))) .nil)))))) (.cons (.as false 5 (.tup (.cons (.bin .Add (.ix (.v 1) (.k (.int 0))) (.v 3)) (.cons (.bin .Add (.ix (.v 1) (.k (.int 1))) (.v 4)) .nil)))) (.cons (.ite (.and (.call 5 (.e (.v 0) (.e (.v 5) .nil))) (.cons (.cmp .NotIn (.v 1) (.call 58 (.e (.v 0) (.e (.v 5) .nil)))) .nil)) (.cons (.app 2 (.tup (.cons (.ix (.v 5) (.k (.int 0))) (.cons (.ix (.v 5) (.k (.int 1))) (.cons (.call 30 (.e (.call 7 (.e (.v 0) (.e (.v 5) .nil))) (.e (.ite (.cmp .Eq (.v 3) (.neg (.k (.int 1)))) (.k (.int 2)) (.k (.int 0))) .nil))) .nil))))) .nil) .nil) .nil)) [3, 4, 5]) (.cons (.frz 2) (.cons (.ret (.bi .sorted (.v 2))) .nil))))))⟩
/-- _law_corners (k06): _law_floor_there, _law_made, _law_down, _law_across -/
def df66 : Df := ⟨1, 4, (.cons (.as true 1 (.lst .nil)) (.cons (.for_ (.n 2) (.rng1 (.bin .Add (.bi .len (.v 0)) (.k (.int 1)))) (.cons (.ext 1 (.lc (.tup (.cons (.v 2) (.cons (.v 3) .nil))) (.n 3) (.rng1 (.bin .Add (.bi .len (.ix (.v 0) (.k (.int 0)))) (.k (.int 1)))) .nil [3])) .nil) [2]) (.cons (.frz 1) (.cons (.ret (.v 1)) .nil))))⟩
/-- _law_ties (k06): _law_floor_there, _law_made, _law_down, _law_across -/
def df67 : Df := ⟨1, 4, (.cons (.as true 1 (.lst .nil)) (.cons (.for_ (.t (.cons (.n 2) (.cons (.n 3) .nil))) (.ex (.call 18 (.e (.v 0) .nil))) (.cons (.ite (.cmp .Eq (.ix (.ix (.v 0) (.v 2)) (.v 3)) (.k (.str "a"))) (.cons (.app 1 (.tup (.cons (.tup (.cons (.v 2) (.cons (.bin .Add (.v 3) (.k (.int 1))) .nil))) (.cons (.tup (.cons (.bin .Add (.v 2) (.k (.int 1))) (.cons (.v 3) .nil))) .nil)))) .nil) (.cons (.app 1 (.tup (.cons (.tup (.cons (.v 2) (.cons (.v 3) .nil))) (.cons (.tup (.cons (.bin .Add (.v 2) (.k (.int 1))) (.cons (.bin .Add (.v 3) (.k (.int 1))) .nil))) .nil)))) .nil)) .nil) [2, 3]) (.cons (.frz 1) (.cons (.ret (.v 1)) .nil))))⟩
/-- _law_fields (k06): _law_floor_there, _law_labels, _law_ties_here, _law_going, _law_one, _law_two, _law_least, _law_firsts, _law_corner, _law_first -/
def df68 : Df := ⟨1, 10, (.cons (.par (.cons true 1 (.bi .dict (.lc (.tup (.cons (.v 8) (.cons (.v 8) .nil))) (.n 8) (.ex (.call 66 (.e (.v 0) .nil))) .nil [8])) (.cons false 2 (.call 67 (.e (.v 0) .nil)) (.cons false 3 (.k (.bool true)) .nil)))) (.cons (.whl 6000 (.v 3) (.cons (.as false 3 (.k (.bool false))) (.cons (.for_ (.t (.cons (.n 4) (.cons (.n 5) .nil))) (.ex (.v 2)) (.cons (.as false 6 (.mm false (.ixM 1 (.v 4)) (.ixM 1 (.v 5)))) (.cons (.ite (.or (.cmp .NotEq (.ixM 1 (.v 4)) (.v 6)) (.cons (.cmp .NotEq (.ixM 1 (.v 5)) (.v 6)) .nil)) (.cons (.mset [.s 1 (.v 4), .s 1 (.v 5), .n 3] (.cons (.v 6) (.cons (.v 6) (.cons (.k (.bool true)) .nil)))) .nil) .nil) .nil)) [4, 5, 6]) .nil)) [4, 5, 6]) (.cons (.as false 7 (.bi .sset (.lc (.ixM 1 (.v 8)) (.n 8) (.ex (.call 66 (.e (.v 0) .nil))) .nil [8]))) (.cons (.ret (.lc (.lc (.v 8) (.n 8) (.ex (.call 66 (.e (.v 0) .nil))) (.cons (.cmp .Eq (.ixM 1 (.v 8)) (.v 9)) .nil) [8]) (.n 9) (.ex (.v 7)) .nil [9])) .nil))))⟩
/-- law (k06): _law_script, _law_town, _law_there, _law_due, _law_light, _law_arcs_here, _law_corner, _law_down, _law_across, _law_around_it, _law_cut, _law_some, _law_arc -/
def df69 : Df := ⟨1, 13, (.cons (.as true 1 (.lst .nil)) (.cons (.as false 2 (.call 17 (.s 0 (.r 1 (.e (.k (.int 5)) .nil))))) (.cons (.as false 3 (.call 68 (.e (.v 2) .nil))) (.cons (.ite (.cmp .NotEq (.call 62 (.e (.v 2) .nil)) (.v 3)) (.cons (.ret (.k (.bool false))) .nil) .nil) (.cons (.as false 4 (.lc (.v 11) (.n 11) (.ex (.v 3)) (.cons (.cmp .Eq (.bin .Mod (.bin .Add (.ix (.ix (.v 11) (.k (.int 0))) (.k (.int 0))) (.ix (.ix (.v 11) (.k (.int 0))) (.k (.int 1)))) (.k (.int 2))) (.k (.int 0))) .nil) [11])) (.cons (.ite (.not (.call 38 (.e (.call 63 (.e (.v 2) .nil)) (.e (.bi .len (.v 4)) .nil)))) (.cons (.ret (.k (.bool false))) .nil) .nil) (.cons (.as false 5 (.call 40 (.e (.v 2) .nil))) (.cons (.for_ (.n 6) (.ex (.call 66 (.e (.v 2) .nil))) (.cons (.unp (.t (.cons (.n 7) (.cons (.n 8) .nil))) (.v 6)) (.cons (.ite (.cmp .NotEq (.call 64 (.e (.v 2) (.e (.v 6) .nil))) (.ix (.lc (.v 11) (.n 11) (.ex (.v 3)) (.cons (.cmp .In (.v 6) (.v 11)) .nil) [11]) (.k (.int 0)))) (.cons (.ret (.k (.bool false))) .nil) .nil) (.cons (.as false 9 (.lst (.cons (.tup (.cons (.k (.str "h")) (.cons (.v 7) (.cons (.v 8) .nil)))) (.cons (.tup (.cons (.k (.str "h")) (.cons (.v 7) (.cons (.bin .Sub (.v 8) (.k (.int 1))) .nil)))) (.cons (.tup (.cons (.k (.str "v")) (.cons (.v 7) (.cons (.v 8) .nil)))) (.cons (.tup (.cons (.k (.str "v")) (.cons (.bin .Sub (.v 7) (.k (.int 1))) (.cons (.v 8) .nil)))) .nil)))))) (.cons (.as false 10 (.lc (.v 12) (.n 12) (.ex (.bi .sorted (.bi .list (.v 5)))) (.cons (.and (.cmp .In (.ix (.ix (.v 5) (.v 12)) (.k (.int 0))) (.v 9)) (.cons (.cmp .In (.ix (.ix (.v 5) (.v 12)) (.k (.int 1))) (.v 9)) .nil)) .nil) [12])) (.cons (.ite (.cmp .NotEq (.call 65 (.e (.v 2) (.e (.v 6) .nil))) (.v 10)) (.cons (.ret (.k (.bool false))) .nil) .nil) .nil))))) [6, 7, 8, 9, 10, 11]) (.cons (.for_ (.n 11) (.ex (.v 3)) (.cons (.ite (.cmp .NotEq (.lc (.v 6) (.n 6) (.ex (.v 11)) (.cons (.cmp .NotEq (.bin .Mod (.bin .Sub (.bi .sum (.v 6)) (.bi .sum (.ix (.v 11) (.k (.int 0))))) (.k (.int 2))) (.k (.int 0))) .nil) [6]) (.lst .nil)) (.cons (.ret (.k (.bool false))) .nil) .nil) .nil) [6, 11]) (.cons (.ret (.k (.bool true))) .nil))))))))))⟩
/-- law (k07): _law_script, _law_town, _law_there, _law_some, _law_corners_here, _law_one, _law_ties_here, _law_own, _law_here, _law_corner, _law_two -/
def df70 : Df := ⟨1, 11, (.cons (.as true 1 (.lst .nil)) (.cons (.as false 2 (.call 17 (.s 0 (.r 1 (.e (.k (.int 6)) .nil))))) (.cons (.as false 3 (.call 62 (.e (.v 2) .nil))) (.cons (.ite (.cmp .NotEq (.bi .len (.v 3)) (.bin .Add (.bin .Add (.bin .Add (.k (.int 1)) (.bi .len (.v 2))) (.bi .len (.ix (.v 2) (.k (.int 0))))) (.bi .len (.call 48 (.e (.v 2) .nil))))) (.cons (.ret (.k (.bool false))) .nil) .nil) (.cons (.as true 4 (.lst .nil)) (.cons (.for_ (.n 5) (.ex (.v 3)) (.cons (.ext 4 (.v 5)) .nil) [5]) (.cons (.frz 4) (.cons (.ite (.cmp .NotEq (.bi .sorted (.v 4)) (.call 66 (.e (.v 2) .nil))) (.cons (.ret (.k (.bool false))) .nil) .nil) (.cons (.as false 6 (.call 67 (.e (.v 2) .nil))) (.cons (.for_ (.n 5) (.ex (.v 3)) (.cons (.ite (.cmp .Eq (.lc (.v 9) (.n 9) (.ex (.v 5)) (.cons (.or (.cmp .In (.ix (.v 9) (.k (.int 0))) (.tup (.cons (.k (.int 0)) (.cons (.bi .len (.v 2)) .nil)))) (.cons (.cmp .In (.ix (.v 9) (.k (.int 1))) (.tup (.cons (.k (.int 0)) (.cons (.bi .len (.ix (.v 2) (.k (.int 0)))) .nil)))) .nil)) .nil) [9]) (.lst .nil)) (.cons (.as false 7 (.lc (.k (.int 1)) (.n 10) (.ex (.v 6)) (.cons (.cmp .In (.ix (.v 10) (.k (.int 0))) (.v 5)) .nil) [10])) (.cons (.ite (.cmp .NotEq (.bi .sum (.lc (.bi .len (.call 65 (.e (.v 2) (.e (.v 9) .nil)))) (.n 9) (.ex (.v 5)) .nil [9])) (.bin .Sub (.bin .Mult (.k (.int 4)) (.bi .len (.v 5))) (.bin .Mult (.k (.int 2)) (.bi .len (.v 7))))) (.cons (.ret (.k (.bool false))) .nil) .nil) .nil)) .nil) .nil) [5, 7]) (.cons (.as false 8 (.call 16 (.s 0 (.r 1 (.e (.call 66 (.e (.v 2) .nil)) .nil))))) (.cons (.ite (.or (.cmp .NotIn (.v 8) (.call 64 (.e (.v 2) (.e (.v 8) .nil)))) (.cons (.cmp .Gt (.bin .Add (.bi .len (.call 65 (.e (.v 2) (.e (.v 8) .nil)))) (.bi .len (.call 65 (.e (.call 12 (.e (.v 2) .nil)) (.e (.v 8) .nil))))) (.k (.int 4))) .nil)) (.cons (.ret (.k (.bool false))) .nil) .nil) (.cons (.ret (.or (.chn .Lt .Lt (.k (.int 0)) (.call 63 (.e (.v 2) .nil)) (.bi .len (.v 3))) (.cons (.cmp .Eq (.bi .len (.v 3)) (.k (.int 1))) .nil))) .nil)))))))))))))⟩
/-- is_crossed (k08): ring, down, across -/
def df71 : Df := ⟨3, 3, (.cons (.ret (.or (.cmp .In (.tup (.cons (.v 1) (.cons (.v 2) (.cons (.k (.int 0)) .nil)))) (.v 0)) (.cons (.cmp .In (.tup (.cons (.bin .Sub (.v 1) (.k (.int 1))) (.cons (.v 2) (.cons (.k (.int 1)) .nil)))) (.v 0)) .nil))) .nil)⟩
/-- lies_in (k08): floor, ring, corner, down, across, k -/
def df72 : Df := ⟨3, 6, (.cons (.unp (.t (.cons (.n 3) (.cons (.n 4) .nil))) (.v 2)) (.cons (.ret (.cmp .Eq (.bin .Mod (.bi .len (.lc (.v 5) (.n 5) (.rng2 (.v 4) (.bi .len (.ix (.v 0) (.k (.int 0))))) (.cons (.call 71 (.e (.v 1) (.e (.v 3) (.e (.v 5) .nil)))) .nil) [5])) (.k (.int 2))) (.k (.int 1)))) .nil))⟩
/-- depth_of (k08): floor, some, corner, ring -/
def df73 : Df := ⟨3, 4, (.cons (.ret (.bi .len (.lc (.v 3) (.n 3) (.ex (.v 1)) (.cons (.call 72 (.e (.v 0) (.e (.v 3) (.e (.v 2) .nil)))) .nil) [3]))) .nil)⟩
/-- depth (k08): floor, corner -/
def df74 : Df := ⟨2, 2, (.cons (.ex (.call 3 (.e (.v 0) .nil))) (.cons (.ex (.call 57 (.e (.v 0) (.e (.v 1) .nil)))) (.cons (.ret (.call 73 (.e (.v 0) (.e (.call 47 (.e (.v 0) .nil)) (.e (.v 1) .nil))))) .nil)))⟩
/-- deepest (k08): floor, some, corner -/
def df75 : Df := ⟨1, 3, (.cons (.ex (.call 3 (.e (.v 0) .nil))) (.cons (.as false 1 (.call 47 (.e (.v 0) .nil))) (.cons (.ret (.bi .max (.lc (.call 73 (.e (.v 0) (.e (.v 1) (.e (.v 2) .nil)))) (.n 2) (.ex (.call 56 (.e (.v 0) .nil))) .nil [2]))) .nil)))⟩
/-- law (k08): _law_script, _law_town, _law_there, _law_tall, _law_wide, _law_some, _law_bad, _law_last, _law_what -/
def df77 : Df := ⟨1, 9, (.cons (.as true 1 (.lst .nil)) (.cons (.as false 2 (.call 17 (.s 0 (.r 1 (.e (.k (.int 5)) .nil))))) (.cons (.ite (.cmp .NotEq (.lc (.call 76 (.e (.v 8) (.e (.call 20 (.s 0 (.r 1 .nil))) (.e (.k .none) .nil)))) (.n 8) (.rng1 (.k (.int 6))) .nil [8]) (.bin .Mult (.lst (.cons (.tup (.cons (.k (.str "refused")) (.cons (.k (.int 0)) .nil))) .nil)) (.k (.int 6)))) (.cons (.ret (.k (.bool false))) .nil) .nil) (.cons (.par (.cons false 3 (.bin .Add (.bi .len (.v 2)) (.k (.int 1))) (.cons false 4 (.bin .Add (.bi .len (.ix (.v 2) (.k (.int 0)))) (.k (.int 1))) .nil))) (.cons (.as false 5 (.lst (.cons (.k .none) (.cons (.k (.int 5)) (.cons (.lst (.cons (.k (.int 0)) (.cons (.k (.int 0)) .nil))) (.cons (.tup (.cons (.k (.int 0)) .nil)) (.cons (.tup (.cons (.k (.int 0)) (.cons (.k (.int 0)) (.cons (.k (.int 0)) .nil)))) (.cons (.tup (.cons (.v 3) (.cons (.k (.int 0)) .nil))) (.cons (.tup (.cons (.k (.int 0)) (.cons (.v 4) .nil))) (.cons (.tup (.cons (.neg (.k (.int 1))) (.cons (.k (.int 0)) .nil))) (.cons (.tup (.cons (.k (.int 0)) (.cons (.neg (.k (.int 1))) .nil))) (.cons (.tup (.cons (.k (.int 0)) (.cons (.k (.str "0")) .nil))) (.cons (.k (.str "00")) (.cons (.tup (.cons (.k .none) (.cons (.k (.int 0)) .nil))) .nil)))))))))))))) (.cons (.as false 5 (.bin .Add (.v 5) (.lst (.cons (.tup (.cons (.k (.bool true)) (.cons (.k (.int 0)) .nil))) .nil)))) (.cons (.as false 6 (.call 16 (.s 0 (.r 1 (.e (.v 5) .nil))))) (.cons (.ite (.cmp .NotEq (.lc (.call 76 (.e (.v 8) (.e (.v 2) (.e (.v 6) .nil)))) (.n 8) (.rng1 (.k (.int 3))) .nil [8]) (.bin .Mult (.lst (.cons (.tup (.cons (.k (.str "refused")) (.cons (.k (.int 4)) .nil))) .nil)) (.k (.int 3)))) (.cons (.ret (.k (.bool false))) .nil) .nil) (.cons (.as false 7 (.tup (.cons (.bin .Sub (.v 3) (.k (.int 1))) (.cons (.bin .Sub (.v 4) (.k (.int 1))) .nil)))) (.cons (.ite (.or (.cmp .NotIn (.v 7) (.call 76 (.e (.k (.int 0)) (.e (.v 2) (.e (.v 7) .nil))))) (.cons (.cmp .NotEq (.call 76 (.e (.k (.int 2)) (.e (.v 2) (.e (.v 7) .nil)))) (.k (.int 0))) .nil)) (.cons (.ret (.k (.bool false))) .nil) .nil) (.cons (.ret (.cmp .Eq (.lc (.call 76 (.e (.v 8) (.e (.tup (.cons (.k (.str "a")) .nil)) (.e (.k .none) .nil)))) (.n 8) (.rng2 (.k (.int 3)) (.k (.int 6))) .nil [8]) (.lst (.cons (.lst (.cons (.lst (.cons (.tup (.cons (.k (.int 0)) (.cons (.k (.int 0)) .nil))) .nil)) (.cons (.lst (.cons (.tup (.cons (.k (.int 0)) (.cons (.k (.int 1)) .nil))) (.cons (.tup (.cons (.k (.int 1)) (.cons (.k (.int 0)) .nil))) .nil))) (.cons (.lst (.cons (.tup (.cons (.k (.int 1)) (.cons (.k (.int 1)) .nil))) .nil)) .nil)))) (.cons (.k (.int 2)) (.cons (.k (.int 0)) .nil)))))) .nil)))))))))))⟩
/-- corners_in (k09): floor, ring, corner -/
def df78 : Df := ⟨2, 3, (.cons (.ret (.lc (.v 2) (.n 2) (.ex (.call 56 (.e (.v 0) .nil))) (.cons (.call 72 (.e (.v 0) (.e (.v 1) (.e (.v 2) .nil)))) .nil) [2])) .nil)⟩
/-- need_ring (k09): floor, number, some -/
def df79 : Df := ⟨2, 3, (.cons (.ex (.call 3 (.e (.v 0) .nil))) (.cons (.as false 2 (.call 47 (.e (.v 0) .nil))) (.cons (.ite (.not (.call 0 (.e (.v 1) (.e (.k (.int 0)) (.e (.bin .Sub (.bi .len (.v 2)) (.k (.int 1))) .nil))))) (.cons (.rse "NoRing" true (.k (.str "no ring"))) .nil) .nil) (.cons (.ret (.v 2)) .nil))))⟩
/-- inside (k09): floor, number, some -/
def df80 : Df := ⟨2, 3, (.cons (.as false 2 (.call 79 (.e (.v 0) (.e (.v 1) .nil)))) (.cons (.ret (.call 78 (.e (.v 0) (.e (.ix (.v 2) (.v 1)) .nil)))) .nil))⟩
/-- _law_cell_at (k09): _law_script, _law_k, _law_rest, _law_again -/
def df81 : Df := ⟨2, 4, (.cons (.ite (.cmp .Lt (.v 1) (.lenS 0)) (.cons (.ret (.ixS 0 (.v 1))) .nil) .nil) (.cons (.ite (.nilS 0) (.cons (.ret (.k (.int 0))) .nil) .nil) (.cons (.as false 2 (.ixS 0 (.bin .Mod (.v 1) (.lenS 0)))) (.cons (.for_ (.n 3) (.rng1 (.mm false (.bin .FloorDiv (.v 1) (.lenS 0)) (.k (.int 60)))) (.cons (.as false 2 (.bin .FloorDiv (.v 2) (.k (.int 1000003)))) .nil) [3]) (.cons (.ret (.bin .Add (.bin .Add (.bin .Mult (.ixS 0 (.bin .Mod (.v 1) (.lenS 0))) (.k (.int 31))) (.v 1)) (.bin .Mult (.v 2) (.k (.int 101))))) .nil)))))⟩
/-- _law_inside (k09): _law_floor_there, _law_arcs_here, _law_ring, _law_crossed, _law_ties_here, _law_tall, _law_wide, _law_arc, _law_middle, _law_out, _law_left, _law_down, _law_across, _law_steps, _law_kind, _law_one, _law_two, _law_south, _law_east, _law_k, _law_corner -/
def df82 : Df := ⟨3, 21, (.cons (.par (.cons true 3 .dic0 (.cons false 4 (.call 67 (.e (.v 0) .nil)) .nil))) (.cons (.par (.cons false 5 (.bi .len (.v 0)) (.cons false 6 (.bi .len (.ix (.v 0) (.k (.int 0)))) .nil))) (.cons (.for_ (.n 7) (.ex (.v 2)) (.cons (.for_ (.n 8) (.ex (.ix (.v 1) (.v 7))) (.cons (.set 3 (.v 8) (.k (.bool true))) .nil) [8]) .nil) [7, 8]) (.cons (.par (.cons true 9 .dic0 (.cons true 10 (.lc (.tup (.cons (.k (.int 0)) (.cons (.v 19) .nil))) (.n 19) (.rng1 (.bin .Add (.v 6) (.k (.int 1)))) .nil [19]) .nil))) (.cons (.whl 6000 (.nilM true 10) (.cons (.unp (.t (.cons (.n 11) (.cons (.n 12) .nil))) (.popM 10)) (.cons (.ite (.inM true (.tup (.cons (.v 11) (.cons (.v 12) .nil))) 9) (.cons (.set 9 (.tup (.cons (.v 11) (.cons (.v 12) .nil))) (.k (.bool true))) (.cons (.ext 10 (.lc (.ix (.v 16) (.k (.int 0))) (.n 16) (.ex (.v 4)) (.cons (.cmp .Eq (.ix (.v 16) (.k (.int 1))) (.tup (.cons (.v 11) (.cons (.v 12) .nil)))) .nil) [16])) (.cons (.ext 10 (.lc (.ix (.v 16) (.k (.int 1))) (.n 16) (.ex (.v 4)) (.cons (.cmp .Eq (.ix (.v 16) (.k (.int 0))) (.tup (.cons (.v 11) (.cons (.v 12) .nil)))) .nil) [16])) (.cons (.as false 13 (.lst (.cons (.tup (.cons (.k (.str "h")) (.cons (.v 11) (.cons (.v 12) (.cons (.k (.int 0)) (.cons (.k (.int 1)) .nil)))))) (.cons (.tup (.cons (.k (.str "h")) (.cons (.v 11) (.cons (.bin .Sub (.v 12) (.k (.int 1))) (.cons (.k (.int 0)) (.cons (.neg (.k (.int 1))) .nil)))))) .nil)))) (.cons (.as false 13 (.bin .Add (.v 13) (.lst (.cons (.tup (.cons (.k (.str "v")) (.cons (.v 11) (.cons (.v 12) (.cons (.k (.int 1)) (.cons (.k (.int 0)) .nil)))))) (.cons (.tup (.cons (.k (.str "v")) (.cons (.bin .Sub (.v 11) (.k (.int 1))) (.cons (.v 12) (.cons (.neg (.k (.int 1))) (.cons (.k (.int 0)) .nil)))))) .nil))))) (.cons (.for_ (.t (.cons (.n 14) (.cons (.n 15) (.cons (.n 16) (.cons (.n 17) (.cons (.n 18) .nil)))))) (.ex (.v 13)) (.cons (.ite (.and (.chn .LtE .LtE (.k (.int 0)) (.bin .Add (.v 11) (.v 17)) (.v 5)) (.cons (.chn .LtE .LtE (.k (.int 0)) (.bin .Add (.v 12) (.v 18)) (.v 6)) (.cons (.inM true (.tup (.cons (.v 14) (.cons (.v 15) (.cons (.v 16) .nil)))) 3) .nil))) (.cons (.app 10 (.tup (.cons (.bin .Add (.v 11) (.v 17)) (.cons (.bin .Add (.v 12) (.v 18)) .nil)))) .nil) .nil) .nil) [14, 15, 16, 17, 18]) .nil)))))) .nil) .nil)) [11, 12, 13, 14, 15, 16, 17, 18]) (.cons (.ret (.lc (.v 20) (.n 20) (.ex (.call 66 (.e (.v 0) .nil))) (.cons (.inM true (.v 20) 9) .nil) [20])) .nil))))))⟩
/-- law (k09): _law_script, _law_town, _law_there, _law_arcs_here, _law_some, _law_due, _law_number, _law_deep, _law_turn, _law_corner, _law_ring, _law_corners_here -/
def df83 : Df := ⟨1, 12, (.cons (.as true 1 (.lst .nil)) (.cons (.as false 2 (.call 17 (.s 0 (.r 1 (.e (.k (.int 6)) .nil))))) (.cons (.par (.cons false 3 (.call 40 (.e (.v 2) .nil)) (.cons false 4 (.call 51 (.e (.v 2) .nil)) .nil))) (.cons (.as false 5 (.lc (.call 82 (.e (.v 2) (.e (.v 3) (.e (.v 10) .nil)))) (.n 10) (.ex (.v 4)) .nil [10])) (.cons (.for_ (.n 6) (.rng1 (.bi .len (.v 4))) (.cons (.ite (.or (.cmp .NotEq (.call 80 (.e (.v 2) (.e (.v 6) .nil))) (.ix (.v 5) (.v 6))) (.cons (.cmp .Eq (.ix (.v 5) (.v 6)) (.lst .nil)) .nil)) (.cons (.ret (.k (.bool false))) .nil) .nil) .nil) [6]) (.cons (.as false 7 (.bi .dict (.lc (.tup (.cons (.v 9) (.cons (.bi .len (.lc (.k (.int 1)) (.n 11) (.ex (.v 5)) (.cons (.cmp .In (.v 9) (.v 11)) .nil) [11])) .nil))) (.n 9) (.ex (.call 66 (.e (.v 2) .nil))) .nil [9]))) (.cons (.for_ (.n 8) (.rng1 (.k (.int 6))) (.cons (.as false 9 (.call 16 (.s 0 (.r 1 (.e (.call 66 (.e (.v 2) .nil)) .nil))))) (.cons (.ite (.not (.call 38 (.e (.call 74 (.e (.v 2) (.e (.v 9) .nil))) (.e (.ix (.v 7) (.v 9)) .nil)))) (.cons (.ret (.k (.bool false))) .nil) .nil) .nil)) [8, 9]) (.cons (.ret (.call 38 (.e (.call 75 (.e (.v 2) .nil)) (.e (.bi .max (.lc (.ix (.v 7) (.v 9)) (.n 9) (.ex (.call 66 (.e (.v 2) .nil))) .nil [9])) .nil)))) .nil))))))))⟩
/-- around (k10): floor, number, some, own, found, k, corners, ring, corner -/
def df84 : Df := ⟨2, 9, (.cons (.as false 2 (.lc (.call 78 (.e (.v 0) (.e (.v 7) .nil))) (.n 7) (.ex (.call 79 (.e (.v 0) (.e (.v 1) .nil)))) .nil [7])) (.cons (.par (.cons false 3 (.ix (.v 2) (.v 1)) (.cons true 4 (.lst .nil) .nil))) (.cons (.for_ (.t (.cons (.n 5) (.cons (.n 6) .nil))) (.enm (.v 2)) (.cons (.ite (.and (.cmp .NotEq (.v 5) (.v 1)) (.cons (.bi .all (.lc (.cmp .In (.v 8) (.v 6)) (.n 8) (.ex (.v 3)) .nil [8])) .nil)) (.cons (.app 4 (.tup (.cons (.bi .len (.v 6)) (.cons (.v 5) .nil)))) .nil) .nil) .nil) [5, 6]) (.cons (.frz 4) (.cons (.ret (.ite (.cmp .NotEq (.v 4) (.lst .nil)) (.ix (.bi .min (.v 4)) (.k (.int 1))) (.k .none))) .nil)))))⟩
/-- _law_turned (k10): _law_floor_there, _law_square, _law_down, _law_across, _law_sign, _law_letters -/
def df85 : Df := ⟨2, 6, (.cons (.unp (.t (.cons (.n 2) (.cons (.n 3) .nil))) (.v 1)) (.cons (.as false 4 (.ite (.cmp .Eq (.ix (.ix (.v 0) (.v 2)) (.v 3)) (.k (.str "a"))) (.k (.str "b")) (.k (.str "a")))) (.cons (.as false 5 (.bin .Add (.bin .Add (.slH (.ix (.v 0) (.v 2)) (.v 3)) (.v 4)) (.slT (.ix (.v 0) (.v 2)) (.bin .Add (.v 3) (.k (.int 1)))))) (.cons (.ret (.bin .Add (.bin .Add (.slH (.v 0) (.v 2)) (.tup (.cons (.v 5) .nil))) (.slT (.v 0) (.bin .Add (.v 2) (.k (.int 1)))))) .nil))))⟩
/-- law (k10): _law_script, _law_town, _law_there, _law_square, _law_some, _law_within, _law_number, _law_ring, _law_cut, _law_corner, _law_holders, _law_another_one, _law_both, _law_due, _law_arc -/
def df86 : Df := ⟨1, 15, (.cons (.as true 1 (.lst .nil)) (.cons (.as false 2 (.call 17 (.s 0 (.r 1 (.e (.k (.int 6)) .nil))))) (.cons (.ite (.cmp .Eq (.call 15 (.s 0 (.r 1 (.e (.k (.int 4)) .nil)))) (.k (.int 0))) (.cons (.as false 2 (.bin .Add (.bin .Mult (.tup (.cons (.k (.str "aaabbb")) .nil)) (.k (.int 3))) (.bin .Mult (.tup (.cons (.k (.str "bbbaaa")) .nil)) (.k (.int 3))))) (.cons (.for_ (.n 3) (.ex (.call 18 (.e (.v 2) .nil))) (.cons (.ite (.cmp .Eq (.call 15 (.s 0 (.r 1 (.e (.k (.int 20)) .nil)))) (.k (.int 0))) (.cons (.as false 2 (.call 85 (.e (.v 2) (.e (.v 3) .nil)))) .nil) .nil) .nil) [3]) .nil)) .nil) (.cons (.as false 4 (.call 48 (.e (.v 2) .nil))) (.cons (.as false 5 (.lc (.call 80 (.e (.v 2) (.e (.v 6) .nil))) (.n 6) (.rng1 (.bi .len (.v 4))) .nil [6])) (.cons (.for_ (.t (.cons (.n 6) (.cons (.n 7) .nil))) (.enm (.v 4)) (.cons (.as true 8 (.lst .nil)) (.cons (.for_ (.n 9) (.ex (.ix (.v 5) (.v 6))) (.cons (.ext 8 (.lc (.v 14) (.n 14) (.ex (.call 65 (.e (.v 2) (.e (.v 9) .nil)))) (.cons (.cmp .In (.v 14) (.v 7)) .nil) [14])) .nil) [9]) (.cons (.ite (.cmp .NotEq (.bin .Sub (.bin .Mult (.k (.int 2)) (.lenM 8)) (.bi .len (.v 7))) (.k (.int 4))) (.cons (.ret (.k (.bool false))) .nil) .nil) (.cons (.as true 10 (.lst .nil)) (.cons (.for_ (.n 11) (.rng1 (.bi .len (.v 4))) (.cons (.as false 12 (.lc (.v 9) (.n 9) (.ex (.ix (.v 5) (.v 6))) (.cons (.cmp .In (.v 9) (.ix (.v 5) (.v 11))) .nil) [9])) (.cons (.ite (.and (.cmp .NotEq (.v 12) (.lst .nil)) (.cons (.cmp .NotEq (.v 12) (.ix (.v 5) (.v 6))) (.cons (.cmp .NotEq (.bi .sorted (.v 12)) (.ix (.v 5) (.v 11))) .nil))) (.cons (.ret (.k (.bool false))) .nil) .nil) (.cons (.ite (.and (.cmp .NotEq (.v 11) (.v 6)) (.cons (.cmp .Eq (.v 12) (.ix (.v 5) (.v 6))) .nil)) (.cons (.app 10 (.tup (.cons (.bi .len (.ix (.v 5) (.v 11))) (.cons (.v 11) .nil)))) .nil) .nil) .nil))) [9, 11, 12]) (.cons (.frz 10) (.cons (.as false 13 (.ite (.cmp .NotEq (.v 10) (.lst .nil)) (.ix (.bi .min (.v 10)) (.k (.int 1))) (.k .none))) (.cons (.ite (.or (.cmp .NotEq (.call 84 (.e (.v 2) (.e (.v 6) .nil))) (.v 13)) (.cons (.cmp .Lt (.call 74 (.e (.v 2) (.e (.ix (.ix (.v 5) (.v 6)) (.k (.int 0))) .nil))) (.bin .Add (.k (.int 1)) (.bi .len (.v 10)))) .nil)) (.cons (.ret (.k (.bool false))) .nil) .nil) .nil)))))))) [6, 7, 8, 9, 10, 11, 12, 13]) (.cons (.ret (.k (.bool true))) .nil)))))))⟩
/-- law (k11): _law_script, _law_town, _law_there, _law_many, _law_bad, _law_ring, _law_what -/
def df88 : Df := ⟨1, 7, (.cons (.as true 1 (.lst .nil)) (.cons (.as false 2 (.call 17 (.s 0 (.r 1 (.e (.k (.int 5)) .nil))))) (.cons (.ite (.cmp .NotEq (.lc (.call 87 (.e (.v 6) (.e (.call 20 (.s 0 (.r 1 .nil))) (.e (.k .none) .nil)))) (.n 6) (.rng1 (.k (.int 2))) .nil [6]) (.bin .Mult (.lst (.cons (.tup (.cons (.k (.str "refused")) (.cons (.k (.int 0)) .nil))) .nil)) (.k (.int 2)))) (.cons (.ret (.k (.bool false))) .nil) .nil) (.cons (.as false 3 (.bi .len (.call 51 (.e (.v 2) .nil)))) (.cons (.for_ (.n 4) (.ex (.lst (.cons (.k .none) (.cons (.neg (.k (.int 1))) (.cons (.k (.str "0")) (.cons (.v 3) (.cons (.bin .Add (.v 3) (.k (.int 3))) (.cons (.lst (.cons (.k (.int 0)) .nil)) .nil)))))))) (.cons (.ite (.cmp .NotEq (.lc (.call 87 (.e (.v 6) (.e (.v 2) (.e (.v 4) .nil)))) (.n 6) (.rng1 (.k (.int 2))) .nil [6]) (.bin .Mult (.lst (.cons (.tup (.cons (.k (.str "refused")) (.cons (.k (.int 3)) .nil))) .nil)) (.k (.int 2)))) (.cons (.ret (.k (.bool false))) .nil) .nil) .nil) [4]) (.cons (.as false 5 (.tup (.cons (.k (.str "ab")) (.cons (.k (.str "ba")) .nil)))) (.cons (.ite (.cmp .NotEq (.lc (.call 87 (.e (.v 6) (.e (.v 5) (.e (.k (.bool true)) .nil)))) (.n 6) (.rng1 (.k (.int 2))) .nil [6]) (.bin .Mult (.lst (.cons (.tup (.cons (.k (.str "refused")) (.cons (.k (.int 3)) .nil))) .nil)) (.k (.int 2)))) (.cons (.ret (.k (.bool false))) .nil) .nil) (.cons (.ite (.cmp .NotEq (.lc (.call 87 (.e (.v 6) (.e (.v 5) (.e (.k (.bool false)) .nil)))) (.n 6) (.rng1 (.k (.int 2))) .nil [6]) (.bin .Mult (.lst (.cons (.tup (.cons (.k (.str "refused")) (.cons (.k (.int 3)) .nil))) .nil)) (.k (.int 2)))) (.cons (.ret (.k (.bool false))) .nil) .nil) (.cons (.ret (.and (.cmp .Eq (.call 87 (.e (.k (.int 0)) (.e (.v 5) (.e (.k (.int 0)) .nil)))) (.lst (.cons (.tup (.cons (.k (.int 1)) (.cons (.k (.int 1)) .nil))) .nil))) (.cons (.cmp .Is (.call 87 (.e (.k (.int 1)) (.e (.v 5) (.e (.k (.int 0)) .nil)))) (.k .none)) .nil))) .nil)))))))))⟩
/-- turned_at (k12): floor, square, down, across, row -/
def df89 : Df := ⟨2, 5, (.cons (.unp (.t (.cons (.n 2) (.cons (.n 3) .nil))) (.v 1)) (.cons (.as false 4 (.bin .Add (.bin .Add (.slH (.ix (.v 0) (.v 2)) (.v 3)) (.call 10 (.e (.call 7 (.e (.v 0) (.e (.v 1) .nil))) .nil))) (.slT (.ix (.v 0) (.v 2)) (.bin .Add (.v 3) (.k (.int 1)))))) (.cons (.ret (.bin .Add (.bin .Add (.slH (.v 0) (.v 2)) (.tup (.cons (.v 4) .nil))) (.slT (.v 0) (.bin .Add (.v 2) (.k (.int 1)))))) .nil)))⟩
/-- all_turned (k12): floor, squares, square -/
def df90 : Df := ⟨2, 3, (.cons (.for_ (.n 2) (.ex (.v 1)) (.cons (.as false 0 (.call 89 (.e (.v 0) (.e (.v 2) .nil)))) .nil) [2]) (.cons (.ret (.v 0)) .nil))⟩
/-- turned (k12): floor, squares, square, one, another -/
def df91 : Df := ⟨2, 5, (.cons (.ex (.call 3 (.e (.v 0) .nil))) (.cons (.ite (.or (.not (.isi (.v 1) .list)) (.cons (.not (.bi .all (.lc (.call 5 (.e (.v 0) (.e (.v 2) .nil))) (.n 2) (.ex (.v 1)) .nil [2]))) .nil)) (.cons (.rse "NoSquares" true (.k (.str "no squares"))) .nil) .nil) (.cons (.ite (.not (.bi .all (.lc (.cmp .Lt (.v 3) (.v 4)) (.t (.cons (.n 3) (.cons (.n 4) .nil))) (.zip (.v 1) (.slT (.v 1) (.k (.int 1)))) .nil [3, 4]))) (.cons (.rse "NoSquares" true (.k (.str "not rising"))) .nil) .nil) (.cons (.ret (.call 90 (.e (.v 0) (.e (.v 1) .nil)))) .nil))))⟩
/-- law (k12): _law_script, _law_town, _law_there, _law_lists, _law_turn, _law_much, _law_due, _law_square, _law_kept, _law_alone -/
def df92 : Df := ⟨1, 10, (.cons (.as true 1 (.lst .nil)) (.cons (.as false 2 (.call 17 (.s 0 (.r 1 (.e (.k (.int 6)) .nil))))) (.cons (.as true 3 (.lst .nil)) (.cons (.for_ (.n 4) (.rng1 (.k (.int 2))) (.cons (.as false 5 (.call 16 (.s 0 (.r 1 (.e (.lst (.cons (.k (.int 1)) (.cons (.k (.int 2)) (.cons (.k (.int 5)) (.cons (.k (.int 40)) .nil))))) .nil))))) (.cons (.app 3 (.lc (.v 7) (.n 7) (.ex (.call 18 (.e (.v 2) .nil))) (.cons (.cmp .Eq (.call 15 (.s 0 (.r 1 (.e (.v 5) .nil)))) (.k (.int 0))) .nil) [7])) .nil)) [4, 5, 7]) (.cons (.as false 6 (.v 2)) (.cons (.for_ (.n 7) (.ex (.ixM 3 (.k (.int 0)))) (.cons (.as false 6 (.call 85 (.e (.v 6) (.e (.v 7) .nil)))) .nil) [7]) (.cons (.as false 8 (.bi .list (.ixM 3 (.k (.int 0))))) (.cons (.ite (.or (.cmp .NotEq (.call 91 (.e (.v 2) (.e (.ixM 3 (.k (.int 0))) .nil))) (.v 6)) (.cons (.cmp .NotEq (.ixM 3 (.k (.int 0))) (.v 8)) (.cons (.cmp .NotEq (.call 91 (.e (.v 6) (.e (.ixM 3 (.k (.int 0))) .nil))) (.v 2)) .nil))) (.cons (.ret (.k (.bool false))) .nil) .nil) (.cons (.as false 9 (.lc (.v 7) (.n 7) (.ex (.call 18 (.e (.v 2) .nil))) (.cons (.cmp .NotEq (.cmp .In (.v 7) (.ixM 3 (.k (.int 0)))) (.cmp .In (.v 7) (.ixM 3 (.k (.int 1))))) .nil) [7])) (.cons (.ite (.cmp .NotEq (.call 91 (.e (.call 91 (.e (.v 2) (.e (.ixM 3 (.k (.int 0))) .nil))) (.e (.ixM 3 (.k (.int 1))) .nil))) (.call 91 (.e (.v 2) (.e (.v 9) .nil)))) (.cons (.ret (.k (.bool false))) .nil) .nil) (.cons (.ret (.and (.cmp .Eq (.call 91 (.e (.v 2) (.e (.call 18 (.e (.v 2) .nil)) .nil))) (.call 12 (.e (.v 2) .nil))) (.cons (.cmp .Eq (.call 91 (.e (.v 2) (.e (.lst .nil) .nil))) (.v 2)) .nil))) .nil)))))))))))⟩
/-- change (k13): floor, square -/
def df93 : Df := ⟨2, 2, (.cons (.ex (.call 3 (.e (.v 0) .nil))) (.cons (.ex (.call 6 (.e (.v 0) (.e (.v 1) .nil)))) (.cons (.ret (.bin .Sub (.bi .len (.call 47 (.e (.call 89 (.e (.v 0) (.e (.v 1) .nil))) .nil))) (.bi .len (.call 47 (.e (.v 0) .nil))))) .nil)))⟩
/-- law (k13): _law_script, _law_town, _law_there, _law_some, _law_ways_here, _law_turn, _law_square, _law_one, _law_two, _law_lines, _law_due, _law_closed, _law_later, _law_arcs_here, _law_last -/
def df94 : Df := ⟨1, 15, (.cons (.as true 1 (.lst .nil)) (.cons (.as false 2 (.call 17 (.s 0 (.r 1 (.e (.k (.int 6)) .nil))))) (.cons (.as false 3 (.call 51 (.e (.v 2) .nil))) (.cons (.as false 4 (.lc (.v 13) (.t (.cons (.n 13) (.cons (.n 14) .nil))) (.ex (.call 44 (.e (.v 2) .nil))) .nil [13, 14])) (.cons (.for_ (.n 5) (.rng1 (.k (.int 4))) (.cons (.as false 6 (.call 16 (.s 0 (.r 1 (.e (.call 18 (.e (.v 2) .nil)) .nil))))) (.cons (.par (.cons false 7 (.bin .Add (.v 6) (.tup (.cons (.k (.int 0)) .nil))) (.cons false 8 (.bin .Add (.v 6) (.tup (.cons (.k (.int 1)) .nil))) .nil))) (.cons (.as false 9 (.lc (.v 13) (.n 13) (.ex (.bin .Add (.v 3) (.v 4))) (.cons (.cmp .In (.v 7) (.v 13)) .nil) [13])) (.cons (.ite (.cmp .In (.v 8) (.ix (.v 9) (.k (.int 0)))) (.cons (.as false 10 (.k (.int 1))) .nil) (.cons (.as false 11 (.lc (.v 13) (.n 13) (.ex (.v 3)) (.cons (.or (.cmp .In (.v 7) (.v 13)) (.cons (.cmp .In (.v 8) (.v 13)) .nil)) .nil) [13])) (.cons (.as false 10 (.ite (.cmp .Eq (.v 11) (.lst .nil)) (.k (.int 0)) (.neg (.k (.int 1))))) .nil))) (.cons (.ite (.not (.call 38 (.e (.call 93 (.e (.v 2) (.e (.v 6) .nil))) (.e (.v 10) .nil)))) (.cons (.ret (.k (.bool false))) .nil) .nil) (.cons (.as false 12 (.call 91 (.e (.v 2) (.e (.lst (.cons (.v 6) .nil)) .nil)))) (.cons (.ite (.or (.cmp .NotEq (.bi .len (.call 48 (.e (.v 12) .nil))) (.bin .Add (.bi .len (.call 48 (.e (.v 2) .nil))) (.v 10))) (.cons (.cmp .NotEq (.call 93 (.e (.v 12) (.e (.v 6) .nil))) (.bin .Sub (.k (.int 0)) (.v 10))) .nil)) (.cons (.ret (.k (.bool false))) .nil) .nil) .nil))))))) [5, 6, 7, 8, 9, 10, 11, 12]) (.cons (.ret (.k (.bool true))) .nil))))))⟩
/-- is_floor (k14): thing, row -/
def df95 : Df := ⟨1, 2, (.cons (.ite (.or (.not (.isi (.v 0) .tuple)) (.cons (.not (.chn .LtE .LtE (.k (.int 1)) (.bi .len (.v 0)) (.g "MOST_floors" (.int 6)))) .nil)) (.cons (.ret (.k (.bool false))) .nil) .nil) (.cons (.ite (.or (.not (.isi (.ix (.v 0) (.k (.int 0))) .str)) (.cons (.not (.chn .LtE .LtE (.k (.int 1)) (.bi .len (.ix (.v 0) (.k (.int 0)))) (.g "MOST_floors" (.int 6)))) .nil)) (.cons (.ret (.k (.bool false))) .nil) .nil) (.cons (.ret (.bi .all (.lc (.call 1 (.e (.v 1) (.e (.bi .len (.ix (.v 0) (.k (.int 0)))) .nil))) (.n 1) (.ex (.v 0)) .nil [1]))) .nil)))⟩
/-- choices (k14): some, many, made, number, one, rest -/
def df96 : Df := ⟨2, 6, (.cons (.ite (.cmp .Eq (.v 1) (.k (.int 0))) (.cons (.ret (.lst (.cons (.lst .nil) .nil))) .nil) .nil) (.cons (.as true 2 (.lst .nil)) (.cons (.for_ (.t (.cons (.n 3) (.cons (.n 4) .nil))) (.enm (.v 0)) (.cons (.ext 2 (.lc (.bin .Add (.lst (.cons (.v 4) .nil)) (.v 5)) (.n 5) (.ex (.call 96 (.e (.slT (.v 0) (.bin .Add (.v 3) (.k (.int 1)))) (.e (.bin .Sub (.v 1) (.k (.int 1))) .nil)))) .nil [5])) .nil) [3, 4]) (.cons (.frz 2) (.cons (.ret (.v 2)) .nil)))))⟩
/-- need_few (k14): floor -/
def df97 : Df := ⟨1, 1, (.cons (.ite (.cmp .Gt (.bi .len (.call 46 (.e (.v 0) .nil))) (.g "MOST_turning" (.int 10))) (.cons (.rse "TooMany" true (.k (.str "too many squares"))) .nil) .nil) .nil)⟩
/-- _law_joined (k14): _law_there, _law_some, _law_last -/
def df100 : Df := ⟨1, 3, (.cons (.ret (.lc (.v 2) (.t (.cons (.n 1) (.cons (.n 2) .nil))) (.ex (.call 44 (.e (.v 0) .nil))) .nil [1, 2])) .nil)⟩
/-- law (k14): _law_script, _law_town, _law_there, _law_squares_here, _law_best, _law_mask, _law_some, _law_later, _law_square, _law_told, _law_wish, _law_one, _law_two, _law_found, _law_kept, _law_letters, _law_k -/
def df101 : Df := ⟨1, 17, (.cons (.as true 1 (.lst .nil)) (.cons (.as false 2 (.call 17 (.s 0 (.r 1 (.e (.k (.int 6)) .nil))))) (.cons (.as false 2 (.bi .tuple (.lc (.slH (.v 15) (.mm true (.k (.int 1)) (.bin .FloorDiv (.k (.int 8)) (.bi .len (.v 2))))) (.n 15) (.ex (.v 2)) .nil [15]))) (.cons (.par (.cons false 3 (.call 18 (.e (.v 2) .nil)) (.cons true 4 .dic0 .nil))) (.cons (.for_ (.n 5) (.rng1 (.bin .LShift (.k (.int 1)) (.bi .len (.v 3)))) (.cons (.as false 6 (.lc (.v 8) (.t (.cons (.n 16) (.cons (.n 8) .nil))) (.enm (.v 3)) (.cons (.cmp .Eq (.bin .BitAnd (.bin .RShift (.v 5) (.v 16)) (.k (.int 1))) (.k (.int 1))) .nil) [16, 8])) (.cons (.as false 7 (.v 2)) (.cons (.for_ (.n 8) (.ex (.v 6)) (.cons (.as false 7 (.call 85 (.e (.v 7) (.e (.v 8) .nil)))) .nil) [8]) (.cons (.as false 9 (.bi .tuple (.call 100 (.e (.v 7) .nil)))) (.cons (.set 4 (.v 9) (.mm false (.getM 4 (.v 9) (.tup (.cons (.bi .len (.v 6)) (.cons (.v 6) .nil)))) (.tup (.cons (.bi .len (.v 6)) (.cons (.v 6) .nil))))) .nil))))) [5, 6, 7, 8, 9]) (.cons (.frz 4) (.cons (.as true 10 (.bi .list (.call 16 (.s 0 (.r 1 (.e (.bi .sorted (.bi .list (.v 4))) .nil)))))) (.cons (.ite (.cmp .Eq (.call 15 (.s 0 (.r 1 (.e (.k (.int 3)) .nil)))) (.k (.int 0))) (.cons (.par (.cons false 11 (.call 15 (.s 0 (.r 1 (.e (.lenM 10) .nil)))) (.cons false 12 (.call 15 (.s 0 (.r 1 (.e (.lenM 10) .nil)))) .nil))) (.cons (.mset [.s 10 (.v 11), .s 10 (.v 12)] (.cons (.ixM 10 (.v 12)) (.cons (.ixM 10 (.v 11)) .nil))) .nil)) .nil) (.cons (.frz 10) (.cons (.par (.cons false 13 (.call 99 (.e (.v 2) (.e (.v 10) .nil))) (.cons false 14 (.bi .list (.v 10)) .nil))) (.cons (.ite (.or (.cmp .NotEq (.v 13) (.ite (.cmp .In (.bi .tuple (.v 10)) (.v 4)) (.ix (.ix (.v 4) (.bi .tuple (.v 10))) (.k (.int 1))) (.k .none))) (.cons (.cmp .NotEq (.v 10) (.v 14)) .nil)) (.cons (.ret (.k (.bool false))) .nil) .nil) (.cons (.ret (.and (.cmp .Eq (.call 99 (.e (.v 2) (.e (.call 37 (.e (.v 2) .nil)) .nil))) (.lst .nil)) (.cons (.or (.cmp .Is (.v 13) (.k .none)) (.cons (.cmp .Eq (.call 37 (.e (.call 91 (.e (.v 2) (.e (.v 13) .nil))) .nil)) (.v 10)) .nil)) .nil))) .nil))))))))))))⟩
/-- law (k15): _law_script, _law_town, _law_there, _law_some, _law_squares_here, _law_many, _law_best, _law_mask, _law_later, _law_square, _law_found, _law_k -/
def df103 : Df := ⟨1, 12, (.cons (.as true 1 (.lst .nil)) (.cons (.as false 2 (.call 17 (.s 0 (.r 1 (.e (.k (.int 3)) .nil))))) (.cons (.ite (.cmp .Eq (.call 15 (.s 0 (.r 1 (.e (.k (.int 3)) .nil)))) (.k (.int 0))) (.cons (.as false 3 (.lst (.cons (.tup (.cons (.k (.str "abab")) (.cons (.k (.str "baba")) .nil))) (.cons (.tup (.cons (.k (.str "aabb")) (.cons (.k (.str "bbaa")) .nil))) (.cons (.tup (.cons (.k (.str "ab")) (.cons (.k (.str "ba")) (.cons (.k (.str "ab")) (.cons (.k (.str "ab")) .nil))))) (.cons (.tup (.cons (.k (.str "aaaa")) (.cons (.k (.str "aaaa")) .nil))) .nil)))))) (.cons (.as false 2 (.call 16 (.s 0 (.r 1 (.e (.v 3) .nil))))) .nil)) .nil) (.cons (.par (.cons false 4 (.call 18 (.e (.v 2) .nil)) (.cons false 5 (.call 15 (.s 0 (.r 1 (.e (.k (.int 4)) .nil)))) (.cons false 6 (.k .none) .nil)))) (.cons (.for_ (.n 7) (.rng1 (.bin .LShift (.k (.int 1)) (.bi .len (.v 4)))) (.cons (.as false 3 (.lc (.v 9) (.t (.cons (.n 11) (.cons (.n 9) .nil))) (.enm (.v 4)) (.cons (.cmp .Eq (.bin .BitAnd (.bin .RShift (.v 7) (.v 11)) (.k (.int 1))) (.k (.int 1))) .nil) [11, 9])) (.cons (.ite (.or (.cmp .Is (.v 6) (.k .none)) (.cons (.cmp .Lt (.tup (.cons (.bi .len (.v 3)) (.cons (.v 3) .nil))) (.v 6)) .nil)) (.cons (.as false 8 (.v 2)) (.cons (.for_ (.n 9) (.ex (.v 3)) (.cons (.as false 8 (.call 85 (.e (.v 8) (.e (.v 9) .nil)))) .nil) [9]) (.cons (.ite (.cmp .Eq (.bi .len (.call 51 (.e (.v 8) .nil))) (.v 5)) (.cons (.as false 6 (.tup (.cons (.bi .len (.v 3)) (.cons (.v 3) .nil)))) .nil) .nil) .nil))) .nil) .nil)) [3, 7, 8, 9]) (.cons (.as false 10 (.call 102 (.e (.v 2) (.e (.v 5) .nil)))) (.cons (.ite (.cmp .NotEq (.v 10) (.ite (.cmp .IsNot (.v 6) (.k .none)) (.ix (.v 6) (.k (.int 1))) (.k .none))) (.cons (.ret (.k (.bool false))) .nil) .nil) (.cons (.ite (.cmp .NotEq (.call 102 (.e (.v 2) (.e (.bi .len (.call 48 (.e (.v 2) .nil))) .nil))) (.lst .nil)) (.cons (.ret (.k (.bool false))) .nil) .nil) (.cons (.ret (.or (.cmp .Is (.v 10) (.k .none)) (.cons (.cmp .Eq (.bi .len (.call 48 (.e (.call 91 (.e (.v 2) (.e (.v 10) .nil))) .nil))) (.v 5)) .nil))) .nil)))))))))⟩
/-- law (k16): _law_script, _law_town, _law_there, _law_odd, _law_bad, _law_many, _law_some, _law_wide, _law_ten, _law_what -/
def df105 : Df := ⟨1, 10, (.cons (.as true 1 (.lst .nil)) (.cons (.as false 2 (.call 17 (.s 0 (.r 1 (.e (.k (.int 5)) .nil))))) (.cons (.ite (.cmp .NotEq (.lc (.call 104 (.e (.v 9) (.e (.call 20 (.s 0 (.r 1 .nil))) (.e (.k .none) .nil)))) (.n 9) (.rng1 (.k (.int 4))) .nil [9]) (.bin .Mult (.lst (.cons (.tup (.cons (.k (.str "refused")) (.cons (.k (.int 0)) .nil))) .nil)) (.k (.int 4)))) (.cons (.ret (.k (.bool false))) .nil) .nil) (.cons (.as false 3 (.call 21 (.s 0 (.r 1 (.e (.v 2) .nil))))) (.cons (.ite (.or (.cmp .NotEq (.call 104 (.e (.k (.int 1)) (.e (.v 2) (.e (.v 3) .nil)))) (.tup (.cons (.k (.str "square")) (.cons (.v 3) .nil)))) (.cons (.cmp .NotEq (.call 104 (.e (.k (.int 0)) (.e (.v 2) (.e (.lst (.cons (.v 3) .nil)) .nil)))) (.tup (.cons (.k (.str "refused")) (.cons (.k (.int 5)) .nil)))) .nil)) (.cons (.ret (.k (.bool false))) .nil) .nil) (.cons (.for_ (.n 4) (.ex (.lst (.cons (.k .none) (.cons (.k (.int 5)) (.cons (.tup (.cons (.tup (.cons (.k (.int 0)) (.cons (.k (.int 0)) .nil))) .nil)) (.cons (.lst (.cons (.tup (.cons (.k (.int 0)) (.cons (.k (.int 0)) .nil))) (.cons (.tup (.cons (.k (.int 0)) (.cons (.k (.int 0)) .nil))) .nil))) (.cons (.lst (.cons (.tup (.cons (.k (.int 0)) (.cons (.k (.int 0)) .nil))) (.cons (.v 3) .nil))) (.cons (.lst (.cons (.k (.int 0)) .nil)) (.cons (.k (.str "")) (.cons (.tup (.cons (.k (.int 0)) (.cons (.k (.int 0)) .nil))) .nil)))))))))) (.cons (.ite (.cmp .NotEq (.call 104 (.e (.k (.int 0)) (.e (.v 2) (.e (.v 4) .nil)))) (.tup (.cons (.k (.str "refused")) (.cons (.k (.int 5)) .nil)))) (.cons (.ret (.k (.bool false))) .nil) .nil) .nil) [4]) (.cons (.ite (.and (.cmp .Gt (.bi .len (.call 18 (.e (.v 2) .nil))) (.k (.int 1))) (.cons (.cmp .NotEq (.call 104 (.e (.k (.int 0)) (.e (.v 2) (.e (.rev (.call 18 (.e (.v 2) .nil))) .nil)))) (.tup (.cons (.k (.str "refused")) (.cons (.k (.int 5)) .nil)))) .nil)) (.cons (.ret (.k (.bool false))) .nil) .nil) (.cons (.as false 5 (.bin .Mult (.k (.int 2)) (.bin .Add (.bi .len (.v 2)) (.bi .len (.ix (.v 2) (.k (.int 0))))))) (.cons (.as false 6 (.lst (.cons (.k .none) (.cons (.k (.int 5)) (.cons (.lst .nil) (.cons (.bin .Mult (.lst (.cons (.k (.int 0)) .nil)) (.bin .Sub (.v 5) (.k (.int 1)))) (.cons (.bin .Mult (.lst (.cons (.k (.int 0)) .nil)) (.bin .Add (.v 5) (.k (.int 1)))) (.cons (.bin .Mult (.tup (.cons (.k (.int 0)) .nil)) (.v 5)) (.cons (.bin .Mult (.lst (.cons (.v 5) .nil)) (.v 5)) (.cons (.bin .Mult (.lst (.cons (.neg (.k (.int 1))) .nil)) (.v 5)) (.cons (.bin .Mult (.lst (.cons (.k .none) .nil)) (.v 5)) .nil))))))))))) (.cons (.for_ (.n 4) (.ex (.v 6)) (.cons (.ite (.cmp .NotEq (.call 104 (.e (.k (.int 2)) (.e (.v 2) (.e (.v 4) .nil)))) (.tup (.cons (.k (.str "end")) (.cons (.v 4) .nil)))) (.cons (.ret (.k (.bool false))) .nil) .nil) .nil) [4]) (.cons (.for_ (.n 4) (.ex (.lst (.cons (.k .none) (.cons (.neg (.k (.int 1))) (.cons (.k (.int 37)) (.cons (.k (.str "1")) (.cons (.k (.bool true)) (.cons (.lst (.cons (.k (.int 1)) .nil)) .nil)))))))) (.cons (.ite (.cmp .NotEq (.call 104 (.e (.k (.int 3)) (.e (.v 2) (.e (.v 4) .nil)))) (.tup (.cons (.k (.str "refused")) (.cons (.k (.int 9)) .nil)))) (.cons (.ret (.k (.bool false))) .nil) .nil) .nil) [4]) (.cons (.as false 7 (.tup (.cons (.k (.str "abaaba")) (.cons (.k (.str "aaabab")) .nil)))) (.cons (.ite (.or (.cmp .NotEq (.call 104 (.e (.k (.int 2)) (.e (.v 7) (.e (.bin .Mult (.lst (.cons (.k (.int 0)) .nil)) (.k (.int 16))) .nil)))) (.tup (.cons (.k (.str "refused")) (.cons (.k (.int 12)) .nil)))) (.cons (.cmp .NotEq (.call 104 (.e (.k (.int 3)) (.e (.v 7) (.e (.k (.int 36)) .nil)))) (.tup (.cons (.k (.str "refused")) (.cons (.k (.int 12)) .nil)))) .nil)) (.cons (.ret (.k (.bool false))) .nil) .nil) (.cons (.as false 8 (.tup (.cons (.bin .Add (.bin .Mult (.k (.str "ab")) (.k (.int 2))) (.k (.str "a"))) (.cons (.bin .Add (.bin .Mult (.k (.str "ba")) (.k (.int 2))) (.k (.str "b"))) .nil)))) (.cons (.ite (.or (.cmp .NotEq (.call 104 (.e (.k (.int 3)) (.e (.v 8) (.e (.k (.int 2)) .nil)))) (.lst .nil)) (.cons (.cmp .NotEq (.call 104 (.e (.k (.int 2)) (.e (.v 8) (.e (.lst (.cons (.k (.int 13)) (.cons (.k (.int 2)) (.cons (.k (.int 1)) (.cons (.k (.int 4)) (.cons (.k (.int 3)) (.cons (.k (.int 6)) (.cons (.k (.int 5)) (.cons (.k (.int 8)) (.cons (.k (.int 7)) (.cons (.k (.int 10)) (.cons (.k (.int 9)) (.cons (.k (.int 12)) (.cons (.k (.int 11)) (.cons (.k (.int 0)) .nil))))))))))))))) .nil)))) (.lst .nil)) .nil)) (.cons (.ret (.k (.bool false))) .nil) .nil) (.cons (.ret (.and (.cmp .Eq (.call 104 (.e (.k (.int 3)) (.e (.tup (.cons (.k (.str "aab")) .nil)) (.e (.k (.int 0)) .nil)))) (.lst .nil)) (.cons (.cmp .Is (.call 104 (.e (.k (.int 3)) (.e (.tup (.cons (.k (.str "aab")) .nil)) (.e (.k (.int 36)) .nil)))) (.k .none)) (.cons (.cmp .Is (.call 104 (.e (.k (.int 2)) (.e (.tup (.cons (.k (.str "a")) .nil)) (.e (.bin .Mult (.lst (.cons (.k (.int 0)) .nil)) (.k (.int 4))) .nil)))) (.k .none)) .nil)))) .nil))))))))))))))))⟩
/-- need_size (k17): rows, columns -/
def df106 : Df := ⟨2, 2, (.cons (.ite (.or (.not (.call 0 (.e (.v 0) (.e (.k (.int 1)) (.e (.g "MOST" (.int 6)) .nil))))) (.cons (.not (.call 0 (.e (.v 1) (.e (.k (.int 1)) (.e (.g "MOST" (.int 6)) .nil))))) (.cons (.cmp .Gt (.bin .Mult (.v 0) (.v 1)) (.g "SQUARES" (.int 10))) .nil))) (.cons (.rse "NoSize" true (.k (.str "no size"))) .nil) .nil) .nil)⟩
/-- all_rows (k17): columns, made, turn, longer, row -/
def df107 : Df := ⟨1, 5, (.cons (.as false 1 (.lst (.cons (.k (.str "")) .nil))) (.cons (.for_ (.n 2) (.rng1 (.v 0)) (.cons (.as true 3 (.lst .nil)) (.cons (.for_ (.n 4) (.ex (.v 1)) (.cons (.ext 3 (.lst (.cons (.bin .Add (.v 4) (.k (.str "a"))) (.cons (.bin .Add (.v 4) (.k (.str "b"))) .nil)))) .nil) [4]) (.cons (.frz 3) (.cons (.as false 1 (.v 3)) .nil)))) [2, 3, 4]) (.cons (.ret (.v 1)) .nil)))⟩
/-- all_floors (k17): rows, columns, made, turn, longer, floor, row -/
def df108 : Df := ⟨2, 7, (.cons (.as false 2 (.lst (.cons (.tup .nil) .nil))) (.cons (.for_ (.n 3) (.rng1 (.v 0)) (.cons (.as true 4 (.lst .nil)) (.cons (.for_ (.n 5) (.ex (.v 2)) (.cons (.ext 4 (.lc (.bin .Add (.v 5) (.tup (.cons (.v 6) .nil))) (.n 6) (.ex (.call 107 (.e (.v 1) .nil))) .nil [6])) .nil) [5]) (.cons (.frz 4) (.cons (.as false 2 (.v 4)) .nil)))) [3, 4, 5]) (.cons (.ret (.v 2)) .nil)))⟩
/-- with_rings (k17): rows, columns, found, floor, many -/
def df109 : Df := ⟨2, 5, (.cons (.ex (.call 106 (.e (.v 0) (.e (.v 1) .nil)))) (.cons (.as false 2 (.lc (.bi .len (.call 47 (.e (.v 3) .nil))) (.n 3) (.ex (.call 108 (.e (.v 0) (.e (.v 1) .nil)))) .nil [3])) (.cons (.ret (.lc (.me .count (.v 2) (.v 4)) (.n 4) (.rng1 (.bin .Add (.bi .max (.v 2)) (.k (.int 1)))) .nil [4])) .nil)))⟩
/-- most_rings (k17): rows, columns, some, floor -/
def df110 : Df := ⟨2, 4, (.cons (.ex (.call 106 (.e (.v 0) (.e (.v 1) .nil)))) (.cons (.as false 2 (.lc (.tup (.cons (.bin .Sub (.k (.int 0)) (.bi .len (.call 47 (.e (.v 3) .nil)))) (.cons (.v 3) .nil))) (.n 3) (.ex (.call 108 (.e (.v 0) (.e (.v 1) .nil)))) .nil [3])) (.cons (.ret (.tup (.cons (.bin .Sub (.k (.int 0)) (.ix (.bi .min (.v 2)) (.k (.int 0)))) (.cons (.ix (.bi .min (.v 2)) (.k (.int 1))) .nil)))) .nil)))⟩
/-- _law_all (k17): _law_tall, _law_wide, _law_made, _law_number, _law_bits, _law_k -/
def df111 : Df := ⟨2, 6, (.cons (.as true 2 (.lst .nil)) (.cons (.for_ (.n 3) (.rng1 (.bin .LShift (.k (.int 1)) (.bin .Mult (.v 0) (.v 1)))) (.cons (.as false 4 (.me .join (.k (.str "")) (.lc (.ix (.k (.str "ab")) (.bin .BitAnd (.bin .RShift (.v 3) (.bin .Sub (.bin .Sub (.bin .Mult (.v 0) (.v 1)) (.k (.int 1))) (.v 5))) (.k (.int 1)))) (.n 5) (.rng1 (.bin .Mult (.v 0) (.v 1))) .nil [5]))) (.cons (.app 2 (.bi .tuple (.lc (.slB (.v 4) (.bin .Mult (.v 5) (.v 1)) (.bin .Mult (.bin .Add (.v 5) (.k (.int 1))) (.v 1))) (.n 5) (.rng1 (.v 0)) .nil [5]))) .nil)) [3, 4]) (.cons (.frz 2) (.cons (.ret (.v 2)) .nil))))⟩
/-- with_ends (k18): rows, columns, found, floor, told -/
def df113 : Df := ⟨2, 5, (.cons (.ex (.call 106 (.e (.v 0) (.e (.v 1) .nil)))) (.cons (.as true 2 .dic0) (.cons (.for_ (.n 3) (.ex (.call 108 (.e (.v 0) (.e (.v 1) .nil)))) (.cons (.as false 4 (.bi .tuple (.call 36 (.e (.v 3) .nil)))) (.cons (.set 2 (.v 4) (.bin .Add (.getM 2 (.v 4) (.k (.int 0))) (.k (.int 1)))) .nil)) [3, 4]) (.cons (.frz 2) (.cons (.ret (.lc (.tup (.cons (.v 4) (.cons (.ix (.v 2) (.v 4)) .nil))) (.n 4) (.ex (.bi .sorted (.bi .list (.v 2)))) .nil [4])) .nil)))))⟩
/-- _law_all (k18): _law_tall, _law_wide, _law_made, _law_number, _law_bits, _law_k -/
def df114 : Df := ⟨2, 6, (.cons (.as true 2 (.lst .nil)) (.cons (.for_ (.n 3) (.rng1 (.bin .LShift (.k (.int 1)) (.bin .Mult (.v 0) (.v 1)))) (.cons (.as false 4 (.me .join (.k (.str "")) (.lc (.ix (.k (.str "ab")) (.bin .BitAnd (.bin .RShift (.v 3) (.v 5)) (.k (.int 1)))) (.n 5) (.rng1 (.bin .Mult (.v 0) (.v 1))) .nil [5]))) (.cons (.app 2 (.bi .tuple (.lc (.slB (.v 4) (.bin .Mult (.v 5) (.v 1)) (.bin .Mult (.bin .Add (.v 5) (.k (.int 1))) (.v 1))) (.n 5) (.rng1 (.v 0)) .nil [5]))) .nil)) [3, 4]) (.cons (.frz 2) (.cons (.ret (.v 2)) .nil))))⟩
/-- law (k18): _law_script, _law_town, _law_tall, _law_wide, _law_often, _law_there, _law_joined, _law_told, _law_many, _law_end, _law_another_one, _law_some, _law_last, _law_k -/
def df115 : Df := ⟨1, 14, (.cons (.as true 1 (.lst .nil)) (.cons (.unp (.t (.cons (.n 2) (.cons (.n 3) .nil))) (.call 16 (.s 0 (.r 1 (.e (.lst (.cons (.tup (.cons (.k (.int 1)) (.cons (.k (.int 1)) .nil))) (.cons (.tup (.cons (.k (.int 1)) (.cons (.k (.int 3)) .nil))) (.cons (.tup (.cons (.k (.int 2)) (.cons (.k (.int 2)) .nil))) (.cons (.tup (.cons (.k (.int 2)) (.cons (.k (.int 3)) .nil))) (.cons (.tup (.cons (.k (.int 3)) (.cons (.k (.int 2)) .nil))) (.cons (.tup (.cons (.k (.int 1)) (.cons (.k (.int 5)) .nil))) (.cons (.tup (.cons (.k (.int 4)) (.cons (.k (.int 1)) .nil))) (.cons (.tup (.cons (.k (.int 6)) (.cons (.k (.int 1)) .nil))) (.cons (.tup (.cons (.k (.int 1)) (.cons (.k (.int 2)) .nil))) .nil)))))))))) .nil))))) (.cons (.as true 4 .dic0) (.cons (.for_ (.n 5) (.ex (.call 114 (.e (.v 2) (.e (.v 3) .nil)))) (.cons (.as false 6 (.bi .tuple (.lc (.v 12) (.t (.cons (.n 11) (.cons (.n 12) .nil))) (.ex (.call 44 (.e (.v 5) .nil))) .nil [11, 12]))) (.cons (.set 4 (.v 6) (.bin .Add (.getM 4 (.v 6) (.k (.int 0))) (.k (.int 1)))) .nil)) [5, 6]) (.cons (.as false 7 (.call 113 (.e (.v 2) (.e (.v 3) .nil)))) (.cons (.frz 4) (.cons (.ite (.cmp .NotEq (.v 7) (.bi .sorted (.lc (.tup (.cons (.v 6) (.cons (.ix (.v 4) (.v 6)) .nil))) (.n 6) (.ex (.bi .list (.v 4))) .nil [6]))) (.cons (.ret (.k (.bool false))) .nil) .nil) (.cons (.for_ (.t (.cons (.n 6) (.cons (.n 8) .nil))) (.ex (.v 7)) (.cons (.for_ (.t (.cons (.n 9) (.cons (.n 10) .nil))) (.enm (.v 6)) (.cons (.ite (.cmp .NotEq (.lc (.v 13) (.n 13) (.rng2 (.bin .Add (.v 9) (.k (.int 1))) (.v 10)) (.cons (.not (.chn .Lt .Lt (.v 9) (.ix (.v 6) (.v 13)) (.v 10))) .nil) [13]) (.lst .nil)) (.cons (.ret (.k (.bool false))) .nil) .nil) .nil) [9, 10]) .nil) [6, 8, 9, 10]) (.cons (.ret (.cmp .Eq (.bi .sum (.lc (.v 8) (.t (.cons (.n 6) (.cons (.n 8) .nil))) (.ex (.v 7)) .nil [6, 8])) (.bin .LShift (.k (.int 1)) (.bin .Mult (.v 2) (.v 3))))) .nil)))))))))⟩
/-- law (k19): _law_script, _law_town, _law_bad, _law_tall, _law_wide, _law_what -/
def df117 : Df := ⟨1, 6, (.cons (.as true 1 (.lst .nil)) (.cons (.as false 2 (.call 16 (.s 0 (.r 1 (.e (.lst (.cons (.k .none) (.cons (.k (.int 0)) (.cons (.k (.int 7)) (.cons (.neg (.k (.int 1))) (.cons (.k (.str "2")) (.cons (.k (.bool true)) (.cons (.lst (.cons (.k (.int 2)) .nil)) (.cons (.tup (.cons (.k (.int 1)) .nil)) .nil))))))))) .nil))))) (.cons (.ite (.cmp .NotEq (.lc (.call 116 (.e (.v 5) (.e (.v 2) (.e (.k (.int 2)) .nil)))) (.n 5) (.rng1 (.k (.int 3))) .nil [5]) (.bin .Mult (.lst (.cons (.tup (.cons (.k (.str "refused")) (.cons (.k (.int 6)) .nil))) .nil)) (.k (.int 3)))) (.cons (.ret (.k (.bool false))) .nil) .nil) (.cons (.ite (.cmp .NotEq (.lc (.call 116 (.e (.v 5) (.e (.k (.int 1)) (.e (.v 2) .nil)))) (.n 5) (.rng1 (.k (.int 3))) .nil [5]) (.bin .Mult (.lst (.cons (.tup (.cons (.k (.str "refused")) (.cons (.k (.int 6)) .nil))) .nil)) (.k (.int 3)))) (.cons (.ret (.k (.bool false))) .nil) .nil) (.cons (.as false 3 (.bin .Add (.k (.int 2)) (.call 15 (.s 0 (.r 1 (.e (.k (.int 5)) .nil)))))) (.cons (.as false 4 (.bin .Add (.bin .Add (.bin .FloorDiv (.k (.int 10)) (.v 3)) (.k (.int 1))) (.call 15 (.s 0 (.r 1 (.e (.k (.int 6)) .nil)))))) (.cons (.ite (.cmp .NotEq (.lc (.call 116 (.e (.v 5) (.e (.v 3) (.e (.v 4) .nil)))) (.n 5) (.rng1 (.k (.int 3))) .nil [5]) (.bin .Mult (.lst (.cons (.tup (.cons (.k (.str "refused")) (.cons (.k (.int 6)) .nil))) .nil)) (.k (.int 3)))) (.cons (.ret (.k (.bool false))) .nil) .nil) (.cons (.ite (.and (.cmp .Eq (.call 15 (.s 0 (.r 1 (.e (.k (.int 12)) .nil)))) (.k (.int 0))) (.cons (.cmp .NotEq (.bi .sum (.call 116 (.e (.k (.int 0)) (.e (.k (.int 2)) (.e (.k (.int 5)) .nil))))) (.k (.int 1024))) .nil)) (.cons (.ret (.k (.bool false))) .nil) .nil) (.cons (.ite (.or (.cmp .NotEq (.call 116 (.e (.k (.int 0)) (.e (.k (.int 2)) (.e (.k (.int 2)) .nil)))) (.lst (.cons (.k (.int 15)) (.cons (.k (.int 1)) .nil)))) (.cons (.cmp .NotEq (.call 116 (.e (.k (.int 2)) (.e (.k (.int 2)) (.e (.k (.int 2)) .nil)))) (.tup (.cons (.k (.int 1)) (.cons (.tup (.cons (.k (.str "ab")) (.cons (.k (.str "ba")) .nil))) .nil)))) .nil)) (.cons (.ret (.k (.bool false))) .nil) .nil) (.cons (.ret (.cmp .Eq (.call 116 (.e (.k (.int 1)) (.e (.k (.int 1)) (.e (.k (.int 1)) .nil)))) (.lst (.cons (.tup (.cons (.tup (.cons (.k (.int 1)) (.cons (.k (.int 0)) (.cons (.k (.int 3)) (.cons (.k (.int 2)) .nil))))) (.cons (.k (.int 1)) .nil))) (.cons (.tup (.cons (.tup (.cons (.k (.int 3)) (.cons (.k (.int 2)) (.cons (.k (.int 1)) (.cons (.k (.int 0)) .nil))))) (.cons (.k (.int 1)) .nil))) .nil))))) .nil))))))))))⟩
/-- wound (k20): floor, square, rows, columns -/
def df118 : Df := ⟨2, 4, (.cons (.par (.cons false 2 (.bi .len (.v 0)) (.cons false 3 (.bi .len (.ix (.v 0) (.k (.int 0)))) .nil))) (.cons (.ret (.tup (.cons (.tup (.cons (.bin .Mod (.ix (.v 1) (.k (.int 0))) (.v 2)) (.cons (.bin .Mod (.ix (.v 1) (.k (.int 1))) (.v 3)) .nil))) (.cons (.bin .FloorDiv (.ix (.v 1) (.k (.int 1))) (.v 3)) (.cons (.bin .FloorDiv (.ix (.v 1) (.k (.int 0))) (.v 2)) .nil))))) .nil))⟩
/-- walk_round (k20): floor, square, side, tube, made, right, below, first, later, inner, more, lower -/
def df119 : Df := ⟨4, 12, (.cons (.par (.cons true 4 (.lst .nil) (.cons false 5 (.k (.int 0)) (.cons false 6 (.k (.int 0)) (.cons false 7 (.tup (.cons (.v 1) (.cons (.v 2) .nil))) .nil))))) (.cons (.whl 6000 (.k (.bool true)) (.cons (.app 4 (.tup (.cons (.ix (.v 1) (.k (.int 0))) (.cons (.ix (.v 1) (.k (.int 1))) (.cons (.call 30 (.e (.call 7 (.e (.v 0) (.e (.v 1) .nil))) (.e (.v 2) .nil))) .nil))))) (.cons (.unp (.t (.cons (.n 8) (.cons (.n 9) .nil))) (.call 31 (.e (.v 1) (.e (.call 29 (.e (.call 7 (.e (.v 0) (.e (.v 1) .nil))) (.e (.v 2) .nil))) .nil)))) (.cons (.ite (.and (.v 3) (.cons (.not (.chn .LtE .Lt (.k (.int 0)) (.ix (.v 8) (.k (.int 0))) (.bi .len (.v 0)))) .nil)) (.cons (.frz 4) (.cons (.ret (.tup (.cons (.v 4) (.cons (.tup (.cons (.v 5) (.cons (.v 6) .nil))) (.cons (.k (.bool false)) .nil))))) .nil)) .nil) (.cons (.unp (.t (.cons (.n 1) (.cons (.n 10) (.cons (.n 11) .nil)))) (.call 118 (.e (.v 0) (.e (.v 8) .nil)))) (.cons (.par (.cons false 2 (.v 9) (.cons false 5 (.bin .Add (.v 5) (.v 10)) (.cons false 6 (.bin .Add (.v 6) (.v 11)) .nil)))) (.cons (.ite (.cmp .Eq (.tup (.cons (.v 1) (.cons (.v 2) .nil))) (.v 7)) (.cons (.frz 4) (.cons (.ret (.tup (.cons (.v 4) (.cons (.tup (.cons (.v 5) (.cons (.v 6) .nil))) (.cons (.k (.bool true)) .nil))))) .nil)) .nil) .nil)))))) [8, 9, 10, 11]) .nil))⟩
/-- all_round (k20): floor, tube, seen, made, square, mark, arcs, winds, closed, arc -/
def df120 : Df := ⟨2, 10, (.cons (.par (.cons true 2 .dic0 (.cons true 3 (.lst .nil) .nil))) (.cons (.for_ (.n 4) (.ex (.call 46 (.e (.v 0) .nil))) (.cons (.for_ (.n 5) (.rng1 (.k (.int 2))) (.cons (.ite (.inM true (.tup (.cons (.ix (.v 4) (.k (.int 0))) (.cons (.ix (.v 4) (.k (.int 1))) (.cons (.v 5) .nil)))) 2) (.cons (.unp (.t (.cons (.n 6) (.cons (.n 7) (.cons (.n 8) .nil)))) (.call 119 (.e (.v 0) (.e (.v 4) (.e (.bin .Mult (.k (.int 2)) (.v 5)) (.e (.v 1) .nil)))))) (.cons (.ite (.v 8) (.cons (.upd 2 (.bi .dict (.lc (.tup (.cons (.v 9) (.cons (.k (.bool true)) .nil))) (.n 9) (.ex (.v 6)) .nil [9]))) (.cons (.app 3 (.tup (.cons (.bi .len (.v 6)) (.cons (.mm true (.v 7) (.tup (.cons (.bin .Sub (.k (.int 0)) (.ix (.v 7) (.k (.int 0)))) (.cons (.bin .Sub (.k (.int 0)) (.ix (.v 7) (.k (.int 1)))) .nil)))) .nil)))) .nil)) .nil) .nil)) .nil) .nil) [5, 6, 7, 8]) .nil) [4, 5, 6, 7, 8]) (.cons (.frz 3) (.cons (.ret (.bi .sorted (.v 3))) .nil))))⟩
/-- tube_rings (k20): floor, long, winds -/
def df121 : Df := ⟨1, 3, (.cons (.ex (.call 3 (.e (.v 0) .nil))) (.cons (.ret (.bi .sorted (.lc (.tup (.cons (.v 1) (.cons (.ix (.v 2) (.k (.int 0))) .nil))) (.t (.cons (.n 1) (.cons (.n 2) .nil))) (.ex (.call 120 (.e (.v 0) (.e (.k (.bool true)) .nil)))) .nil [1, 2]))) .nil))⟩
/-- _law_laid (k20): _law_there, _law_both, _law_tall, _law_wide, _law_made, _law_down, _law_across -/
def df122 : Df := ⟨2, 7, (.cons (.par (.cons false 2 (.bi .len (.v 0)) (.cons false 3 (.bi .len (.ix (.v 0) (.k (.int 0)))) (.cons true 4 .dic0 .nil)))) (.cons (.for_ (.n 5) (.rng1 (.bin .Add (.v 2) (.k (.int 1)))) (.cons (.for_ (.n 6) (.rng1 (.bin .Add (.v 3) (.k (.int 1)))) (.cons (.set 4 (.tup (.cons (.k (.str "h")) (.cons (.v 5) (.cons (.v 6) .nil)))) (.ite (.v 1) (.tup (.cons (.k (.str "h")) (.cons (.bin .Mod (.v 5) (.v 2)) (.cons (.v 6) .nil)))) (.tup (.cons (.k (.str "h")) (.cons (.v 5) (.cons (.v 6) .nil)))))) (.cons (.set 4 (.tup (.cons (.k (.str "v")) (.cons (.v 5) (.cons (.v 6) .nil)))) (.tup (.cons (.k (.str "v")) (.cons (.v 5) (.cons (.bin .Mod (.v 6) (.v 3)) .nil))))) .nil)) [6]) .nil) [5, 6]) (.cons (.frz 4) (.cons (.ret (.v 4)) .nil))))⟩
/-- _law_round_lines (k20): _law_there, _law_both, _law_arcs_here, _law_names, _law_seen, _law_made, _law_touch, _law_arc, _law_middle, _law_first, _law_some, _law_right, _law_below, _law_out, _law_more, _law_two, _law_one -/
def df123 : Df := ⟨2, 17, (.cons (.par (.cons false 2 (.call 40 (.e (.v 0) .nil)) (.cons false 3 (.call 122 (.e (.v 0) (.e (.v 1) .nil))) (.cons true 4 .dic0 (.cons true 5 (.lst .nil) .nil))))) (.cons (.as true 6 .dic0) (.cons (.for_ (.n 7) (.ex (.bi .sorted (.bi .list (.v 2)))) (.cons (.for_ (.n 8) (.ex (.ix (.v 2) (.v 7))) (.cons (.set 6 (.ix (.v 3) (.v 8)) (.bin .Add (.getM 6 (.ix (.v 3) (.v 8)) (.lst .nil)) (.lst (.cons (.tup (.cons (.v 7) (.cons (.v 8) .nil))) .nil)))) .nil) [8]) .nil) [7, 8]) (.cons (.for_ (.n 9) (.ex (.bi .sorted (.bi .list (.v 2)))) (.cons (.ite (.inM true (.v 9) 4) (.cons (.par (.cons false 7 (.v 9) (.cons false 8 (.ix (.ix (.v 2) (.v 9)) (.k (.int 0))) .nil))) (.cons (.par (.cons true 10 (.lst .nil) (.cons false 11 (.k (.int 0)) (.cons false 12 (.k (.int 0)) .nil)))) (.cons (.whl 6000 (.and (.cmp .IsNot (.v 7) (.k .none)) (.cons (.inM true (.v 7) 10) .nil)) (.cons (.app 10 (.v 7)) (.cons (.as false 13 (.ite (.cmp .Eq (.ix (.ix (.v 2) (.v 7)) (.k (.int 0))) (.v 8)) (.ix (.ix (.v 2) (.v 7)) (.k (.int 1))) (.ix (.ix (.v 2) (.v 7)) (.k (.int 0))))) (.cons (.as false 14 (.lc (.v 15) (.n 15) (.ex (.ixM 6 (.ix (.v 3) (.v 13)))) (.cons (.cmp .NotEq (.v 15) (.tup (.cons (.v 7) (.cons (.v 13) .nil)))) .nil) [15])) (.cons (.unp (.t (.cons (.n 7) (.cons (.n 8) .nil))) (.ite (.cmp .NotEq (.v 14) (.lst .nil)) (.ix (.v 14) (.k (.int 0))) (.tup (.cons (.k .none) (.cons (.k .none) .nil))))) (.cons (.ite (.and (.cmp .IsNot (.v 7) (.k .none)) (.cons (.cmp .NotEq (.v 8) (.v 13)) .nil)) (.cons (.as false 11 (.bin .Add (.v 11) (.bin .FloorDiv (.ite (.cmp .Eq (.ix (.v 13) (.k (.int 0))) (.k (.str "v"))) (.bin .Sub (.ix (.v 13) (.k (.int 2))) (.ix (.v 8) (.k (.int 2)))) (.k (.int 0))) (.bi .len (.ix (.v 0) (.k (.int 0))))))) (.cons (.as false 12 (.bin .Add (.v 12) (.bin .FloorDiv (.ite (.cmp .Eq (.ix (.v 13) (.k (.int 0))) (.k (.str "h"))) (.bin .Sub (.ix (.v 13) (.k (.int 1))) (.ix (.v 8) (.k (.int 1)))) (.k (.int 0))) (.bi .len (.v 0))))) .nil)) .nil) .nil))))) [13, 14]) (.cons (.ite (.cmp .IsNot (.v 7) (.k .none)) (.cons (.frz 10) (.cons (.upd 4 (.bi .dict (.lc (.tup (.cons (.v 16) (.cons (.k (.bool true)) .nil))) (.n 16) (.ex (.v 10)) .nil [16]))) (.cons (.app 5 (.tup (.cons (.bi .len (.v 10)) (.cons (.mm true (.tup (.cons (.v 11) (.cons (.v 12) .nil))) (.tup (.cons (.bin .Sub (.k (.int 0)) (.v 11)) (.cons (.bin .Sub (.k (.int 0)) (.v 12)) .nil)))) .nil)))) .nil))) .nil) .nil)))) .nil) .nil) [7, 8, 9, 10, 11, 12, 13, 14]) (.cons (.frz 5) (.cons (.ret (.bi .sorted (.v 5))) .nil))))))⟩
/-- both_rings (k21): floor -/
def df125 : Df := ⟨1, 1, (.cons (.ex (.call 3 (.e (.v 0) .nil))) (.cons (.ret (.call 120 (.e (.v 0) (.e (.k (.bool false)) .nil)))) .nil))⟩
/-- _law_common (k21): _law_one, _law_two -/
def df126 : Df := ⟨2, 2, (.cons (.whl 6000 (.cmp .NotEq (.v 1) (.k (.int 0))) (.cons (.par (.cons false 0 (.v 1) (.cons false 1 (.bin .Mod (.v 0) (.v 1)) .nil))) .nil) []) (.cons (.ret (.bi .abs (.v 0))) .nil))⟩
/-- law (k21): _law_script, _law_town, _law_there, _law_told, _law_winding, _law_down, _law_across, _law_moved, _law_long, _law_winds, _law_letters -/
def df127 : Df := ⟨1, 11, (.cons (.as true 1 (.lst .nil)) (.cons (.as false 2 (.call 17 (.s 0 (.r 1 (.e (.k (.int 6)) .nil))))) (.cons (.as false 3 (.call 125 (.e (.v 2) .nil))) (.cons (.ite (.cmp .NotEq (.v 3) (.call 123 (.e (.v 2) (.e (.k (.bool true)) .nil)))) (.cons (.ret (.k (.bool false))) .nil) .nil) (.cons (.ite (.cmp .NotEq (.bi .sum (.lc (.v 8) (.t (.cons (.n 8) (.cons (.n 9) .nil))) (.ex (.v 3)) .nil [8, 9])) (.bin .Mult (.bin .Mult (.k (.int 2)) (.bi .len (.v 2))) (.bi .len (.ix (.v 2) (.k (.int 0)))))) (.cons (.ret (.k (.bool false))) .nil) .nil) (.cons (.as false 4 (.bi .sset (.lc (.v 9) (.t (.cons (.n 8) (.cons (.n 9) .nil))) (.ex (.v 3)) (.cons (.cmp .NotEq (.v 9) (.tup (.cons (.k (.int 0)) (.cons (.k (.int 0)) .nil)))) .nil) [8, 9]))) (.cons (.ite (.or (.cmp .Gt (.bi .len (.v 4)) (.k (.int 1))) (.cons (.and (.cmp .NotEq (.v 4) (.lst .nil)) (.cons (.cmp .NotEq (.call 126 (.e (.ix (.ix (.v 4) (.k (.int 0))) (.k (.int 0))) (.e (.ix (.ix (.v 4) (.k (.int 0))) (.k (.int 1))) .nil))) (.k (.int 1))) .nil)) .nil)) (.cons (.ret (.k (.bool false))) .nil) .nil) (.cons (.par (.cons false 5 (.call 15 (.s 0 (.r 1 (.e (.bi .len (.v 2)) .nil)))) (.cons false 6 (.call 15 (.s 0 (.r 1 (.e (.bi .len (.ix (.v 2) (.k (.int 0)))) .nil)))) .nil))) (.cons (.as false 7 (.bin .Add (.slT (.v 2) (.v 5)) (.slH (.v 2) (.v 5)))) (.cons (.ret (.cmp .Eq (.call 125 (.e (.bi .tuple (.lc (.bin .Add (.slT (.v 10) (.v 6)) (.slH (.v 10) (.v 6))) (.n 10) (.ex (.v 7)) .nil [10])) .nil)) (.v 3))) .nil))))))))))⟩
/-- need_kind (k22): thing -/
def df128 : Df := ⟨1, 1, (.cons (.ite (.or (.not (.isi (.v 0) .str)) (.cons (.gin (Str.ofString "KINDS") [Str.ofString "behind", Str.ofString "ahead", Str.ofString "never"] true (.v 0)) .nil)) (.cons (.rse "NoKind" true (.k (.str "no kind"))) .nil) .nil) .nil)⟩
/-- run (k22): floor, end, turn, square, side, made, out, later, inner -/
def df129 : Df := ⟨3, 9, (.cons (.unp (.t (.cons (.n 3) (.cons (.n 4) .nil))) (.call 27 (.e (.v 0) (.e (.v 1) .nil)))) (.cons (.as true 5 (.lst .nil)) (.cons (.whl 6000 (.k (.bool true)) (.cons (.ite (.cmp .Eq (.lenM 5) (.g "MOST_beads" (.int 5000))) (.cons (.rse "TooLong" true (.k (.str "too long"))) .nil) .nil) (.cons (.app 5 (.v 3)) (.cons (.ite (.cmp .Eq (.v 2) (.k (.str "ahead"))) (.cons (.as false 0 (.call 89 (.e (.v 0) (.e (.v 3) .nil)))) .nil) .nil) (.cons (.as false 6 (.call 29 (.e (.call 7 (.e (.v 0) (.e (.v 3) .nil))) (.e (.v 4) .nil)))) (.cons (.ite (.cmp .Eq (.v 2) (.k (.str "behind"))) (.cons (.as false 0 (.call 89 (.e (.v 0) (.e (.v 3) .nil)))) .nil) .nil) (.cons (.unp (.t (.cons (.n 7) (.cons (.n 8) .nil))) (.call 31 (.e (.v 3) (.e (.v 6) .nil)))) (.cons (.ite (.not (.call 5 (.e (.v 0) (.e (.v 7) .nil)))) (.cons (.frz 5) (.cons (.ret (.tup (.cons (.call 28 (.e (.v 0) (.e (.v 3) (.e (.v 6) .nil)))) (.cons (.v 0) (.cons (.v 5) .nil))))) .nil)) .nil) (.cons (.par (.cons false 3 (.v 7) (.cons false 4 (.v 8) .nil))) .nil)))))))) [6, 7, 8]) .nil)))⟩
/-- passed (k22): floor, end, turn, out, later, squares -/
def df130 : Df := ⟨3, 6, (.cons (.ex (.call 3 (.e (.v 0) .nil))) (.cons (.ex (.call 26 (.e (.v 0) (.e (.v 1) .nil)))) (.cons (.ex (.call 128 (.e (.v 2) .nil))) (.cons (.unp (.t (.cons (.n 3) (.cons (.n 4) (.cons (.n 5) .nil)))) (.call 129 (.e (.v 0) (.e (.v 1) (.e (.v 2) .nil))))) (.cons (.ret (.tup (.cons (.v 3) (.cons (.v 4) (.cons (.bi .len (.v 5)) .nil))))) .nil)))))⟩
/-- visits (k22): floor, end, turn, squares, square -/
def df131 : Df := ⟨3, 5, (.cons (.ex (.call 3 (.e (.v 0) .nil))) (.cons (.ex (.call 26 (.e (.v 0) (.e (.v 1) .nil)))) (.cons (.ex (.call 128 (.e (.v 2) .nil))) (.cons (.as false 3 (.ix (.call 129 (.e (.v 0) (.e (.v 1) (.e (.v 2) .nil)))) (.k (.int 2)))) (.cons (.ret (.lc (.tup (.cons (.v 4) (.cons (.me .count (.v 3) (.v 4)) .nil))) (.n 4) (.ex (.bi .sset (.v 3))) .nil [4])) .nil)))))⟩
/-- law (k22): _law_script, _law_town, _law_there, _law_many, _law_bad, _law_end, _law_due, _law_what, _law_kind -/
def df133 : Df := ⟨1, 9, (.cons (.as true 1 (.lst .nil)) (.cons (.as false 2 (.call 17 (.s 0 (.r 1 (.e (.k (.int 5)) .nil))))) (.cons (.ite (.cmp .NotEq (.lc (.call 132 (.e (.v 7) (.e (.call 20 (.s 0 (.r 1 .nil))) (.e (.k .none) (.e (.k .none) .nil))))) (.n 7) (.rng1 (.k (.int 4))) .nil [7]) (.bin .Mult (.lst (.cons (.tup (.cons (.k (.str "refused")) (.cons (.k (.int 0)) .nil))) .nil)) (.k (.int 4)))) (.cons (.ret (.k (.bool false))) .nil) .nil) (.cons (.as false 3 (.bin .Mult (.k (.int 2)) (.bin .Add (.bi .len (.v 2)) (.bi .len (.ix (.v 2) (.k (.int 0))))))) (.cons (.for_ (.n 4) (.ex (.lst (.cons (.k .none) (.cons (.neg (.k (.int 1))) (.cons (.k (.str "0")) (.cons (.v 3) (.cons (.lst (.cons (.k (.int 0)) .nil)) .nil))))))) (.cons (.ite (.cmp .NotEq (.lc (.call 132 (.e (.v 7) (.e (.v 2) (.e (.v 4) (.e (.k .none) .nil))))) (.n 7) (.ex (.tup (.cons (.k (.int 2)) (.cons (.k (.int 3)) .nil)))) .nil [7]) (.bin .Mult (.lst (.cons (.tup (.cons (.k (.str "end")) (.cons (.v 4) .nil))) .nil)) (.k (.int 2)))) (.cons (.ret (.k (.bool false))) .nil) .nil) .nil) [4]) (.cons (.as false 5 (.call 15 (.s 0 (.r 1 (.e (.v 3) .nil))))) (.cons (.for_ (.n 4) (.ex (.lst (.cons (.k .none) (.cons (.k (.int 0)) (.cons (.k (.str "")) (.cons (.k (.str "Behind")) (.cons (.k (.str "be")) (.cons (.lst (.cons (.k (.str "ahead")) .nil)) (.cons (.tup (.cons (.k (.str "never")) .nil)) (.cons (.k (.bool true)) .nil)))))))))) (.cons (.ite (.cmp .NotEq (.lc (.call 132 (.e (.v 7) (.e (.v 2) (.e (.v 5) (.e (.v 4) .nil))))) (.n 7) (.ex (.tup (.cons (.k (.int 2)) (.cons (.k (.int 3)) .nil)))) .nil [7]) (.bin .Mult (.lst (.cons (.tup (.cons (.k (.str "refused")) (.cons (.k (.int 8)) .nil))) .nil)) (.k (.int 2)))) (.cons (.ret (.k (.bool false))) .nil) .nil) .nil) [4]) (.cons (.ite (.cmp .NotEq (.lc (.call 132 (.e (.v 7) (.e (.tup (.cons (.k (.str "a")) .nil)) (.e (.k .none) (.e (.k .none) .nil))))) (.n 7) (.rng1 (.k (.int 2))) .nil [7]) (.lst (.cons (.lst .nil) (.cons (.lst (.cons (.tup (.cons (.k (.int 2)) (.cons (.tup (.cons (.k (.int 1)) (.cons (.neg (.k (.int 1))) .nil))) .nil))) .nil)) .nil)))) (.cons (.ret (.k (.bool false))) .nil) .nil) (.cons (.as false 6 (.lst (.cons (.tup (.cons (.k (.int 3)) (.cons (.tup (.cons (.k (.str "b")) .nil)) (.cons (.k (.int 1)) .nil)))) (.cons (.tup (.cons (.k (.int 1)) (.cons (.tup (.cons (.k (.str "b")) .nil)) (.cons (.k (.int 1)) .nil)))) (.cons (.tup (.cons (.k (.int 3)) (.cons (.tup (.cons (.k (.str "a")) .nil)) (.cons (.k (.int 1)) .nil)))) .nil))))) (.cons (.ret (.cmp .Eq (.lc (.call 132 (.e (.k (.int 2)) (.e (.tup (.cons (.k (.str "a")) .nil)) (.e (.k (.int 0)) (.e (.v 8) .nil))))) (.n 8) (.ex (.tup (.cons (.k (.str "behind")) (.cons (.k (.str "ahead")) (.cons (.k (.str "never")) .nil))))) .nil [8]) (.v 6))) .nil))))))))))⟩
/-- _law_run (k23): _law_there, _law_end, _law_kind, _law_rim_here, _law_letters, _law_square, _law_side, _law_made, _law_out, _law_middle, _law_south, _law_east, _law_rows_there, _law_down, _law_arc, _law_across -/
def df134 : Df := ⟨3, 16, (.cons (.par (.cons false 3 (.call 41 (.e (.v 0) .nil)) (.cons true 4 (.bi .dict (.lc (.tup (.cons (.v 5) (.cons (.ix (.ix (.v 0) (.ix (.v 5) (.k (.int 0)))) (.ix (.v 5) (.k (.int 1)))) .nil))) (.n 5) (.ex (.call 18 (.e (.v 0) .nil))) .nil [5])) .nil))) (.cons (.as false 5 (.call 40 (.e (.v 0) .nil))) (.cons (.as false 5 (.ix (.lc (.slH (.v 14) (.k (.int 2))) (.n 14) (.ex (.bi .sorted (.bi .list (.v 5)))) (.cons (.cmp .In (.ix (.v 3) (.v 1)) (.ix (.v 5) (.v 14))) .nil) [14]) (.k (.int 0)))) (.cons (.par (.cons false 6 (.me .index (.call 39 (.e (.ix (.v 5) (.k (.int 0))) (.e (.ix (.v 5) (.k (.int 1))) .nil))) (.ix (.v 3) (.v 1))) (.cons true 7 (.lst .nil) .nil))) (.cons (.whl 6000 (.inM false (.v 5) 4) (.cons (.ite (.cmp .Eq (.lenM 7) (.k (.int 5000))) (.cons (.ret (.k .none)) .nil) .nil) (.cons (.app 7 (.v 5)) (.cons (.ite (.cmp .Eq (.v 2) (.k (.str "ahead"))) (.cons (.set 4 (.v 5) (.ite (.cmp .Eq (.ixM 4 (.v 5)) (.k (.str "a"))) (.k (.str "b")) (.k (.str "a")))) .nil) .nil) (.cons (.as false 8 (.ite (.cmp .Eq (.ixM 4 (.v 5)) (.k (.str "a"))) (.ix (.lst (.cons (.k (.int 3)) (.cons (.k (.int 2)) (.cons (.k (.int 1)) (.cons (.k (.int 0)) .nil))))) (.v 6)) (.ix (.lst (.cons (.k (.int 1)) (.cons (.k (.int 0)) (.cons (.k (.int 3)) (.cons (.k (.int 2)) .nil))))) (.v 6)))) (.cons (.ite (.cmp .Eq (.v 2) (.k (.str "behind"))) (.cons (.set 4 (.v 5) (.ite (.cmp .Eq (.ixM 4 (.v 5)) (.k (.str "a"))) (.k (.str "b")) (.k (.str "a")))) .nil) .nil) (.cons (.as false 9 (.ix (.call 39 (.e (.ix (.v 5) (.k (.int 0))) (.e (.ix (.v 5) (.k (.int 1))) .nil))) (.v 8))) (.cons (.unp (.t (.cons (.n 10) (.cons (.n 11) .nil))) (.ix (.lst (.cons (.tup (.cons (.neg (.k (.int 1))) (.cons (.k (.int 0)) .nil))) (.cons (.tup (.cons (.k (.int 0)) (.cons (.k (.int 1)) .nil))) (.cons (.tup (.cons (.k (.int 1)) (.cons (.k (.int 0)) .nil))) (.cons (.tup (.cons (.k (.int 0)) (.cons (.neg (.k (.int 1))) .nil))) .nil))))) (.v 8))) (.cons (.par (.cons false 5 (.tup (.cons (.bin .Add (.ix (.v 5) (.k (.int 0))) (.v 10)) (.cons (.bin .Add (.ix (.v 5) (.k (.int 1))) (.v 11)) .nil))) (.cons false 6 (.bin .Mod (.bin .Add (.v 8) (.k (.int 2))) (.k (.int 4))) .nil))) .nil)))))))) [8, 9, 10, 11]) (.cons (.as true 12 (.lst .nil)) (.cons (.for_ (.n 13) (.rng1 (.bi .len (.v 0))) (.cons (.app 12 (.me .join (.k (.str "")) (.lc (.ixM 4 (.tup (.cons (.v 13) (.cons (.v 15) .nil)))) (.n 15) (.rng1 (.bi .len (.ix (.v 0) (.k (.int 0))))) .nil [15]))) .nil) [13]) (.cons (.frz 7) (.cons (.frz 12) (.cons (.ret (.tup (.cons (.me .index (.v 3) (.v 9)) (.cons (.bi .tuple (.v 12)) (.cons (.v 7) .nil))))) .nil))))))))))⟩
/-- law (k24): _law_script, _law_town, _law_there, _law_many, _law_done, _law_here, _law_turn, _law_end, _law_how, _law_told, _law_out, _law_later, _law_steps, _law_back, _law_came -/
def df138 : Df := ⟨1, 15, (.cons (.as true 1 (.lst .nil)) (.cons (.as false 2 (.call 17 (.s 0 (.r 1 (.e (.k (.int 6)) .nil))))) (.cons (.par (.cons false 3 (.bin .Mult (.k (.int 2)) (.bin .Add (.bi .len (.v 2)) (.bi .len (.ix (.v 2) (.k (.int 0)))))) (.cons true 4 (.lst .nil) (.cons false 5 (.v 2) .nil)))) (.cons (.for_ (.n 6) (.rng1 (.k (.int 6))) (.cons (.as false 7 (.call 15 (.s 0 (.r 1 (.e (.v 3) .nil))))) (.cons (.as false 8 (.call 16 (.s 0 (.r 1 (.e (.lst (.cons (.k (.str "behind")) (.cons (.k (.str "ahead")) .nil))) .nil))))) (.cons (.as false 9 (.call 137 (.e (.v 5) (.e (.v 7) (.e (.v 8) .nil))))) (.cons (.ite (.cmp .Is (.v 9) (.k .none)) (.cons (.ret (.k (.bool true))) .nil) .nil) (.cons (.unp (.t (.cons (.n 10) (.cons (.n 11) (.cons (.n 12) .nil)))) (.v 9)) (.cons (.as false 13 (.ite (.cmp .Eq (.v 8) (.k (.str "behind"))) (.k (.str "ahead")) (.k (.str "behind")))) (.cons (.ite (.or (.cmp .NotEq (.call 130 (.e (.v 11) (.e (.v 10) (.e (.v 13) .nil)))) (.tup (.cons (.v 7) (.cons (.v 5) (.cons (.v 12) .nil))))) (.cons (.cmp .NotEq (.call 131 (.e (.v 11) (.e (.v 10) (.e (.v 13) .nil)))) (.call 131 (.e (.v 5) (.e (.v 7) (.e (.v 8) .nil))))) .nil)) (.cons (.ret (.k (.bool false))) .nil) .nil) (.cons (.app 4 (.tup (.cons (.v 7) (.cons (.v 10) (.cons (.v 13) .nil))))) (.cons (.as false 5 (.v 11)) .nil))))))))) [6, 7, 8, 9, 10, 11, 12, 13]) (.cons (.frz 4) (.cons (.for_ (.t (.cons (.n 7) (.cons (.n 10) (.cons (.n 13) .nil)))) (.ex (.rev (.v 4))) (.cons (.unp (.t (.cons (.n 14) (.cons (.n 5) (.cons (.n 12) .nil)))) (.call 130 (.e (.v 5) (.e (.v 10) (.e (.v 13) .nil))))) (.cons (.ite (.cmp .NotEq (.v 14) (.v 7)) (.cons (.ret (.k (.bool false))) .nil) .nil) .nil)) [7, 10, 12, 13, 14]) (.cons (.ret (.cmp .Eq (.v 5) (.v 2))) .nil)))))))⟩
/-- law (k25): _law_script, _law_town, _law_there, _law_squares_here, _law_many, _law_how, _law_asked, _law_again, _law_some, _law_end, _law_told, _law_late, _law_here, _law_got, _law_out, _law_later, _law_steps, _law_k -/
def df139 : Df := ⟨1, 18, (.cons (.as true 1 (.lst .nil)) (.cons (.as false 2 (.call 17 (.s 0 (.r 1 (.e (.k (.int 4)) .nil))))) (.cons (.par (.cons false 3 (.call 18 (.e (.v 2) .nil)) (.cons false 4 (.bin .Mult (.k (.int 2)) (.bin .Add (.bi .len (.v 2)) (.bi .len (.ix (.v 2) (.k (.int 0)))))) .nil))) (.cons (.as false 5 (.call 16 (.s 0 (.r 1 (.e (.lst (.cons (.k (.str "behind")) (.cons (.k (.str "ahead")) (.cons (.k (.str "never")) .nil)))) .nil))))) (.cons (.as true 6 .dic0) (.cons (.for_ (.n 7) (.rng1 (.k (.int 6))) (.cons (.as false 8 (.bi .sset (.lc (.call 16 (.s 0 (.r 1 (.e (.v 3) .nil)))) (.n 17) (.rng1 (.call 15 (.s 0 (.r 1 (.e (.k (.int 3)) .nil))))) .nil [17]))) (.cons (.as false 9 (.call 15 (.s 0 (.r 1 (.e (.v 4) .nil))))) (.cons (.set 6 (.tup (.cons (.call 91 (.e (.v 2) (.e (.v 8) .nil))) (.cons (.v 9) .nil))) (.k (.bool true))) .nil))) [7, 8, 9]) (.cons (.par (.cons true 10 .dic0 (.cons false 11 (.k (.int 0)) .nil))) (.cons (.frz 6) (.cons (.for_ (.t (.cons (.n 12) (.cons (.n 9) .nil))) (.ex (.bi .sorted (.bi .list (.v 6)))) (.cons (.as false 13 (.call 137 (.e (.v 12) (.e (.v 9) (.e (.v 5) .nil))))) (.cons (.ite (.cmp .Is (.v 13) (.k .none)) (.cons (.as false 11 (.bin .Add (.v 11) (.k (.int 1)))) (.cons .cnt .nil)) .nil) (.cons (.unp (.t (.cons (.n 14) (.cons (.n 15) (.cons (.n 16) .nil)))) (.v 13)) (.cons (.ite (.or (.not (.call 38 (.e (.v 14) (.e (.bin .Mod (.v 14) (.v 4)) .nil)))) (.cons (.cmp .NotEq (.bi .len (.v 15)) (.bi .len (.v 2))) (.cons (.cmp .Lt (.v 16) (.k (.int 1))) .nil))) (.cons (.ret (.k (.bool false))) .nil) .nil) (.cons (.set 10 (.tup (.cons (.v 15) (.cons (.v 14) .nil))) (.k (.bool true))) .nil))))) [9, 12, 13, 14, 15, 16]) (.cons (.ret (.cmp .Eq (.bin .Add (.lenM 10) (.v 11)) (.bi .len (.v 6)))) .nil))))))))))⟩
/-- swung (k26): floor, made, across, row -/
def df140 : Df := ⟨1, 4, (.cons (.ex (.call 3 (.e (.v 0) .nil))) (.cons (.as true 1 (.lst .nil)) (.cons (.for_ (.n 2) (.rng1 (.bi .len (.ix (.v 0) (.k (.int 0))))) (.cons (.app 1 (.call 11 (.e (.me .join (.k (.str "")) (.lc (.ix (.v 3) (.v 2)) (.n 3) (.ex (.rev (.v 0))) .nil [3])) .nil))) .nil) [2]) (.cons (.frz 1) (.cons (.ret (.bi .tuple (.v 1))) .nil)))))⟩
/-- mirrored (k26): floor, row -/
def df141 : Df := ⟨1, 2, (.cons (.ex (.call 3 (.e (.v 0) .nil))) (.cons (.ret (.bi .tuple (.lc (.call 11 (.e (.rev (.v 1)) .nil)) (.n 1) (.ex (.v 0)) .nil [1]))) .nil))⟩
/-- law (k26): _law_script, _law_town, _law_there, _law_tall, _law_wide, _law_round_one, _law_mirror, _law_down, _law_across, _law_sign, _law_many, _law_led, _law_glass, _law_end, _law_told, _law_out, _law_later, _law_steps, _law_some -/
def df142 : Df := ⟨1, 19, (.cons (.as true 1 (.lst .nil)) (.cons (.as false 2 (.call 17 (.s 0 (.r 1 (.e (.k (.int 5)) .nil))))) (.cons (.par (.cons false 3 (.bi .len (.v 2)) (.cons false 4 (.bi .len (.ix (.v 2) (.k (.int 0)))) .nil))) (.cons (.par (.cons false 5 (.call 140 (.e (.v 2) .nil)) (.cons false 6 (.call 141 (.e (.v 2) .nil)) .nil))) (.cons (.ite (.or (.cmp .NotEq (.bi .len (.v 5)) (.v 4)) (.cons (.cmp .NotEq (.bi .len (.ix (.v 5) (.k (.int 0)))) (.v 3)) .nil)) (.cons (.ret (.k (.bool false))) .nil) .nil) (.cons (.for_ (.t (.cons (.n 7) (.cons (.n 8) .nil))) (.ex (.call 18 (.e (.v 2) .nil))) (.cons (.as false 9 (.ite (.cmp .Eq (.ix (.ix (.v 2) (.v 7)) (.v 8)) (.k (.str "a"))) (.k (.str "b")) (.k (.str "a")))) (.cons (.ite (.or (.cmp .NotEq (.ix (.ix (.v 5) (.v 8)) (.bin .Sub (.bin .Sub (.v 3) (.k (.int 1))) (.v 7))) (.v 9)) (.cons (.cmp .NotEq (.ix (.ix (.v 6) (.v 7)) (.bin .Sub (.bin .Sub (.v 4) (.k (.int 1))) (.v 8))) (.v 9)) .nil)) (.cons (.ret (.k (.bool false))) .nil) .nil) .nil)) [7, 8, 9]) (.cons (.ite (.or (.cmp .NotEq (.call 140 (.e (.call 140 (.e (.call 140 (.e (.v 5) .nil)) .nil)) .nil)) (.v 2)) (.cons (.cmp .NotEq (.call 141 (.e (.v 6) .nil)) (.v 2)) .nil)) (.cons (.ret (.k (.bool false))) .nil) .nil) (.cons (.ite (.or (.cmp .NotEq (.call 49 (.e (.v 5) .nil)) (.call 49 (.e (.v 2) .nil))) (.cons (.cmp .NotEq (.call 49 (.e (.v 6) .nil)) (.call 49 (.e (.v 2) .nil))) .nil)) (.cons (.ret (.k (.bool false))) .nil) .nil) (.cons (.ite (.cmp .NotEq (.bi .sorted (.lc (.bi .len (.v 18)) (.n 18) (.ex (.call 62 (.e (.v 5) .nil))) .nil [18])) (.bi .sorted (.lc (.bi .len (.v 18)) (.n 18) (.ex (.call 62 (.e (.v 6) .nil))) .nil [18]))) (.cons (.ret (.k (.bool false))) .nil) .nil) (.cons (.as false 10 (.bin .Mult (.k (.int 2)) (.bin .Add (.v 3) (.v 4)))) (.cons (.as false 11 (.lc (.bin .Mod (.bin .Add (.v 13) (.v 3)) (.v 10)) (.n 13) (.rng1 (.v 10)) .nil [13])) (.cons (.as false 12 (.lc (.bin .Mod (.bin .Sub (.bin .Sub (.v 4) (.k (.int 1))) (.v 13)) (.v 10)) (.n 13) (.rng1 (.v 10)) .nil [13])) (.cons (.ite (.cmp .NotEq (.lc (.ix (.call 37 (.e (.v 5) .nil)) (.ix (.v 11) (.v 13))) (.n 13) (.rng1 (.v 10)) .nil [13]) (.lc (.ix (.v 11) (.v 13)) (.n 13) (.ex (.call 37 (.e (.v 2) .nil))) .nil [13])) (.cons (.ret (.k (.bool false))) .nil) .nil) (.cons (.ite (.cmp .NotEq (.lc (.ix (.call 37 (.e (.v 6) .nil)) (.ix (.v 12) (.v 13))) (.n 13) (.rng1 (.v 10)) .nil [13]) (.lc (.ix (.v 12) (.v 13)) (.n 13) (.ex (.call 37 (.e (.v 2) .nil))) .nil [13])) (.cons (.ret (.k (.bool false))) .nil) .nil) (.cons (.as false 13 (.call 15 (.s 0 (.r 1 (.e (.v 10) .nil))))) (.cons (.as false 14 (.call 137 (.e (.v 2) (.e (.v 13) (.e (.k (.str "behind")) .nil))))) (.cons (.ite (.cmp .Is (.v 14) (.k .none)) (.cons (.ret (.k (.bool true))) .nil) .nil) (.cons (.unp (.t (.cons (.n 15) (.cons (.n 16) (.cons (.n 17) .nil)))) (.v 14)) (.cons (.ite (.cmp .NotEq (.call 130 (.e (.v 6) (.e (.ix (.v 12) (.v 13)) .nil))) (.tup (.cons (.ix (.v 12) (.v 15)) (.cons (.call 141 (.e (.v 16) .nil)) (.cons (.v 17) .nil))))) (.cons (.ret (.k (.bool false))) .nil) .nil) (.cons (.ret (.cmp .Eq (.call 130 (.e (.v 5) (.e (.ix (.v 11) (.v 13)) .nil))) (.tup (.cons (.ix (.v 11) (.v 15)) (.cons (.call 140 (.e (.v 16) .nil)) (.cons (.v 17) .nil)))))) .nil))))))))))))))))))))⟩
/-- beside (k27): one, another, row, more -/
def df143 : Df := ⟨2, 4, (.cons (.ex (.call 3 (.e (.v 0) .nil))) (.cons (.ex (.call 3 (.e (.v 1) .nil))) (.cons (.ite (.or (.cmp .NotEq (.bi .len (.v 0)) (.bi .len (.v 1))) (.cons (.cmp .Gt (.bin .Add (.bi .len (.ix (.v 0) (.k (.int 0)))) (.bi .len (.ix (.v 1) (.k (.int 0))))) (.g "MOST" (.int 6))) .nil)) (.cons (.rse "NoFit" true (.k (.str "they do not go together"))) .nil) .nil) (.cons (.ret (.bi .tuple (.lc (.bin .Add (.v 2) (.v 3)) (.t (.cons (.n 2) (.cons (.n 3) .nil))) (.zip (.v 0) (.v 1)) .nil [2, 3]))) .nil))))⟩
/-- part (k27): floor, one, another, left, right, row -/
def df144 : Df := ⟨3, 6, (.cons (.ex (.call 3 (.e (.v 0) .nil))) (.cons (.ex (.call 6 (.e (.v 0) (.e (.v 1) .nil)))) (.cons (.ex (.call 6 (.e (.v 0) (.e (.v 2) .nil)))) (.cons (.par (.cons false 3 (.mm false (.ix (.v 1) (.k (.int 1))) (.ix (.v 2) (.k (.int 1)))) (.cons false 4 (.mm true (.ix (.v 1) (.k (.int 1))) (.ix (.v 2) (.k (.int 1)))) .nil))) (.cons (.ret (.bi .tuple (.lc (.slB (.v 5) (.v 3) (.bin .Add (.v 4) (.k (.int 1)))) (.n 5) (.ex (.slB (.v 0) (.mm false (.ix (.v 1) (.k (.int 0))) (.ix (.v 2) (.k (.int 0)))) (.bin .Add (.mm true (.ix (.v 1) (.k (.int 0))) (.ix (.v 2) (.k (.int 0)))) (.k (.int 1))))) .nil [5]))) .nil)))))⟩
/-- _law_over (k27): _law_one, _law_two, _law_joined, _law_more, _law_tall, _law_wide, _law_broad, _law_end, _law_here, _law_turn -/
def df146 : Df := ⟨4, 10, (.cons (.par (.cons false 4 (.bi .len (.v 0)) (.cons false 5 (.bi .len (.ix (.v 0) (.k (.int 0)))) (.cons false 6 (.bi .len (.ix (.v 1) (.k (.int 0)))) .nil)))) (.cons (.par (.cons false 7 (.ix (.v 2) (.k (.int 0))) (.cons false 8 (.k (.int 0)) .nil))) (.cons (.for_ (.n 9) (.rng1 (.bin .Add (.bin .Mult (.k (.int 4)) (.v 4)) (.k (.int 4)))) (.cons (.ite (.cmp .Eq (.v 8) (.k (.int 0))) (.cons (.ite (.not (.chn .LtE .Lt (.v 5) (.v 7) (.bin .Add (.v 5) (.v 4)))) (.cons (.ret (.ite (.cmp .Lt (.v 7) (.v 5)) (.v 7) (.bin .Add (.v 7) (.bin .Mult (.k (.int 2)) (.v 6))))) .nil) .nil) (.cons (.par (.cons false 7 (.ix (.v 3) (.bin .Sub (.bin .Sub (.bin .Add (.bin .Mult (.k (.int 2)) (.v 6)) (.bin .Mult (.k (.int 2)) (.v 4))) (.k (.int 1))) (.bin .Sub (.v 7) (.v 5)))) (.cons false 8 (.k (.int 1)) .nil))) .nil)) (.cons (.ite (.cmp .Lt (.v 7) (.bin .Add (.bin .Mult (.k (.int 2)) (.v 6)) (.v 4))) (.cons (.ret (.bin .Add (.v 7) (.v 5))) .nil) .nil) (.cons (.par (.cons false 7 (.ix (.v 2) (.bin .Sub (.bin .Sub (.bin .Add (.bin .Add (.v 5) (.bin .Mult (.k (.int 2)) (.v 6))) (.bin .Mult (.k (.int 2)) (.v 4))) (.k (.int 1))) (.v 7))) (.cons false 8 (.k (.int 0)) .nil))) .nil))) .nil) [9]) (.cons (.ret (.neg (.k (.int 1)))) .nil))))⟩
/-- law (k28): _law_script, _law_town, _law_there, _law_none_here, _law_odd, _law_square, _law_one, _law_two, _law_due, _law_down, _law_what, _law_k, _law_sign -/
def df149 : Df := ⟨1, 13, (.cons (.as true 1 (.lst .nil)) (.cons (.par (.cons false 2 (.call 17 (.s 0 (.r 1 (.e (.k (.int 5)) .nil)))) (.cons false 3 (.call 20 (.s 0 (.r 1 .nil))) .nil))) (.cons (.ite (.cmp .NotEq (.lc (.call 148 (.e (.v 10) (.e (.v 3) (.e (.k .none) (.e (.k .none) .nil))))) (.n 10) (.rng1 (.k (.int 4))) .nil [10]) (.bin .Mult (.lst (.cons (.tup (.cons (.k (.str "refused")) (.cons (.k (.int 0)) .nil))) .nil)) (.k (.int 4)))) (.cons (.ret (.k (.bool false))) .nil) .nil) (.cons (.ite (.cmp .NotEq (.call 148 (.e (.k (.int 2)) (.e (.v 2) (.e (.v 3) (.e (.k .none) .nil))))) (.tup (.cons (.k (.str "refused")) (.cons (.k (.int 0)) .nil)))) (.cons (.ret (.k (.bool false))) .nil) .nil) (.cons (.par (.cons false 4 (.call 21 (.s 0 (.r 1 (.e (.v 2) .nil)))) (.cons false 5 (.call 16 (.s 0 (.r 1 (.e (.call 18 (.e (.v 2) .nil)) .nil)))) .nil))) (.cons (.ite (.or (.cmp .NotEq (.call 148 (.e (.k (.int 3)) (.e (.v 2) (.e (.v 4) (.e (.k .none) .nil))))) (.tup (.cons (.k (.str "square")) (.cons (.v 4) .nil)))) (.cons (.cmp .NotEq (.call 148 (.e (.k (.int 3)) (.e (.v 2) (.e (.v 5) (.e (.v 4) .nil))))) (.tup (.cons (.k (.str "square")) (.cons (.v 4) .nil)))) .nil)) (.cons (.ret (.k (.bool false))) .nil) .nil) (.cons (.ite (.cmp .NotEq (.call 148 (.e (.k (.int 3)) (.e (.v 2) (.e (.v 5) (.e (.v 5) .nil))))) (.tup (.cons (.ix (.ix (.v 2) (.ix (.v 5) (.k (.int 0)))) (.ix (.v 5) (.k (.int 1)))) .nil))) (.cons (.ret (.k (.bool false))) .nil) .nil) (.cons (.par (.cons false 6 (.call 16 (.s 0 (.r 1 (.e (.call 18 (.e (.v 2) .nil)) .nil)))) (.cons false 7 (.call 16 (.s 0 (.r 1 (.e (.call 18 (.e (.v 2) .nil)) .nil)))) .nil))) (.cons (.as true 8 (.lst .nil)) (.cons (.for_ (.n 9) (.rng1 (.bi .len (.v 2))) (.cons (.ite (.cmp .LtE (.bin .Mult (.bin .Sub (.v 9) (.ix (.v 6) (.k (.int 0)))) (.bin .Sub (.v 9) (.ix (.v 7) (.k (.int 0))))) (.k (.int 0))) (.cons (.app 8 (.me .join (.k (.str "")) (.lc (.v 12) (.t (.cons (.n 11) (.cons (.n 12) .nil))) (.enm (.ix (.v 2) (.v 9))) (.cons (.cmp .LtE (.bin .Mult (.bin .Sub (.v 11) (.ix (.v 6) (.k (.int 1)))) (.bin .Sub (.v 11) (.ix (.v 7) (.k (.int 1))))) (.k (.int 0))) .nil) [11, 12]))) .nil) .nil) .nil) [9]) (.cons (.frz 8) (.cons (.ret (.and (.cmp .Eq (.call 148 (.e (.k (.int 3)) (.e (.v 2) (.e (.v 6) (.e (.v 7) .nil))))) (.bi .tuple (.v 8))) (.cons (.cmp .Eq (.call 148 (.e (.k (.int 3)) (.e (.v 2) (.e (.v 7) (.e (.v 6) .nil))))) (.bi .tuple (.v 8))) .nil))) .nil))))))))))))⟩
/-- text_of (k29): floor -/
def df150 : Df := ⟨1, 1, (.cons (.ret (.me .join (.k (.str "/")) (.v 0))) .nil)⟩
/-- shown (k29): floor -/
def df151 : Df := ⟨1, 1, (.cons (.ex (.call 3 (.e (.v 0) .nil))) (.cons (.ret (.call 150 (.e (.v 0) .nil))) .nil))⟩
/-- read (k29): text, made -/
def df152 : Df := ⟨1, 2, (.cons (.ite (.not (.isi (.v 0) .str)) (.cons (.rse "NoText" true (.k (.str "no text"))) .nil) .nil) (.cons (.as false 1 (.bi .tuple (.me .split (.v 0) (.k (.str "/"))))) (.cons (.ite (.not (.call 2 (.e (.v 1) .nil))) (.cons (.rse "NoText" true (.k (.str "no floor is written so"))) .nil) .nil) (.cons (.ret (.v 1)) .nil))))⟩
/-- law (k29): _law_script, _law_town, _law_there, _law_text, _law_turn, _law_cut, _law_sign, _law_spoilt, _law_pieces, _law_good, _law_some, _law_bad, _law_piece, _law_sign_there, _law_what -/
def df155 : Df := ⟨1, 15, (.cons (.as true 1 (.lst .nil)) (.cons (.as false 2 (.call 17 (.s 0 (.r 1 (.e (.k (.int 6)) .nil))))) (.cons (.as false 3 (.call 154 (.e (.k (.int 0)) (.e (.v 2) .nil)))) (.cons (.ite (.or (.cmp .NotEq (.v 3) (.me .join (.k (.str "/")) (.bi .list (.v 2)))) (.cons (.cmp .NotEq (.call 154 (.e (.k (.int 2)) (.e (.v 3) .nil))) (.v 2)) .nil)) (.cons (.ret (.k (.bool false))) .nil) .nil) (.cons (.for_ (.n 4) (.rng1 (.k (.int 3))) (.cons (.as false 5 (.call 15 (.s 0 (.r 1 (.e (.bin .Add (.bi .len (.v 3)) (.k (.int 1))) .nil))))) (.cons (.as false 6 (.call 16 (.s 0 (.r 1 (.e (.lst (.cons (.k (.str "/")) (.cons (.k (.str "a")) (.cons (.k (.str "b")) (.cons (.k (.str "")) (.cons (.k (.str "c")) (.cons (.k (.str "A")) (.cons (.k (.str " ")) (.cons (.k (.str "//")) (.cons (.k (.str "/ab")) (.cons (.bin .Add (.k (.str "/")) (.ix (.v 2) (.k (.int 0)))) .nil))))))))))) .nil))))) (.cons (.as false 7 (.bin .Add (.bin .Add (.slH (.v 3) (.v 5)) (.v 6)) (.slT (.v 3) (.bin .Add (.v 5) (.call 15 (.s 0 (.r 1 (.e (.k (.int 3)) .nil)))))))) (.cons (.as false 8 (.bi .tuple (.me .split (.v 7) (.k (.str "/"))))) (.cons (.as false 9 (.and (.cmp .LtE (.bi .len (.v 8)) (.k (.int 6))) (.cons (.chn .LtE .LtE (.k (.int 1)) (.bi .len (.ix (.v 8) (.k (.int 0)))) (.k (.int 6))) .nil))) (.cons (.ite (.cmp .NotEq (.lc (.v 12) (.n 12) (.ex (.v 8)) (.cons (.or (.cmp .NotEq (.bi .len (.v 12)) (.bi .len (.ix (.v 8) (.k (.int 0))))) (.cons (.cmp .NotEq (.me .strip (.v 12) (.k (.str "ab"))) (.k (.str ""))) .nil)) .nil) [12]) (.lst .nil)) (.cons (.as false 9 (.k (.bool false))) .nil) .nil) (.cons (.ite (.cmp .NotEq (.lc (.v 13) (.n 13) (.ex (.v 7)) (.cons (.cmp .NotIn (.v 13) (.k (.str "ab/"))) .nil) [13]) (.lst .nil)) (.cons (.as false 9 (.k (.bool false))) .nil) .nil) (.cons (.ite (.cmp .NotEq (.call 154 (.e (.k (.int 2)) (.e (.v 7) .nil))) (.ite (.v 9) (.v 8) (.tup (.cons (.k (.str "refused")) (.cons (.k (.int 11)) .nil))))) (.cons (.ret (.k (.bool false))) .nil) .nil) .nil)))))))) [4, 5, 6, 7, 8, 9]) (.cons (.as false 10 (.lst (.cons (.k .none) (.cons (.k (.int 5)) (.cons (.k (.str "")) (.cons (.k (.str "/")) (.cons (.lst (.cons (.k (.str "ab")) .nil)) (.cons (.tup (.cons (.k (.str "ab")) .nil)) (.cons (.k (.str "ab/")) (.cons (.k (.str "/ab")) (.cons (.k (.str "ab/a")) (.cons (.k (.str "aaaaaaa")) (.cons (.bin .Add (.bin .Mult (.k (.str "a/")) (.k (.int 6))) (.k (.str "a"))) (.cons (.k (.bool true)) .nil)))))))))))))) (.cons (.as false 11 (.call 16 (.s 0 (.r 1 (.e (.v 10) .nil))))) (.cons (.ite (.cmp .NotEq (.call 154 (.e (.k (.int 2)) (.e (.v 11) .nil))) (.tup (.cons (.k (.str "refused")) (.cons (.k (.int 11)) .nil)))) (.cons (.ret (.k (.bool false))) .nil) .nil) (.cons (.ret (.cmp .Eq (.lc (.call 154 (.e (.v 14) (.e (.call 20 (.s 0 (.r 1 .nil))) .nil))) (.n 14) (.rng1 (.k (.int 2))) .nil [14]) (.bin .Mult (.lst (.cons (.tup (.cons (.k (.str "refused")) (.cons (.k (.int 0)) .nil))) .nil)) (.k (.int 2))))) .nil)))))))))⟩
/-- _law_same_number (k31): _law_got, _law_due_here -/
def df158 : Df := ⟨2, 2, (.cons (.ret (.and (.isi (.v 0) .int) (.cons (.not (.isi (.v 0) .bool)) (.cons (.cmp .Eq (.v 0) (.v 1)) .nil)))) .nil)⟩
/-- _law_beat (k31): _law_state_here, _law_many, _law_made, _law_again, _law_bead -/
def df162 : Df := ⟨2, 5, (.cons (.as true 2 (.lst .nil)) (.cons (.for_ (.n 3) (.rng1 (.v 1)) (.cons (.for_ (.n 4) (.rng1 (.bi .len (.ixM 0 (.k (.str "on"))))) (.cons (.ite (.and (.cmp .IsNot (.ix (.ixM 0 (.k (.str "on"))) (.v 4)) (.k .none)) (.cons (.call 161 (.r 0 (.e (.v 4) .nil))) .nil)) (.cons (.app 2 (.tup (.cons (.v 4) (.cons (.ix (.ixM 0 (.k (.str "ends"))) (.v 4)) .nil)))) .nil) .nil) .nil) [4]) .nil) [3, 4]) (.cons (.frz 2) (.cons (.ret (.v 2)) .nil))))⟩
/-- _law_due (k31): _law_state_here, _law_on, _law_gone, _law_bead, _law_spot, _law_end -/
def df164 : Df := ⟨1, 6, (.cons (.as false 1 (.lc (.tup (.cons (.v 3) (.cons (.ix (.v 4) (.k (.int 0))) (.cons (.ix (.v 4) (.k (.int 1))) .nil)))) (.t (.cons (.n 3) (.cons (.n 4) .nil))) (.enm (.ix (.v 0) (.k (.str "on")))) (.cons (.cmp .IsNot (.v 4) (.k .none)) .nil) [3, 4])) (.cons (.as false 2 (.lc (.tup (.cons (.v 3) (.cons (.v 5) .nil))) (.t (.cons (.n 3) (.cons (.n 5) .nil))) (.enm (.ix (.v 0) (.k (.str "ends")))) (.cons (.cmp .IsNot (.v 5) (.k .none)) .nil) [3, 5])) (.cons (.ret (.tup (.cons (.ix (.v 0) (.k (.str "floor"))) (.cons (.v 1) (.cons (.v 2) (.cons (.bi .len (.v 1)) (.cons (.me .join (.k (.str "/")) (.bi .list (.ix (.v 0) (.k (.str "floor"))))) .nil))))))) .nil)))⟩
/-- _law_pick (k34): _law_script, _law_town, _law_some_here -/
def df171 : Df := ⟨3, 3, (.cons (.ret (.ix (.v 2) (.call 15 (.s 0 (.r 1 (.e (.bi .len (.v 2)) .nil)))))) .nil)⟩
/-- leaves_at (k38): floor, place, square, side, turn, out, later, inner -/
def df181 : Df := ⟨2, 8, (.cons (.unp (.t (.cons (.n 2) (.cons (.n 3) .nil))) (.v 1)) (.cons (.for_ (.n 4) (.rng1 (.bin .Mult (.k (.int 2)) (.bi .len (.call 46 (.e (.v 0) .nil))))) (.cons (.as false 5 (.call 29 (.e (.call 7 (.e (.v 0) (.e (.v 2) .nil))) (.e (.v 3) .nil)))) (.cons (.unp (.t (.cons (.n 6) (.cons (.n 7) .nil))) (.call 31 (.e (.v 2) (.e (.v 5) .nil)))) (.cons (.ite (.not (.call 5 (.e (.v 0) (.e (.v 6) .nil)))) (.cons (.ret (.call 28 (.e (.v 0) (.e (.v 2) (.e (.v 5) .nil))))) .nil) .nil) (.cons (.par (.cons false 2 (.v 6) (.cons false 3 (.v 7) .nil))) .nil)))) [4, 5, 6, 7]) (.cons (.ret (.k .none)) .nil)))⟩
def tbl : Nat → Option Df
  | 0 => some df0
  | 1 => some df1
  | 2 => some df2
  | 3 => some df3
  | 4 => some df4
  | 5 => some df5
  | 6 => some df6
  | 7 => some df7
  | 8 => some df8
  | 9 => some df9
  | 10 => some df10
  | 11 => some df11
  | 12 => some df12
  | 13 => some df13
  | 14 => some df14
  | 15 => some df15
  | 16 => some df16
  | 17 => some df17
  | 18 => some df18
  | 20 => some df20
  | 21 => some df21
  | 22 => some df22
  | 24 => some df24
  | 25 => some df25
  | 26 => some df26
  | 27 => some df27
  | 28 => some df28
  | 29 => some df29
  | 30 => some df30
  | 31 => some df31
  | 32 => some df32
  | 33 => some df33
  | 34 => some df34
  | 35 => some df35
  | 36 => some df36
  | 37 => some df37
  | 38 => some df38
  | 39 => some df39
  | 40 => some df40
  | 41 => some df41
  | 42 => some df42
  | 43 => some df43
  | 44 => some df44
  | 45 => some df45
  | 46 => some df46
  | 47 => some df47
  | 48 => some df48
  | 49 => some df49
  | 50 => some df50
  | 51 => some df51
  | 52 => some df52
  | 53 => some df53
  | 55 => some df55
  | 56 => some df56
  | 57 => some df57
  | 58 => some df58
  | 60 => some df60
  | 61 => some df61
  | 62 => some df62
  | 63 => some df63
  | 64 => some df64
  | 65 => some df65
  | 66 => some df66
  | 67 => some df67
  | 68 => some df68
  | 69 => some df69
  | 70 => some df70
  | 71 => some df71
  | 72 => some df72
  | 73 => some df73
  | 74 => some df74
  | 75 => some df75
  | 77 => some df77
  | 78 => some df78
  | 79 => some df79
  | 80 => some df80
  | 81 => some df81
  | 82 => some df82
  | 83 => some df83
  | 84 => some df84
  | 85 => some df85
  | 86 => some df86
  | 88 => some df88
  | 89 => some df89
  | 90 => some df90
  | 91 => some df91
  | 92 => some df92
  | 93 => some df93
  | 94 => some df94
  | 95 => some df95
  | 96 => some df96
  | 97 => some df97
  | 100 => some df100
  | 101 => some df101
  | 103 => some df103
  | 105 => some df105
  | 106 => some df106
  | 107 => some df107
  | 108 => some df108
  | 109 => some df109
  | 110 => some df110
  | 111 => some df111
  | 113 => some df113
  | 114 => some df114
  | 115 => some df115
  | 117 => some df117
  | 118 => some df118
  | 119 => some df119
  | 120 => some df120
  | 121 => some df121
  | 122 => some df122
  | 123 => some df123
  | 125 => some df125
  | 126 => some df126
  | 127 => some df127
  | 128 => some df128
  | 129 => some df129
  | 130 => some df130
  | 131 => some df131
  | 133 => some df133
  | 134 => some df134
  | 138 => some df138
  | 139 => some df139
  | 140 => some df140
  | 141 => some df141
  | 142 => some df142
  | 143 => some df143
  | 144 => some df144
  | 146 => some df146
  | 149 => some df149
  | 150 => some df150
  | 151 => some df151
  | 152 => some df152
  | 155 => some df155
  | 158 => some df158
  | 162 => some df162
  | 164 => some df164
  | 171 => some df171
  | 181 => some df181
  | _ => none
theorem go0 (n : Nat) (args : List S) : evF tbl (n + 1) 0 args = runDf (evF tbl n) df0 args := rfl
theorem go1 (n : Nat) (args : List S) : evF tbl (n + 1) 1 args = runDf (evF tbl n) df1 args := rfl
theorem go2 (n : Nat) (args : List S) : evF tbl (n + 1) 2 args = runDf (evF tbl n) df2 args := rfl
theorem go3 (n : Nat) (args : List S) : evF tbl (n + 1) 3 args = runDf (evF tbl n) df3 args := rfl
theorem go4 (n : Nat) (args : List S) : evF tbl (n + 1) 4 args = runDf (evF tbl n) df4 args := rfl
theorem go5 (n : Nat) (args : List S) : evF tbl (n + 1) 5 args = runDf (evF tbl n) df5 args := rfl
theorem go6 (n : Nat) (args : List S) : evF tbl (n + 1) 6 args = runDf (evF tbl n) df6 args := rfl
theorem go7 (n : Nat) (args : List S) : evF tbl (n + 1) 7 args = runDf (evF tbl n) df7 args := rfl
theorem go8 (n : Nat) (args : List S) : evF tbl (n + 1) 8 args = runDf (evF tbl n) df8 args := rfl
theorem go9 (n : Nat) (args : List S) : evF tbl (n + 1) 9 args = runDf (evF tbl n) df9 args := rfl
theorem go10 (n : Nat) (args : List S) : evF tbl (n + 1) 10 args = runDf (evF tbl n) df10 args := rfl
theorem go11 (n : Nat) (args : List S) : evF tbl (n + 1) 11 args = runDf (evF tbl n) df11 args := rfl
theorem go12 (n : Nat) (args : List S) : evF tbl (n + 1) 12 args = runDf (evF tbl n) df12 args := rfl
theorem go13 (n : Nat) (args : List S) : evF tbl (n + 1) 13 args = runDf (evF tbl n) df13 args := rfl
theorem go14 (n : Nat) (args : List S) : evF tbl (n + 1) 14 args = runDf (evF tbl n) df14 args := rfl
theorem go15 (n : Nat) (args : List S) : evF tbl (n + 1) 15 args = runDf (evF tbl n) df15 args := rfl
theorem go16 (n : Nat) (args : List S) : evF tbl (n + 1) 16 args = runDf (evF tbl n) df16 args := rfl
theorem go17 (n : Nat) (args : List S) : evF tbl (n + 1) 17 args = runDf (evF tbl n) df17 args := rfl
theorem go18 (n : Nat) (args : List S) : evF tbl (n + 1) 18 args = runDf (evF tbl n) df18 args := rfl
theorem go20 (n : Nat) (args : List S) : evF tbl (n + 1) 20 args = runDf (evF tbl n) df20 args := rfl
theorem go21 (n : Nat) (args : List S) : evF tbl (n + 1) 21 args = runDf (evF tbl n) df21 args := rfl
theorem go22 (n : Nat) (args : List S) : evF tbl (n + 1) 22 args = runDf (evF tbl n) df22 args := rfl
theorem go24 (n : Nat) (args : List S) : evF tbl (n + 1) 24 args = runDf (evF tbl n) df24 args := rfl
theorem go25 (n : Nat) (args : List S) : evF tbl (n + 1) 25 args = runDf (evF tbl n) df25 args := rfl
theorem go26 (n : Nat) (args : List S) : evF tbl (n + 1) 26 args = runDf (evF tbl n) df26 args := rfl
theorem go27 (n : Nat) (args : List S) : evF tbl (n + 1) 27 args = runDf (evF tbl n) df27 args := rfl
theorem go28 (n : Nat) (args : List S) : evF tbl (n + 1) 28 args = runDf (evF tbl n) df28 args := rfl
theorem go29 (n : Nat) (args : List S) : evF tbl (n + 1) 29 args = runDf (evF tbl n) df29 args := rfl
theorem go30 (n : Nat) (args : List S) : evF tbl (n + 1) 30 args = runDf (evF tbl n) df30 args := rfl
theorem go31 (n : Nat) (args : List S) : evF tbl (n + 1) 31 args = runDf (evF tbl n) df31 args := rfl
theorem go32 (n : Nat) (args : List S) : evF tbl (n + 1) 32 args = runDf (evF tbl n) df32 args := rfl
theorem go33 (n : Nat) (args : List S) : evF tbl (n + 1) 33 args = runDf (evF tbl n) df33 args := rfl
theorem go34 (n : Nat) (args : List S) : evF tbl (n + 1) 34 args = runDf (evF tbl n) df34 args := rfl
theorem go35 (n : Nat) (args : List S) : evF tbl (n + 1) 35 args = runDf (evF tbl n) df35 args := rfl
theorem go36 (n : Nat) (args : List S) : evF tbl (n + 1) 36 args = runDf (evF tbl n) df36 args := rfl
theorem go37 (n : Nat) (args : List S) : evF tbl (n + 1) 37 args = runDf (evF tbl n) df37 args := rfl
theorem go38 (n : Nat) (args : List S) : evF tbl (n + 1) 38 args = runDf (evF tbl n) df38 args := rfl
theorem go39 (n : Nat) (args : List S) : evF tbl (n + 1) 39 args = runDf (evF tbl n) df39 args := rfl
theorem go40 (n : Nat) (args : List S) : evF tbl (n + 1) 40 args = runDf (evF tbl n) df40 args := rfl
theorem go41 (n : Nat) (args : List S) : evF tbl (n + 1) 41 args = runDf (evF tbl n) df41 args := rfl
theorem go42 (n : Nat) (args : List S) : evF tbl (n + 1) 42 args = runDf (evF tbl n) df42 args := rfl
theorem go43 (n : Nat) (args : List S) : evF tbl (n + 1) 43 args = runDf (evF tbl n) df43 args := rfl
theorem go44 (n : Nat) (args : List S) : evF tbl (n + 1) 44 args = runDf (evF tbl n) df44 args := rfl
theorem go45 (n : Nat) (args : List S) : evF tbl (n + 1) 45 args = runDf (evF tbl n) df45 args := rfl
theorem go46 (n : Nat) (args : List S) : evF tbl (n + 1) 46 args = runDf (evF tbl n) df46 args := rfl
theorem go47 (n : Nat) (args : List S) : evF tbl (n + 1) 47 args = runDf (evF tbl n) df47 args := rfl
theorem go48 (n : Nat) (args : List S) : evF tbl (n + 1) 48 args = runDf (evF tbl n) df48 args := rfl
theorem go49 (n : Nat) (args : List S) : evF tbl (n + 1) 49 args = runDf (evF tbl n) df49 args := rfl
theorem go50 (n : Nat) (args : List S) : evF tbl (n + 1) 50 args = runDf (evF tbl n) df50 args := rfl
theorem go51 (n : Nat) (args : List S) : evF tbl (n + 1) 51 args = runDf (evF tbl n) df51 args := rfl
theorem go52 (n : Nat) (args : List S) : evF tbl (n + 1) 52 args = runDf (evF tbl n) df52 args := rfl
theorem go53 (n : Nat) (args : List S) : evF tbl (n + 1) 53 args = runDf (evF tbl n) df53 args := rfl
theorem go55 (n : Nat) (args : List S) : evF tbl (n + 1) 55 args = runDf (evF tbl n) df55 args := rfl
theorem go56 (n : Nat) (args : List S) : evF tbl (n + 1) 56 args = runDf (evF tbl n) df56 args := rfl
theorem go57 (n : Nat) (args : List S) : evF tbl (n + 1) 57 args = runDf (evF tbl n) df57 args := rfl
theorem go58 (n : Nat) (args : List S) : evF tbl (n + 1) 58 args = runDf (evF tbl n) df58 args := rfl
theorem go60 (n : Nat) (args : List S) : evF tbl (n + 1) 60 args = runDf (evF tbl n) df60 args := rfl
theorem go61 (n : Nat) (args : List S) : evF tbl (n + 1) 61 args = runDf (evF tbl n) df61 args := rfl
theorem go62 (n : Nat) (args : List S) : evF tbl (n + 1) 62 args = runDf (evF tbl n) df62 args := rfl
theorem go63 (n : Nat) (args : List S) : evF tbl (n + 1) 63 args = runDf (evF tbl n) df63 args := rfl
theorem go64 (n : Nat) (args : List S) : evF tbl (n + 1) 64 args = runDf (evF tbl n) df64 args := rfl
theorem go65 (n : Nat) (args : List S) : evF tbl (n + 1) 65 args = runDf (evF tbl n) df65 args := rfl
theorem go66 (n : Nat) (args : List S) : evF tbl (n + 1) 66 args = runDf (evF tbl n) df66 args := rfl
theorem go67 (n : Nat) (args : List S) : evF tbl (n + 1) 67 args = runDf (evF tbl n) df67 args := rfl
theorem go68 (n : Nat) (args : List S) : evF tbl (n + 1) 68 args = runDf (evF tbl n) df68 args := rfl
theorem go69 (n : Nat) (args : List S) : evF tbl (n + 1) 69 args = runDf (evF tbl n) df69 args := rfl
theorem go70 (n : Nat) (args : List S) : evF tbl (n + 1) 70 args = runDf (evF tbl n) df70 args := rfl
theorem go71 (n : Nat) (args : List S) : evF tbl (n + 1) 71 args = runDf (evF tbl n) df71 args := rfl
theorem go72 (n : Nat) (args : List S) : evF tbl (n + 1) 72 args = runDf (evF tbl n) df72 args := rfl
theorem go73 (n : Nat) (args : List S) : evF tbl (n + 1) 73 args = runDf (evF tbl n) df73 args := rfl
theorem go74 (n : Nat) (args : List S) : evF tbl (n + 1) 74 args = runDf (evF tbl n) df74 args := rfl
theorem go75 (n : Nat) (args : List S) : evF tbl (n + 1) 75 args = runDf (evF tbl n) df75 args := rfl
theorem go77 (n : Nat) (args : List S) : evF tbl (n + 1) 77 args = runDf (evF tbl n) df77 args := rfl
theorem go78 (n : Nat) (args : List S) : evF tbl (n + 1) 78 args = runDf (evF tbl n) df78 args := rfl
theorem go79 (n : Nat) (args : List S) : evF tbl (n + 1) 79 args = runDf (evF tbl n) df79 args := rfl
theorem go80 (n : Nat) (args : List S) : evF tbl (n + 1) 80 args = runDf (evF tbl n) df80 args := rfl
theorem go81 (n : Nat) (args : List S) : evF tbl (n + 1) 81 args = runDf (evF tbl n) df81 args := rfl
theorem go82 (n : Nat) (args : List S) : evF tbl (n + 1) 82 args = runDf (evF tbl n) df82 args := rfl
theorem go83 (n : Nat) (args : List S) : evF tbl (n + 1) 83 args = runDf (evF tbl n) df83 args := rfl
theorem go84 (n : Nat) (args : List S) : evF tbl (n + 1) 84 args = runDf (evF tbl n) df84 args := rfl
theorem go85 (n : Nat) (args : List S) : evF tbl (n + 1) 85 args = runDf (evF tbl n) df85 args := rfl
theorem go86 (n : Nat) (args : List S) : evF tbl (n + 1) 86 args = runDf (evF tbl n) df86 args := rfl
theorem go88 (n : Nat) (args : List S) : evF tbl (n + 1) 88 args = runDf (evF tbl n) df88 args := rfl
theorem go89 (n : Nat) (args : List S) : evF tbl (n + 1) 89 args = runDf (evF tbl n) df89 args := rfl
theorem go90 (n : Nat) (args : List S) : evF tbl (n + 1) 90 args = runDf (evF tbl n) df90 args := rfl
theorem go91 (n : Nat) (args : List S) : evF tbl (n + 1) 91 args = runDf (evF tbl n) df91 args := rfl
theorem go92 (n : Nat) (args : List S) : evF tbl (n + 1) 92 args = runDf (evF tbl n) df92 args := rfl
theorem go93 (n : Nat) (args : List S) : evF tbl (n + 1) 93 args = runDf (evF tbl n) df93 args := rfl
theorem go94 (n : Nat) (args : List S) : evF tbl (n + 1) 94 args = runDf (evF tbl n) df94 args := rfl
theorem go95 (n : Nat) (args : List S) : evF tbl (n + 1) 95 args = runDf (evF tbl n) df95 args := rfl
theorem go96 (n : Nat) (args : List S) : evF tbl (n + 1) 96 args = runDf (evF tbl n) df96 args := rfl
theorem go97 (n : Nat) (args : List S) : evF tbl (n + 1) 97 args = runDf (evF tbl n) df97 args := rfl
theorem go100 (n : Nat) (args : List S) : evF tbl (n + 1) 100 args = runDf (evF tbl n) df100 args := rfl
theorem go101 (n : Nat) (args : List S) : evF tbl (n + 1) 101 args = runDf (evF tbl n) df101 args := rfl
theorem go103 (n : Nat) (args : List S) : evF tbl (n + 1) 103 args = runDf (evF tbl n) df103 args := rfl
theorem go105 (n : Nat) (args : List S) : evF tbl (n + 1) 105 args = runDf (evF tbl n) df105 args := rfl
theorem go106 (n : Nat) (args : List S) : evF tbl (n + 1) 106 args = runDf (evF tbl n) df106 args := rfl
theorem go107 (n : Nat) (args : List S) : evF tbl (n + 1) 107 args = runDf (evF tbl n) df107 args := rfl
theorem go108 (n : Nat) (args : List S) : evF tbl (n + 1) 108 args = runDf (evF tbl n) df108 args := rfl
theorem go109 (n : Nat) (args : List S) : evF tbl (n + 1) 109 args = runDf (evF tbl n) df109 args := rfl
theorem go110 (n : Nat) (args : List S) : evF tbl (n + 1) 110 args = runDf (evF tbl n) df110 args := rfl
theorem go111 (n : Nat) (args : List S) : evF tbl (n + 1) 111 args = runDf (evF tbl n) df111 args := rfl
theorem go113 (n : Nat) (args : List S) : evF tbl (n + 1) 113 args = runDf (evF tbl n) df113 args := rfl
theorem go114 (n : Nat) (args : List S) : evF tbl (n + 1) 114 args = runDf (evF tbl n) df114 args := rfl
theorem go115 (n : Nat) (args : List S) : evF tbl (n + 1) 115 args = runDf (evF tbl n) df115 args := rfl
theorem go117 (n : Nat) (args : List S) : evF tbl (n + 1) 117 args = runDf (evF tbl n) df117 args := rfl
theorem go118 (n : Nat) (args : List S) : evF tbl (n + 1) 118 args = runDf (evF tbl n) df118 args := rfl
theorem go119 (n : Nat) (args : List S) : evF tbl (n + 1) 119 args = runDf (evF tbl n) df119 args := rfl
theorem go120 (n : Nat) (args : List S) : evF tbl (n + 1) 120 args = runDf (evF tbl n) df120 args := rfl
theorem go121 (n : Nat) (args : List S) : evF tbl (n + 1) 121 args = runDf (evF tbl n) df121 args := rfl
theorem go122 (n : Nat) (args : List S) : evF tbl (n + 1) 122 args = runDf (evF tbl n) df122 args := rfl
theorem go123 (n : Nat) (args : List S) : evF tbl (n + 1) 123 args = runDf (evF tbl n) df123 args := rfl
theorem go125 (n : Nat) (args : List S) : evF tbl (n + 1) 125 args = runDf (evF tbl n) df125 args := rfl
theorem go126 (n : Nat) (args : List S) : evF tbl (n + 1) 126 args = runDf (evF tbl n) df126 args := rfl
theorem go127 (n : Nat) (args : List S) : evF tbl (n + 1) 127 args = runDf (evF tbl n) df127 args := rfl
theorem go128 (n : Nat) (args : List S) : evF tbl (n + 1) 128 args = runDf (evF tbl n) df128 args := rfl
theorem go129 (n : Nat) (args : List S) : evF tbl (n + 1) 129 args = runDf (evF tbl n) df129 args := rfl
theorem go130 (n : Nat) (args : List S) : evF tbl (n + 1) 130 args = runDf (evF tbl n) df130 args := rfl
theorem go131 (n : Nat) (args : List S) : evF tbl (n + 1) 131 args = runDf (evF tbl n) df131 args := rfl
theorem go133 (n : Nat) (args : List S) : evF tbl (n + 1) 133 args = runDf (evF tbl n) df133 args := rfl
theorem go134 (n : Nat) (args : List S) : evF tbl (n + 1) 134 args = runDf (evF tbl n) df134 args := rfl
theorem go138 (n : Nat) (args : List S) : evF tbl (n + 1) 138 args = runDf (evF tbl n) df138 args := rfl
theorem go139 (n : Nat) (args : List S) : evF tbl (n + 1) 139 args = runDf (evF tbl n) df139 args := rfl
theorem go140 (n : Nat) (args : List S) : evF tbl (n + 1) 140 args = runDf (evF tbl n) df140 args := rfl
theorem go141 (n : Nat) (args : List S) : evF tbl (n + 1) 141 args = runDf (evF tbl n) df141 args := rfl
theorem go142 (n : Nat) (args : List S) : evF tbl (n + 1) 142 args = runDf (evF tbl n) df142 args := rfl
theorem go143 (n : Nat) (args : List S) : evF tbl (n + 1) 143 args = runDf (evF tbl n) df143 args := rfl
theorem go144 (n : Nat) (args : List S) : evF tbl (n + 1) 144 args = runDf (evF tbl n) df144 args := rfl
theorem go146 (n : Nat) (args : List S) : evF tbl (n + 1) 146 args = runDf (evF tbl n) df146 args := rfl
theorem go149 (n : Nat) (args : List S) : evF tbl (n + 1) 149 args = runDf (evF tbl n) df149 args := rfl
theorem go150 (n : Nat) (args : List S) : evF tbl (n + 1) 150 args = runDf (evF tbl n) df150 args := rfl
theorem go151 (n : Nat) (args : List S) : evF tbl (n + 1) 151 args = runDf (evF tbl n) df151 args := rfl
theorem go152 (n : Nat) (args : List S) : evF tbl (n + 1) 152 args = runDf (evF tbl n) df152 args := rfl
theorem go155 (n : Nat) (args : List S) : evF tbl (n + 1) 155 args = runDf (evF tbl n) df155 args := rfl
theorem go158 (n : Nat) (args : List S) : evF tbl (n + 1) 158 args = runDf (evF tbl n) df158 args := rfl
theorem go162 (n : Nat) (args : List S) : evF tbl (n + 1) 162 args = runDf (evF tbl n) df162 args := rfl
theorem go164 (n : Nat) (args : List S) : evF tbl (n + 1) 164 args = runDf (evF tbl n) df164 args := rfl
theorem go171 (n : Nat) (args : List S) : evF tbl (n + 1) 171 args = runDf (evF tbl n) df171 args := rfl
theorem go181 (n : Nat) (args : List S) : evF tbl (n + 1) 181 args = runDf (evF tbl n) df181 args := rfl
theorem un0 (n : Nat) (a0 a1 a2 : S) : evF tbl (n + 1) 0 [a0, a1, a2] = finR 3 (evSs (evF tbl n) df0.body [a0, a1, a2]) := rfl
theorem un1 (n : Nat) (a0 a1 : S) : evF tbl (n + 1) 1 [a0, a1] = finR 2 (evSs (evF tbl n) df1.body [a0, a1, .un]) := rfl
theorem un2 (n : Nat) (a0 : S) : evF tbl (n + 1) 2 [a0] = finR 1 (evSs (evF tbl n) df2.body [a0, .un]) := rfl
theorem un3 (n : Nat) (a0 : S) : evF tbl (n + 1) 3 [a0] = finR 1 (evSs (evF tbl n) df3.body [a0]) := rfl
theorem un4 (n : Nat) (a0 a1 a2 : S) : evF tbl (n + 1) 4 [a0, a1, a2] = finR 3 (evSs (evF tbl n) df4.body [a0, a1, a2]) := rfl
theorem un5 (n : Nat) (a0 a1 : S) : evF tbl (n + 1) 5 [a0, a1] = finR 2 (evSs (evF tbl n) df5.body [a0, a1]) := rfl
theorem un6 (n : Nat) (a0 a1 : S) : evF tbl (n + 1) 6 [a0, a1] = finR 2 (evSs (evF tbl n) df6.body [a0, a1]) := rfl
theorem un7 (n : Nat) (a0 a1 : S) : evF tbl (n + 1) 7 [a0, a1] = finR 2 (evSs (evF tbl n) df7.body [a0, a1]) := rfl
theorem un8 (n : Nat) (a0 : S) : evF tbl (n + 1) 8 [a0] = finR 1 (evSs (evF tbl n) df8.body [a0]) := rfl
theorem un9 (n : Nat) (a0 a1 : S) : evF tbl (n + 1) 9 [a0, a1] = finR 2 (evSs (evF tbl n) df9.body [a0, a1]) := rfl
theorem un10 (n : Nat) (a0 : S) : evF tbl (n + 1) 10 [a0] = finR 1 (evSs (evF tbl n) df10.body [a0]) := rfl
theorem un11 (n : Nat) (a0 : S) : evF tbl (n + 1) 11 [a0] = finR 1 (evSs (evF tbl n) df11.body [a0, .un]) := rfl
theorem un12 (n : Nat) (a0 : S) : evF tbl (n + 1) 12 [a0] = finR 1 (evSs (evF tbl n) df12.body [a0, .un]) := rfl
theorem un13 (n : Nat) (a0 a1 : S) : evF tbl (n + 1) 13 [a0, a1] = finR 2 (evSs (evF tbl n) df13.body [a0, a1, .un, .un]) := rfl
theorem un14 (n : Nat) (a0 a1 a2 : S) : evF tbl (n + 1) 14 [a0, a1, a2] = finR 3 (evSs (evF tbl n) df14.body [a0, a1, a2, .un]) := rfl
theorem un15 (n : Nat) (a0 a1 a2 : S) : evF tbl (n + 1) 15 [a0, a1, a2] = finR 3 (evSs (evF tbl n) df15.body [a0, a1, a2]) := rfl
theorem un16 (n : Nat) (a0 a1 a2 : S) : evF tbl (n + 1) 16 [a0, a1, a2] = finR 3 (evSs (evF tbl n) df16.body [a0, a1, a2]) := rfl
theorem un17 (n : Nat) (a0 a1 a2 : S) : evF tbl (n + 1) 17 [a0, a1, a2] = finR 3 (evSs (evF tbl n) df17.body [a0, a1, a2, .un, .un, .un, .un, .un, .un, .un, .un, .un, .un, .un]) := rfl
theorem un18 (n : Nat) (a0 : S) : evF tbl (n + 1) 18 [a0] = finR 1 (evSs (evF tbl n) df18.body [a0, .un, .un, .un]) := rfl
theorem un20 (n : Nat) (a0 a1 : S) : evF tbl (n + 1) 20 [a0, a1] = finR 2 (evSs (evF tbl n) df20.body [a0, a1, .un]) := rfl
theorem un21 (n : Nat) (a0 a1 a2 : S) : evF tbl (n + 1) 21 [a0, a1, a2] = finR 3 (evSs (evF tbl n) df21.body [a0, a1, a2, .un, .un, .un]) := rfl
theorem un22 (n : Nat) (a0 a1 : S) : evF tbl (n + 1) 22 [a0, a1] = finR 2 (evSs (evF tbl n) df22.body [a0, a1]) := rfl
theorem un24 (n : Nat) (a0 : S) : evF tbl (n + 1) 24 [a0] = finR 1 (evSs (evF tbl n) df24.body [a0, .un, .un, .un, .un, .un, .un, .un, .un, .un, .un, .un, .un]) := rfl
theorem un25 (n : Nat) (a0 : S) : evF tbl (n + 1) 25 [a0] = finR 1 (evSs (evF tbl n) df25.body [a0]) := rfl
theorem un26 (n : Nat) (a0 a1 : S) : evF tbl (n + 1) 26 [a0, a1] = finR 2 (evSs (evF tbl n) df26.body [a0, a1]) := rfl
theorem un27 (n : Nat) (a0 a1 : S) : evF tbl (n + 1) 27 [a0, a1] = finR 2 (evSs (evF tbl n) df27.body [a0, a1, .un, .un]) := rfl
theorem un28 (n : Nat) (a0 a1 a2 : S) : evF tbl (n + 1) 28 [a0, a1, a2] = finR 3 (evSs (evF tbl n) df28.body [a0, a1, a2, .un, .un]) := rfl
theorem un29 (n : Nat) (a0 a1 : S) : evF tbl (n + 1) 29 [a0, a1] = finR 2 (evSs (evF tbl n) df29.body [a0, a1]) := rfl
theorem un30 (n : Nat) (a0 a1 : S) : evF tbl (n + 1) 30 [a0, a1] = finR 2 (evSs (evF tbl n) df30.body [a0, a1]) := rfl
theorem un31 (n : Nat) (a0 a1 : S) : evF tbl (n + 1) 31 [a0, a1] = finR 2 (evSs (evF tbl n) df31.body [a0, a1]) := rfl
theorem un32 (n : Nat) (a0 a1 a2 : S) : evF tbl (n + 1) 32 [a0, a1, a2] = finR 3 (evSs (evF tbl n) df32.body [a0, a1, a2, .un, .un, .un, .un, .un]) := rfl
theorem un33 (n : Nat) (a0 a1 : S) : evF tbl (n + 1) 33 [a0, a1] = finR 2 (evSs (evF tbl n) df33.body [a0, a1, .un, .un, .un, .un, .un]) := rfl
theorem un34 (n : Nat) (a0 a1 : S) : evF tbl (n + 1) 34 [a0, a1] = finR 2 (evSs (evF tbl n) df34.body [a0, a1]) := rfl
theorem un35 (n : Nat) (a0 a1 : S) : evF tbl (n + 1) 35 [a0, a1] = finR 2 (evSs (evF tbl n) df35.body [a0, a1]) := rfl
theorem un36 (n : Nat) (a0 : S) : evF tbl (n + 1) 36 [a0] = finR 1 (evSs (evF tbl n) df36.body [a0, .un]) := rfl
theorem un37 (n : Nat) (a0 : S) : evF tbl (n + 1) 37 [a0] = finR 1 (evSs (evF tbl n) df37.body [a0]) := rfl
theorem un38 (n : Nat) (a0 a1 : S) : evF tbl (n + 1) 38 [a0, a1] = finR 2 (evSs (evF tbl n) df38.body [a0, a1]) := rfl
theorem un39 (n : Nat) (a0 a1 : S) : evF tbl (n + 1) 39 [a0, a1] = finR 2 (evSs (evF tbl n) df39.body [a0, a1]) := rfl
theorem un40 (n : Nat) (a0 : S) : evF tbl (n + 1) 40 [a0] = finR 1 (evSs (evF tbl n) df40.body [a0, .un, .un, .un, .un]) := rfl
theorem un41 (n : Nat) (a0 : S) : evF tbl (n + 1) 41 [a0] = finR 1 (evSs (evF tbl n) df41.body [a0, .un, .un, .un, .un]) := rfl
theorem un42 (n : Nat) (a0 : S) : evF tbl (n + 1) 42 [a0] = finR 1 (evSs (evF tbl n) df42.body [a0, .un, .un, .un]) := rfl
theorem un43 (n : Nat) (a0 a1 a2 a3 : S) : evF tbl (n + 1) 43 [a0, a1, a2, a3] = finR 4 (evSs (evF tbl n) df43.body [a0, a1, a2, a3, .un, .un, .un]) := rfl
theorem un44 (n : Nat) (a0 : S) : evF tbl (n + 1) 44 [a0] = finR 1 (evSs (evF tbl n) df44.body [a0, .un, .un, .un, .un, .un, .un, .un]) := rfl
theorem un45 (n : Nat) (a0 : S) : evF tbl (n + 1) 45 [a0] = finR 1 (evSs (evF tbl n) df45.body [a0, .un, .un, .un, .un, .un, .un]) := rfl
theorem un46 (n : Nat) (a0 : S) : evF tbl (n + 1) 46 [a0] = finR 1 (evSs (evF tbl n) df46.body [a0, .un, .un, .un]) := rfl
theorem un47 (n : Nat) (a0 : S) : evF tbl (n + 1) 47 [a0] = finR 1 (evSs (evF tbl n) df47.body [a0, .un, .un, .un, .un, .un, .un, .un]) := rfl
theorem un48 (n : Nat) (a0 : S) : evF tbl (n + 1) 48 [a0] = finR 1 (evSs (evF tbl n) df48.body [a0]) := rfl
theorem un49 (n : Nat) (a0 : S) : evF tbl (n + 1) 49 [a0] = finR 1 (evSs (evF tbl n) df49.body [a0, .un]) := rfl
theorem un50 (n : Nat) (a0 : S) : evF tbl (n + 1) 50 [a0] = finR 1 (evSs (evF tbl n) df50.body [a0, .un, .un, .un]) := rfl
theorem un51 (n : Nat) (a0 : S) : evF tbl (n + 1) 51 [a0] = finR 1 (evSs (evF tbl n) df51.body [a0, .un, .un, .un, .un, .un, .un, .un, .un]) := rfl
theorem un52 (n : Nat) (a0 : S) : evF tbl (n + 1) 52 [a0] = finR 1 (evSs (evF tbl n) df52.body [a0, .un, .un, .un, .un, .un, .un]) := rfl
theorem un53 (n : Nat) (a0 : S) : evF tbl (n + 1) 53 [a0] = finR 1 (evSs (evF tbl n) df53.body [a0, .un, .un, .un, .un, .un, .un, .un, .un]) := rfl
theorem un55 (n : Nat) (a0 : S) : evF tbl (n + 1) 55 [a0] = finR 1 (evSs (evF tbl n) df55.body [a0, .un, .un, .un, .un, .un, .un, .un]) := rfl
theorem un56 (n : Nat) (a0 : S) : evF tbl (n + 1) 56 [a0] = finR 1 (evSs (evF tbl n) df56.body [a0, .un, .un, .un]) := rfl
theorem un57 (n : Nat) (a0 a1 : S) : evF tbl (n + 1) 57 [a0, a1] = finR 2 (evSs (evF tbl n) df57.body [a0, a1]) := rfl
theorem un58 (n : Nat) (a0 a1 : S) : evF tbl (n + 1) 58 [a0, a1] = finR 2 (evSs (evF tbl n) df58.body [a0, a1, .un, .un]) := rfl
theorem un60 (n : Nat) (a0 a1 : S) : evF tbl (n + 1) 60 [a0, a1] = finR 2 (evSs (evF tbl n) df60.body [a0, a1, .un, .un, .un]) := rfl
theorem un61 (n : Nat) (a0 : S) : evF tbl (n + 1) 61 [a0] = finR 1 (evSs (evF tbl n) df61.body [a0, .un, .un, .un, .un, .un]) := rfl
theorem un62 (n : Nat) (a0 : S) : evF tbl (n + 1) 62 [a0] = finR 1 (evSs (evF tbl n) df62.body [a0]) := rfl
theorem un63 (n : Nat) (a0 : S) : evF tbl (n + 1) 63 [a0] = finR 1 (evSs (evF tbl n) df63.body [a0, .un]) := rfl
theorem un64 (n : Nat) (a0 a1 : S) : evF tbl (n + 1) 64 [a0, a1] = finR 2 (evSs (evF tbl n) df64.body [a0, a1]) := rfl
theorem un65 (n : Nat) (a0 a1 : S) : evF tbl (n + 1) 65 [a0, a1] = finR 2 (evSs (evF tbl n) df65.body [a0, a1, .un, .un, .un, .un]) := rfl
theorem un66 (n : Nat) (a0 : S) : evF tbl (n + 1) 66 [a0] = finR 1 (evSs (evF tbl n) df66.body [a0, .un, .un, .un]) := rfl
theorem un67 (n : Nat) (a0 : S) : evF tbl (n + 1) 67 [a0] = finR 1 (evSs (evF tbl n) df67.body [a0, .un, .un, .un]) := rfl
theorem un68 (n : Nat) (a0 : S) : evF tbl (n + 1) 68 [a0] = finR 1 (evSs (evF tbl n) df68.body [a0, .un, .un, .un, .un, .un, .un, .un, .un, .un]) := rfl
theorem un69 (n : Nat) (a0 : S) : evF tbl (n + 1) 69 [a0] = finR 1 (evSs (evF tbl n) df69.body [a0, .un, .un, .un, .un, .un, .un, .un, .un, .un, .un, .un, .un]) := rfl
theorem un70 (n : Nat) (a0 : S) : evF tbl (n + 1) 70 [a0] = finR 1 (evSs (evF tbl n) df70.body [a0, .un, .un, .un, .un, .un, .un, .un, .un, .un, .un]) := rfl
theorem un71 (n : Nat) (a0 a1 a2 : S) : evF tbl (n + 1) 71 [a0, a1, a2] = finR 3 (evSs (evF tbl n) df71.body [a0, a1, a2]) := rfl
theorem un72 (n : Nat) (a0 a1 a2 : S) : evF tbl (n + 1) 72 [a0, a1, a2] = finR 3 (evSs (evF tbl n) df72.body [a0, a1, a2, .un, .un, .un]) := rfl
theorem un73 (n : Nat) (a0 a1 a2 : S) : evF tbl (n + 1) 73 [a0, a1, a2] = finR 3 (evSs (evF tbl n) df73.body [a0, a1, a2, .un]) := rfl
theorem un74 (n : Nat) (a0 a1 : S) : evF tbl (n + 1) 74 [a0, a1] = finR 2 (evSs (evF tbl n) df74.body [a0, a1]) := rfl
theorem un75 (n : Nat) (a0 : S) : evF tbl (n + 1) 75 [a0] = finR 1 (evSs (evF tbl n) df75.body [a0, .un, .un]) := rfl
theorem un77 (n : Nat) (a0 : S) : evF tbl (n + 1) 77 [a0] = finR 1 (evSs (evF tbl n) df77.body [a0, .un, .un, .un, .un, .un, .un, .un, .un]) := rfl
theorem un78 (n : Nat) (a0 a1 : S) : evF tbl (n + 1) 78 [a0, a1] = finR 2 (evSs (evF tbl n) df78.body [a0, a1, .un]) := rfl
theorem un79 (n : Nat) (a0 a1 : S) : evF tbl (n + 1) 79 [a0, a1] = finR 2 (evSs (evF tbl n) df79.body [a0, a1, .un]) := rfl
theorem un80 (n : Nat) (a0 a1 : S) : evF tbl (n + 1) 80 [a0, a1] = finR 2 (evSs (evF tbl n) df80.body [a0, a1, .un]) := rfl
theorem un81 (n : Nat) (a0 a1 : S) : evF tbl (n + 1) 81 [a0, a1] = finR 2 (evSs (evF tbl n) df81.body [a0, a1, .un, .un]) := rfl
theorem un82 (n : Nat) (a0 a1 a2 : S) : evF tbl (n + 1) 82 [a0, a1, a2] = finR 3 (evSs (evF tbl n) df82.body [a0, a1, a2, .un, .un, .un, .un, .un, .un, .un, .un, .un, .un, .un, .un, .un, .un, .un, .un, .un, .un]) := rfl
theorem un83 (n : Nat) (a0 : S) : evF tbl (n + 1) 83 [a0] = finR 1 (evSs (evF tbl n) df83.body [a0, .un, .un, .un, .un, .un, .un, .un, .un, .un, .un, .un]) := rfl
theorem un84 (n : Nat) (a0 a1 : S) : evF tbl (n + 1) 84 [a0, a1] = finR 2 (evSs (evF tbl n) df84.body [a0, a1, .un, .un, .un, .un, .un, .un, .un]) := rfl
theorem un85 (n : Nat) (a0 a1 : S) : evF tbl (n + 1) 85 [a0, a1] = finR 2 (evSs (evF tbl n) df85.body [a0, a1, .un, .un, .un, .un]) := rfl
theorem un86 (n : Nat) (a0 : S) : evF tbl (n + 1) 86 [a0] = finR 1 (evSs (evF tbl n) df86.body [a0, .un, .un, .un, .un, .un, .un, .un, .un, .un, .un, .un, .un, .un, .un]) := rfl
theorem un88 (n : Nat) (a0 : S) : evF tbl (n + 1) 88 [a0] = finR 1 (evSs (evF tbl n) df88.body [a0, .un, .un, .un, .un, .un, .un]) := rfl
theorem un89 (n : Nat) (a0 a1 : S) : evF tbl (n + 1) 89 [a0, a1] = finR 2 (evSs (evF tbl n) df89.body [a0, a1, .un, .un, .un]) := rfl
theorem un90 (n : Nat) (a0 a1 : S) : evF tbl (n + 1) 90 [a0, a1] = finR 2 (evSs (evF tbl n) df90.body [a0, a1, .un]) := rfl
theorem un91 (n : Nat) (a0 a1 : S) : evF tbl (n + 1) 91 [a0, a1] = finR 2 (evSs (evF tbl n) df91.body [a0, a1, .un, .un, .un]) := rfl
theorem un92 (n : Nat) (a0 : S) : evF tbl (n + 1) 92 [a0] = finR 1 (evSs (evF tbl n) df92.body [a0, .un, .un, .un, .un, .un, .un, .un, .un, .un]) := rfl
theorem un93 (n : Nat) (a0 a1 : S) : evF tbl (n + 1) 93 [a0, a1] = finR 2 (evSs (evF tbl n) df93.body [a0, a1]) := rfl
theorem un94 (n : Nat) (a0 : S) : evF tbl (n + 1) 94 [a0] = finR 1 (evSs (evF tbl n) df94.body [a0, .un, .un, .un, .un, .un, .un, .un, .un, .un, .un, .un, .un, .un, .un]) := rfl
theorem un95 (n : Nat) (a0 : S) : evF tbl (n + 1) 95 [a0] = finR 1 (evSs (evF tbl n) df95.body [a0, .un]) := rfl
theorem un96 (n : Nat) (a0 a1 : S) : evF tbl (n + 1) 96 [a0, a1] = finR 2 (evSs (evF tbl n) df96.body [a0, a1, .un, .un, .un, .un]) := rfl
theorem un97 (n : Nat) (a0 : S) : evF tbl (n + 1) 97 [a0] = finR 1 (evSs (evF tbl n) df97.body [a0]) := rfl
theorem un100 (n : Nat) (a0 : S) : evF tbl (n + 1) 100 [a0] = finR 1 (evSs (evF tbl n) df100.body [a0, .un, .un]) := rfl
theorem un101 (n : Nat) (a0 : S) : evF tbl (n + 1) 101 [a0] = finR 1 (evSs (evF tbl n) df101.body [a0, .un, .un, .un, .un, .un, .un, .un, .un, .un, .un, .un, .un, .un, .un, .un, .un]) := rfl
theorem un103 (n : Nat) (a0 : S) : evF tbl (n + 1) 103 [a0] = finR 1 (evSs (evF tbl n) df103.body [a0, .un, .un, .un, .un, .un, .un, .un, .un, .un, .un, .un]) := rfl
theorem un105 (n : Nat) (a0 : S) : evF tbl (n + 1) 105 [a0] = finR 1 (evSs (evF tbl n) df105.body [a0, .un, .un, .un, .un, .un, .un, .un, .un, .un]) := rfl
theorem un106 (n : Nat) (a0 a1 : S) : evF tbl (n + 1) 106 [a0, a1] = finR 2 (evSs (evF tbl n) df106.body [a0, a1]) := rfl
theorem un107 (n : Nat) (a0 : S) : evF tbl (n + 1) 107 [a0] = finR 1 (evSs (evF tbl n) df107.body [a0, .un, .un, .un, .un]) := rfl
theorem un108 (n : Nat) (a0 a1 : S) : evF tbl (n + 1) 108 [a0, a1] = finR 2 (evSs (evF tbl n) df108.body [a0, a1, .un, .un, .un, .un, .un]) := rfl
theorem un109 (n : Nat) (a0 a1 : S) : evF tbl (n + 1) 109 [a0, a1] = finR 2 (evSs (evF tbl n) df109.body [a0, a1, .un, .un, .un]) := rfl
theorem un110 (n : Nat) (a0 a1 : S) : evF tbl (n + 1) 110 [a0, a1] = finR 2 (evSs (evF tbl n) df110.body [a0, a1, .un, .un]) := rfl
theorem un111 (n : Nat) (a0 a1 : S) : evF tbl (n + 1) 111 [a0, a1] = finR 2 (evSs (evF tbl n) df111.body [a0, a1, .un, .un, .un, .un]) := rfl
theorem un113 (n : Nat) (a0 a1 : S) : evF tbl (n + 1) 113 [a0, a1] = finR 2 (evSs (evF tbl n) df113.body [a0, a1, .un, .un, .un]) := rfl
theorem un114 (n : Nat) (a0 a1 : S) : evF tbl (n + 1) 114 [a0, a1] = finR 2 (evSs (evF tbl n) df114.body [a0, a1, .un, .un, .un, .un]) := rfl
theorem un115 (n : Nat) (a0 : S) : evF tbl (n + 1) 115 [a0] = finR 1 (evSs (evF tbl n) df115.body [a0, .un, .un, .un, .un, .un, .un, .un, .un, .un, .un, .un, .un, .un]) := rfl
theorem un117 (n : Nat) (a0 : S) : evF tbl (n + 1) 117 [a0] = finR 1 (evSs (evF tbl n) df117.body [a0, .un, .un, .un, .un, .un]) := rfl
theorem un118 (n : Nat) (a0 a1 : S) : evF tbl (n + 1) 118 [a0, a1] = finR 2 (evSs (evF tbl n) df118.body [a0, a1, .un, .un]) := rfl
theorem un119 (n : Nat) (a0 a1 a2 a3 : S) : evF tbl (n + 1) 119 [a0, a1, a2, a3] = finR 4 (evSs (evF tbl n) df119.body [a0, a1, a2, a3, .un, .un, .un, .un, .un, .un, .un, .un]) := rfl
theorem un120 (n : Nat) (a0 a1 : S) : evF tbl (n + 1) 120 [a0, a1] = finR 2 (evSs (evF tbl n) df120.body [a0, a1, .un, .un, .un, .un, .un, .un, .un, .un]) := rfl
theorem un121 (n : Nat) (a0 : S) : evF tbl (n + 1) 121 [a0] = finR 1 (evSs (evF tbl n) df121.body [a0, .un, .un]) := rfl
theorem un122 (n : Nat) (a0 a1 : S) : evF tbl (n + 1) 122 [a0, a1] = finR 2 (evSs (evF tbl n) df122.body [a0, a1, .un, .un, .un, .un, .un]) := rfl
theorem un123 (n : Nat) (a0 a1 : S) : evF tbl (n + 1) 123 [a0, a1] = finR 2 (evSs (evF tbl n) df123.body [a0, a1, .un, .un, .un, .un, .un, .un, .un, .un, .un, .un, .un, .un, .un, .un, .un]) := rfl
theorem un125 (n : Nat) (a0 : S) : evF tbl (n + 1) 125 [a0] = finR 1 (evSs (evF tbl n) df125.body [a0]) := rfl
theorem un126 (n : Nat) (a0 a1 : S) : evF tbl (n + 1) 126 [a0, a1] = finR 2 (evSs (evF tbl n) df126.body [a0, a1]) := rfl
theorem un127 (n : Nat) (a0 : S) : evF tbl (n + 1) 127 [a0] = finR 1 (evSs (evF tbl n) df127.body [a0, .un, .un, .un, .un, .un, .un, .un, .un, .un, .un]) := rfl
theorem un128 (n : Nat) (a0 : S) : evF tbl (n + 1) 128 [a0] = finR 1 (evSs (evF tbl n) df128.body [a0]) := rfl
theorem un129 (n : Nat) (a0 a1 a2 : S) : evF tbl (n + 1) 129 [a0, a1, a2] = finR 3 (evSs (evF tbl n) df129.body [a0, a1, a2, .un, .un, .un, .un, .un, .un]) := rfl
theorem un130 (n : Nat) (a0 a1 a2 : S) : evF tbl (n + 1) 130 [a0, a1, a2] = finR 3 (evSs (evF tbl n) df130.body [a0, a1, a2, .un, .un, .un]) := rfl
theorem un131 (n : Nat) (a0 a1 a2 : S) : evF tbl (n + 1) 131 [a0, a1, a2] = finR 3 (evSs (evF tbl n) df131.body [a0, a1, a2, .un, .un]) := rfl
theorem un133 (n : Nat) (a0 : S) : evF tbl (n + 1) 133 [a0] = finR 1 (evSs (evF tbl n) df133.body [a0, .un, .un, .un, .un, .un, .un, .un, .un]) := rfl
theorem un134 (n : Nat) (a0 a1 a2 : S) : evF tbl (n + 1) 134 [a0, a1, a2] = finR 3 (evSs (evF tbl n) df134.body [a0, a1, a2, .un, .un, .un, .un, .un, .un, .un, .un, .un, .un, .un, .un, .un]) := rfl
theorem un138 (n : Nat) (a0 : S) : evF tbl (n + 1) 138 [a0] = finR 1 (evSs (evF tbl n) df138.body [a0, .un, .un, .un, .un, .un, .un, .un, .un, .un, .un, .un, .un, .un, .un]) := rfl
theorem un139 (n : Nat) (a0 : S) : evF tbl (n + 1) 139 [a0] = finR 1 (evSs (evF tbl n) df139.body [a0, .un, .un, .un, .un, .un, .un, .un, .un, .un, .un, .un, .un, .un, .un, .un, .un, .un]) := rfl
theorem un140 (n : Nat) (a0 : S) : evF tbl (n + 1) 140 [a0] = finR 1 (evSs (evF tbl n) df140.body [a0, .un, .un, .un]) := rfl
theorem un141 (n : Nat) (a0 : S) : evF tbl (n + 1) 141 [a0] = finR 1 (evSs (evF tbl n) df141.body [a0, .un]) := rfl
theorem un142 (n : Nat) (a0 : S) : evF tbl (n + 1) 142 [a0] = finR 1 (evSs (evF tbl n) df142.body [a0, .un, .un, .un, .un, .un, .un, .un, .un, .un, .un, .un, .un, .un, .un, .un, .un, .un, .un]) := rfl
theorem un143 (n : Nat) (a0 a1 : S) : evF tbl (n + 1) 143 [a0, a1] = finR 2 (evSs (evF tbl n) df143.body [a0, a1, .un, .un]) := rfl
theorem un144 (n : Nat) (a0 a1 a2 : S) : evF tbl (n + 1) 144 [a0, a1, a2] = finR 3 (evSs (evF tbl n) df144.body [a0, a1, a2, .un, .un, .un]) := rfl
theorem un146 (n : Nat) (a0 a1 a2 a3 : S) : evF tbl (n + 1) 146 [a0, a1, a2, a3] = finR 4 (evSs (evF tbl n) df146.body [a0, a1, a2, a3, .un, .un, .un, .un, .un, .un]) := rfl
theorem un149 (n : Nat) (a0 : S) : evF tbl (n + 1) 149 [a0] = finR 1 (evSs (evF tbl n) df149.body [a0, .un, .un, .un, .un, .un, .un, .un, .un, .un, .un, .un, .un]) := rfl
theorem un150 (n : Nat) (a0 : S) : evF tbl (n + 1) 150 [a0] = finR 1 (evSs (evF tbl n) df150.body [a0]) := rfl
theorem un151 (n : Nat) (a0 : S) : evF tbl (n + 1) 151 [a0] = finR 1 (evSs (evF tbl n) df151.body [a0]) := rfl
theorem un152 (n : Nat) (a0 : S) : evF tbl (n + 1) 152 [a0] = finR 1 (evSs (evF tbl n) df152.body [a0, .un]) := rfl
theorem un155 (n : Nat) (a0 : S) : evF tbl (n + 1) 155 [a0] = finR 1 (evSs (evF tbl n) df155.body [a0, .un, .un, .un, .un, .un, .un, .un, .un, .un, .un, .un, .un, .un, .un]) := rfl
theorem un158 (n : Nat) (a0 a1 : S) : evF tbl (n + 1) 158 [a0, a1] = finR 2 (evSs (evF tbl n) df158.body [a0, a1]) := rfl
theorem un162 (n : Nat) (a0 a1 : S) : evF tbl (n + 1) 162 [a0, a1] = finR 2 (evSs (evF tbl n) df162.body [a0, a1, .un, .un, .un]) := rfl
theorem un164 (n : Nat) (a0 : S) : evF tbl (n + 1) 164 [a0] = finR 1 (evSs (evF tbl n) df164.body [a0, .un, .un, .un, .un, .un]) := rfl
theorem un171 (n : Nat) (a0 a1 a2 : S) : evF tbl (n + 1) 171 [a0, a1, a2] = finR 3 (evSs (evF tbl n) df171.body [a0, a1, a2]) := rfl
theorem un181 (n : Nat) (a0 a1 : S) : evF tbl (n + 1) 181 [a0, a1] = finR 2 (evSs (evF tbl n) df181.body [a0, a1, .un, .un, .un, .un, .un, .un]) := rfl
end AF

set_option autoImplicit true
set_option relaxedAutoImplicit true
namespace AF
open PySem L2
/-! ## 33. the meaning, clause by clause -/
def tstD {α : Type} (x : PyData) (t f : R α) : R α := match x with
  | .bool true => t
  | .bool false => f
  | _ => .st
@[simp] theorem tstD_bool {α : Type} (b : Bool) (t f : R α) : tstD (.bool b) t f = if b then t else f := by cases b <;> rfl
def tstO {α : Type} (x : PyData) (t f : R α) : R α := match x with
  | .bool false => f
  | .bool true => t
  | _ => .st
@[simp] theorem tstO_bool {α : Type} (b : Bool) (t f : R α) : tstO (.bool b) t f = if b then t else f := by cases b <;> rfl
@[simp] theorem ev_v : ev cf (.v i) ρ = (R.of (getI ρ i) ρ) := (rfl)
@[simp] theorem ev_k : ev cf (.k d) ρ = (.ok d ρ) := (rfl)
@[simp] theorem ev_g : ev cf (.g z1 d) ρ = (.ok d ρ) := (rfl)
@[simp] theorem ev_gix : ev cf (.gix z1 d a b) ρ = ((ev cf a ρ).bind fun x ρ1 => (R.of (rowD d x) ρ1).bind fun r ρ2 => (ev cf b ρ2).bind fun y ρ3 => R.of (colD r y) ρ3) := (rfl)
@[simp] theorem ev_gin : ev cf (.gin z1 d neg a) ρ = ((ev cf a ρ).bind fun x ρ1 => R.of (tsD d neg x) ρ1) := (rfl)
@[simp] theorem ev_bin : ev cf (.bin op a b) ρ = ((ev cf a ρ).bind fun x ρ1 => (ev cf b ρ1).bind fun y ρ2 => R.of (binD op x y) ρ2) := (rfl)
@[simp] theorem ev_neg : ev cf (.neg a) ρ = ((ev cf a ρ).bind fun x ρ1 => match x with
    | .int i => .ok (.int (-i)) ρ1
    | _ => .st) := (rfl)
@[simp] theorem ev_cmp : ev cf (.cmp op a b) ρ = ((ev cf a ρ).bind fun x ρ1 => (ev cf b ρ1).bind fun y ρ2 => R.of ((cmpD op x y).map .bool) ρ2) := (rfl)
@[simp] theorem ev_chn : ev cf (.chn op op2 a b c) ρ = ((ev cf a ρ).bind fun x ρ1 => (ev cf b ρ1).bind fun y ρ2 => (R.of (cmpD op x y) ρ2).bind fun t ρ3 =>
      if t then (ev cf c ρ3).bind fun z ρ4 => R.of ((cmpD op2 y z).map .bool) ρ4 else .ok (.bool false) ρ3) := (rfl)
@[simp] theorem ev_and : ev cf (.and a es) ρ = ((ev cf a ρ).bind fun x ρ1 => tstD x (evAnd cf es ρ1) (.ok (.bool false) ρ1)) := (rfl)
@[simp] theorem ev_or : ev cf (.or a es) ρ = ((ev cf a ρ).bind fun x ρ1 => tstO x (.ok (.bool true) ρ1) (evOr cf es ρ1)) := (rfl)
@[simp] theorem ev_not : ev cf (.not a) ρ = ((ev cf a ρ).bind fun x ρ1 => match x with
    | .bool b => .ok (.bool (!b)) ρ1
    | _ => .st) := (rfl)
@[simp] theorem ev_ite : ev cf (.ite c a b) ρ = ((ev cf c ρ).bind fun x ρ1 => tstD x (ev cf a ρ1) (ev cf b ρ1)) := (rfl)
@[simp] theorem ev_tup : ev cf (.tup es) ρ = ((evs cf es ρ).bind fun xs ρ1 => .ok (.tuple xs) ρ1) := (rfl)
@[simp] theorem ev_lst : ev cf (.lst es) ρ = ((evs cf es ρ).bind fun xs ρ1 => .ok (.list xs) ρ1) := (rfl)
@[simp] theorem ev_ix : ev cf (.ix a b) ρ = ((ev cf a ρ).bind fun x ρ1 => (ev cf b ρ1).bind fun y ρ2 => R.of (itemD x y) ρ2) := (rfl)
@[simp] theorem ev_slT : ev cf (.slT a lo) ρ = ((ev cf a ρ).bind fun x ρ1 => (ev cf lo ρ1).bind fun i ρ2 => match i with
    | .int i => R.of (sliceD (some i) none x) ρ2
    | _ => .st) := (rfl)
@[simp] theorem ev_slH : ev cf (.slH a hi) ρ = ((ev cf a ρ).bind fun x ρ1 => (ev cf hi ρ1).bind fun i ρ2 => match i with
    | .int i => R.of (sliceD none (some i) x) ρ2
    | _ => .st) := (rfl)
@[simp] theorem ev_slB : ev cf (.slB a lo hi) ρ = ((ev cf a ρ).bind fun x ρ1 => (ev cf lo ρ1).bind fun i ρ2 => match i with
    | .int i => (ev cf hi ρ2).bind fun j ρ3 => match j with
      | .int j => R.of (sliceD (some i) (some j) x) ρ3
      | _ => .st
    | _ => .st) := (rfl)
@[simp] theorem ev_rev : ev cf (.rev a) ρ = ((ev cf a ρ).bind fun x ρ1 => R.of (revD x) ρ1) := (rfl)
@[simp] theorem ev_bi : ev cf (.bi f a) ρ = ((ev cf a ρ).bind fun x ρ1 => R.of (biD f x) ρ1) := (rfl)
@[simp] theorem ev_mm : ev cf (.mm mx a b) ρ = ((ev cf a ρ).bind fun x ρ1 => (ev cf b ρ1).bind fun y ρ2 => R.of (mmD mx x y) ρ2) := (rfl)
@[simp] theorem ev_isi : ev cf (.isi a t) ρ = ((ev cf a ρ).bind fun x ρ1 => R.of ((isD t x).map .bool) ρ1) := (rfl)
@[simp] theorem ev_me : ev cf (.me m a b) ρ = ((ev cf a ρ).bind fun x ρ1 => if meT m x then (ev cf b ρ1).bind fun y ρ2 => R.of (meD m x y) ρ2 else .st) := (rfl)
@[simp] theorem ev_get2 : ev cf (.get2 a b c) ρ = ((ev cf a ρ).bind fun x ρ1 => if isDict x then (ev cf b ρ1).bind fun y ρ2 => (ev cf c ρ2).bind fun z ρ3 => R.of (get2D x y z) ρ3 else .st) := (rfl)
@[simp] theorem ev_call : ev cf (.call idd as) ρ = ((evas cf as ρ).bind fun xs ρ1 => callR cf idd xs ρ1) := (rfl)
@[simp] theorem ev_sel : ev cf (.sel ids i as) ρ = ((ev cf i ρ).bind fun x ρ1 => match x with
    | .int j => (R.of (atI ids j) ρ1).bind fun idd ρ2 => (evas cf as ρ2).bind fun xs ρ3 => callR cf idd xs ρ3
    | _ => .st) := (rfl)
@[simp] theorem ev_dic0 : ev cf (.dic0) ρ = (.ok (.dict []) ρ) := (rfl)
@[simp] theorem ev_dic1 : ev cf (.dic1 a b) ρ = ((ev cf a ρ).bind fun x ρ1 => (ev cf b ρ1).bind fun y ρ2 => if isKey x then .ok (.dict [(x, y)]) ρ2 else .st) := (rfl)
@[simp] theorem ev_lenM : ev cf (.lenM i) ρ = (R.of ((getM ρ i).bind fun m => match m with
    | .l xs => some (.int xs.length)
    | _ => none) ρ) := (rfl)
@[simp] theorem ev_ixM : ev cf (.ixM i b) ρ = (R.gd (getM ρ i) <| (ev cf b ρ).bind fun y ρ1 => R.of ((getM ρ1 i).bind fun m => match m with
    | .l xs => itemD (.list xs) y
    | .d kvs => itemD (.dict kvs) y
    | _ => none) ρ1) := (rfl)
@[simp] theorem ev_inM : ev cf (.inM neg a i) ρ = ((ev cf a ρ).bind fun x ρ1 => R.of (((getM ρ1 i).bind (inM x)).map fun b => .bool (if neg then !b else b)) ρ1) := (rfl)
@[simp] theorem ev_nilM : ev cf (.nilM neg i) ρ = (R.of ((getM ρ i).bind fun m => match m with
    | .l xs => if xs.all (sh 7) then some (.bool (if neg then !xs.isEmpty else xs.isEmpty)) else none
    | _ => none) ρ) := (rfl)
@[simp] theorem ev_getM : ev cf (.getM i a b) ρ = (R.gd (getD ρ i) <| (ev cf a ρ).bind fun x ρ1 => (ev cf b ρ1).bind fun y ρ2 => R.of ((getM ρ2 i).bind fun m => match m with
    | .d kvs => get2D (.dict kvs) x y
    | _ => none) ρ2) := (rfl)
@[simp] theorem ev_popM : ev cf (.popM i) ρ = (R.gd (getL ρ i) <| (R.of ((getL ρ i).bind fun xs => xs.getLast?) ρ).bind fun x ρ1 => (R.of ((getL ρ i).bind fun xs => putM ρ i (.l xs.dropLast)) ρ1).bind fun ρ' _ => .ok x ρ') := (rfl)
@[simp] theorem ev_lenS : ev cf (.lenS i) ρ = (R.of ((getS ρ i).map fun ns => .int ns.length) ρ) := (rfl)
@[simp] theorem ev_ixS : ev cf (.ixS i b) ρ = (R.gd (getS ρ i) <| (ev cf b ρ).bind fun y ρ1 => R.of ((getS ρ1 i).bind fun ns => itemD (.list (ns.map .int)) y) ρ1) := (rfl)
@[simp] theorem ev_nilS : ev cf (.nilS i) ρ = (R.of ((getS ρ i).map fun ns => .bool ns.isEmpty) ρ) := (rfl)
@[simp] theorem evs_nil : evs cf (.nil) ρ = (.ok [] ρ) := (rfl)
@[simp] theorem evs_cons : evs cf (.cons e es) ρ = ((ev cf e ρ).bind fun x ρ1 => (evs cf es ρ1).bind fun xs ρ2 => .ok (x :: xs) ρ2) := (rfl)
@[simp] theorem evAnd_nil : evAnd cf (.nil) ρ = (.ok (.bool true) ρ) := (rfl)
@[simp] theorem evAnd_cons : evAnd cf (.cons e es) ρ = ((ev cf e ρ).bind fun x ρ1 => tstD x (evAnd cf es ρ1) (.ok (.bool false) ρ1)) := (rfl)
@[simp] theorem evOr_nil : evOr cf (.nil) ρ = (.ok (.bool false) ρ) := (rfl)
@[simp] theorem evOr_cons : evOr cf (.cons e es) ρ = ((ev cf e ρ).bind fun x ρ1 => tstO x (.ok (.bool true) ρ1) (evOr cf es ρ1)) := (rfl)
@[simp] theorem evas_nil : evas cf (.nil) ρ = (.ok [] ρ) := (rfl)
@[simp] theorem evas_e : evas cf (.e e as) ρ = ((ev cf e ρ).bind fun x ρ1 => (evas cf as ρ1).bind fun xs ρ2 => .ok (.d x :: xs) ρ2) := (rfl)
@[simp] theorem evas_r : evas cf (.r i as) ρ = (R.gd (getM ρ i) <| (evas cf as ρ).bind fun xs ρ2 => .ok (.r i :: xs) ρ2) := (rfl)
@[simp] theorem evas_s : evas cf (.s i as) ρ = (R.gd (getS ρ i) <| (evas cf as ρ).bind fun xs ρ2 => .ok (.s i :: xs) ρ2) := (rfl)
@[simp] theorem evIt_ex : evIt cf (.ex e) ρ = ((ev cf e ρ).bind fun x ρ1 => R.of (itemsD x) ρ1) := (rfl)
@[simp] theorem evIt_rng1 : evIt cf (.rng1 e) ρ = ((ev cf e ρ).bind fun x ρ1 => match x with
    | .int j => if j ≤ 1000000 ∧ -1000000 ≤ j then .ok (rangeD 0 j.toNat) ρ1 else .st
    | _ => .st) := (rfl)
@[simp] theorem evIt_rng2 : evIt cf (.rng2 a b) ρ = ((ev cf a ρ).bind fun x ρ1 => (ev cf b ρ1).bind fun y ρ2 => match x, y with
    | .int i, .int j => if (j ≤ 1000000 ∧ -1000000 ≤ j) ∧ (i ≤ 1000000 ∧ -1000000 ≤ i) then .ok (rangeD i (j - i).toNat) ρ2 else .st
    | _, _ => .st) := (rfl)
@[simp] theorem evIt_enm : evIt cf (.enm e) ρ = ((ev cf e ρ).bind fun x ρ1 => match x with
    | .list xs => .ok (enumD 0 xs) ρ1
    | _ => .st) := (rfl)
@[simp] theorem evIt_zip : evIt cf (.zip a b) ρ = ((ev cf a ρ).bind fun x ρ1 => (ev cf b ρ1).bind fun y ρ2 => match x, y with
    | .list xs, .list ys => .ok (zipD xs ys) ρ2
    | .tuple xs, .tuple ys => .ok (zipD xs ys) ρ2
    | _, _ => .st) := (rfl)
@[simp] theorem evPs_nil : evPs cf (.nil) ρ = (.ok [] ρ) := (rfl)
@[simp] theorem evPs_cons : evPs cf (.cons own i e ps) ρ = ((ev cf e ρ).bind fun x ρ1 => (R.of (if own then (ownD x).map .mu else some (.im x)) ρ1).bind fun s ρ2 =>
      (evPs cf ps ρ2).bind fun ss ρ3 => .ok ((i, s) :: ss) ρ3) := (rfl)
@[simp] theorem evS_as : evS cf (.as own i e) ρ = ((ev cf e ρ).bind fun x ρ1 => (R.of (if own then (ownD x).map .mu else some (.im x)) ρ1).bind fun s ρ2 => (R.of (setS ρ2 i s) ρ2).bind fun ρ3 _ => .ok .nx ρ3) := (rfl)
@[simp] theorem evS_unp : evS cf (.unp t e) ρ = ((ev cf e ρ).bind fun x ρ1 => (R.of (bindT t x ρ1) ρ1).bind fun ρ3 _ => .ok .nx ρ3) := (rfl)
@[simp] theorem evS_par : evS cf (.par ps) ρ = ((evPs cf ps ρ).bind fun ss ρ1 => (R.of (setAll ss ρ1) ρ1).bind fun ρ3 _ => .ok .nx ρ3) := (rfl)
@[simp] theorem evS_app : evS cf (.app i e) ρ = (R.gd (getL ρ i) <| (ev cf e ρ).bind fun x ρ1 => (R.of ((getM ρ1 i).bind fun m => match m with
    | .l xs => if xs.length < lim then putM ρ1 i (.l (xs ++ [x])) else none
    | _ => none) ρ1).bind fun ρ2 _ => .ok .nx ρ2) := (rfl)
@[simp] theorem evS_ext : evS cf (.ext i e) ρ = (R.gd (getL ρ i) <| (ev cf e ρ).bind fun x ρ1 => (R.of ((getM ρ1 i).bind fun m => match m, x with
    | .l xs, .list ys => if xs.length + ys.length < lim then putM ρ1 i (.l (xs ++ ys)) else none
    | _, _ => none) ρ1).bind fun ρ2 _ => .ok .nx ρ2) := (rfl)
@[simp] theorem evS_set : evS cf (.set i a e) ρ = ((ev cf e ρ).bind fun x ρ1 => R.gd (getM ρ1 i) <| (ev cf a ρ1).bind fun k ρ2 => (R.of (setM ρ2 i x k) ρ2).bind fun ρ3 _ => .ok .nx ρ3) := (rfl)
@[simp] theorem evS_upd : evS cf (.upd i e) ρ = (R.gd (getD ρ i) <| (ev cf e ρ).bind fun x ρ1 => (R.of ((getM ρ1 i).bind fun m => match m, x with
    | .d kvs, .dict more => if kvs.length + more.length < lim ∧ (!kvs.isEmpty || hashOk more) then putM ρ1 i (.d (more.foldl (fun acc p => putD acc p.1 p.2) kvs)) else none
    | _, _ => none) ρ1).bind fun ρ2 _ => .ok .nx ρ2) := (rfl)
@[simp] theorem evS_ex : evS cf (.ex e) ρ = ((ev cf e ρ).bind fun _ ρ1 => .ok .nx ρ1) := (rfl)
@[simp] theorem evS_ret : evS cf (.ret e) ρ = ((ev cf e ρ).bind fun x ρ1 => .ok (.rt x) ρ1) := (rfl)
@[simp] theorem evS_brk : evS cf (.brk) ρ = (.ok .brk ρ) := (rfl)
@[simp] theorem evS_cnt : evS cf (.cnt) ρ = (.ok .cnt ρ) := (rfl)
@[simp] theorem evS_ite : evS cf (.ite c a b) ρ = ((ev cf c ρ).bind fun x ρ1 => tstD x (evSs cf a ρ1) (evSs cf b ρ1)) := (rfl)
@[simp] theorem evS_rse : evS cf (.rse c txt e) ρ = (if txt then .ex c none ρ else (ev cf e ρ).bind fun x ρ1 => .ex c (some x) ρ1) := (rfl)
@[simp] theorem evS_frz : evS cf (.frz i) ρ = (R.of (match ρ[i]? with
    | some (.mu m) => some (.nx, ρ.set i (.im m.toD))
    | _ => none) ρ |>.bind fun p _ => .ok p.1 p.2) := (rfl)
@[simp] theorem evS_fgt : evS cf (.fgt is) ρ = (.ok .nx (forget is ρ)) := (rfl)
@[simp] theorem evS_asL : evS cf (.asL i) ρ = ((R.of (setS ρ i (.mu (.ll []))) ρ).bind fun ρ3 _ => .ok .nx ρ3) := (rfl)
@[simp] theorem evS_appL : evS cf (.appL i e) ρ = (R.gd (getLL ρ i) <| (ev cf e ρ).bind fun x ρ1 => (R.of (appLL ρ1 i x) ρ1).bind fun ρ2 _ => .ok .nx ρ2) := (rfl)
@[simp] theorem evS_set2 : evS cf (.set2 i a b e) ρ = ((ev cf e ρ).bind fun x ρ1 => (R.of (setLL ρ1 i a b x) ρ1).bind fun ρ2 _ => .ok .nx ρ2) := (rfl)
@[simp] theorem evS_mset : evS cf (.mset ts es) ρ = ((evs cf es ρ).bind fun xs ρ1 => setMs cf ts xs ρ1) := (rfl)
@[simp] theorem evSs_nil : evSs cf (.nil) ρ = (.ok .nx ρ) := (rfl)
@[simp] theorem outS_un : outS .un = .un := (rfl)
@[simp] theorem outS_im (d : PyData) : outS (.im d) = .un := (rfl)
@[simp] theorem outS_mu (m : M) : outS (.mu m) = .un := (rfl)
@[simp] theorem outS_rf (m : M) : outS (.rf m) = .rf m := (rfl)
@[simp] theorem outS_sc (m : List Int) : outS (.sc m) = .un := (rfl)
@[simp] theorem R.gd_some {α β : Type} (a : α) (r : R β) : R.gd (some a) r = r := (rfl)
@[simp] theorem evS_for_ (cf : CallF) (t : Tg) (it : It) (b : Ss) (fg : List Nat) (ρ : En) : evS cf (.for_ t it b fg) ρ = (evIt cf it ρ).bind fun xs ρ1 => forLoop (forF cf t b) (forget fg) xs ρ1 := (rfl)
@[simp] theorem ev_lc (cf : CallF) (e : E) (t : Tg) (it : It) (cs : Es) (own : List Nat) (ρ : En) : ev cf (.lc e t it cs own) ρ = (evIt cf it ρ).bind fun xs ρ1 => if cleanAt ρ1 own then ((lcLoop (lcF cf e t cs) (forget own) xs [] (forget own ρ1)).calm).bind fun ys ρ6 => .ok (.list ys) (restore own ρ1 ρ6) else .st := (rfl)
/-- a while's test -/
def whT (cf : CallF) (c : E) (ρ : En) : R Bool := (ev cf c ρ).bind fun x ρ1 => R.of (asBool x) ρ1
@[simp] theorem evS_whl (cf : CallF) (n : Nat) (c : E) (b : Ss) (fg : List Nat) (ρ : En) : evS cf (.whl n c b fg) ρ = whlLoop (whT cf c) (evSs cf b) (forget fg) n ρ := (rfl)
theorem forF_eq (cf : CallF) (t : Tg) (b : Ss) (x : PyData) (ρ : En) : forF cf t b x ρ = (R.of (bindT t x ρ) ρ).bind fun ρ3 _ => evSs cf b ρ3 := (rfl)
theorem lcF_eq (cf : CallF) (e : E) (t : Tg) (cs : Es) (x : PyData) (ρ2 : En) : lcF cf e t cs x ρ2 = (R.of (bindT t x ρ2) ρ2).bind fun ρ3 _ => (evAnd cf cs ρ3).bind fun b ρ4 => match b with
  | .bool true => (ev cf e ρ4).bind fun y ρ5 => .ok (some y) ρ5
  | .bool false => .ok none ρ4
  | _ => .st := (rfl)
@[simp] theorem calm_ok {α : Type} (a : α) (ρ : En) : (R.ok a ρ).calm = .ok a ρ := (rfl)
@[simp] theorem getI_s (s : S) (ρ : En) (i : Nat) : getI (s :: ρ) (i + 1) = getI ρ i := (rfl)
@[simp] theorem getI_0 (d : PyData) (ρ : En) : getI (.im d :: ρ) 0 = some d := (rfl)
@[simp] theorem getS_s (s : S) (ρ : En) (i : Nat) : getS (s :: ρ) (i + 1) = getS ρ i := (rfl)
@[simp] theorem getS_0 (d : List Int) (ρ : En) : getS (.sc d :: ρ) 0 = some d := (rfl)
@[simp] theorem getM_s (s : S) (ρ : En) (i : Nat) : getM (s :: ρ) (i + 1) = getM ρ i := (rfl)
@[simp] theorem getM_mu (m : M) (ρ : En) : getM (.mu m :: ρ) 0 = some m := (rfl)
@[simp] theorem getM_rf (m : M) (ρ : En) : getM (.rf m :: ρ) 0 = some m := (rfl)
@[simp] theorem getL_s (s : S) (ρ : En) (i : Nat) : getL (s :: ρ) (i + 1) = getL ρ i := (rfl)
@[simp] theorem getL_mu (m : List PyData) (ρ : En) : getL (.mu (.l m) :: ρ) 0 = some m := (rfl)
@[simp] theorem getL_rf (m : List PyData) (ρ : En) : getL (.rf (.l m) :: ρ) 0 = some m := (rfl)
@[simp] theorem getD_s (s : S) (ρ : En) (i : Nat) : getD (s :: ρ) (i + 1) = getD ρ i := (rfl)
@[simp] theorem getD_mu (m : List (PyData × PyData)) (ρ : En) : getD (.mu (.d m) :: ρ) 0 = some m := (rfl)
@[simp] theorem getD_rf (m : List (PyData × PyData)) (ρ : En) : getD (.rf (.d m) :: ρ) 0 = some m := (rfl)
@[simp] theorem getLL_s (s : S) (ρ : En) (i : Nat) : getLL (s :: ρ) (i + 1) = getLL ρ i := (rfl)
@[simp] theorem getLL_mu (m : List (List PyData)) (ρ : En) : getLL (.mu (.ll m) :: ρ) 0 = some m := (rfl)
@[simp] theorem setS_s (s t : S) (ρ : En) (i : Nat) : setS (s :: ρ) (i + 1) t = (setS ρ i t).map (s :: ·) := by
  unfold setS
  show (match ρ[i]? with
    | some (.rf _) => none
    | some _ => some ((s :: ρ).set (i + 1) t)
    | none => none) = _
  split <;> simp_all
@[simp] theorem setS_un (t : S) (ρ : En) : setS (.un :: ρ) 0 t = some (t :: ρ) := (rfl)
@[simp] theorem setS_im (d : PyData) (t : S) (ρ : En) : setS (.im d :: ρ) 0 t = some (t :: ρ) := (rfl)
@[simp] theorem setS_mu (d : M) (t : S) (ρ : En) : setS (.mu d :: ρ) 0 t = some (t :: ρ) := (rfl)
@[simp] theorem putM_s (s : S) (t : M) (ρ : En) (i : Nat) : putM (s :: ρ) (i + 1) t = (putM ρ i t).map (s :: ·) := by
  unfold putM
  show (match ρ[i]? with
    | some (.mu _) => some ((s :: ρ).set (i + 1) (.mu t))
    | some (.rf _) => some ((s :: ρ).set (i + 1) (.rf t))
    | _ => none) = _
  split <;> simp_all
@[simp] theorem putM_mu (d t : M) (ρ : En) : putM (.mu d :: ρ) 0 t = some (.mu t :: ρ) := (rfl)
@[simp] theorem putM_rf (d t : M) (ρ : En) : putM (.rf d :: ρ) 0 t = some (.rf t :: ρ) := (rfl)
@[simp] theorem bindT_n (i : Nat) (d : PyData) (ρ : En) : bindT (.n i) d ρ = setS ρ i (.im d) := (rfl)
@[simp] theorem bindT_t (ts : Tgs) (ds : List PyData) (ρ : En) : bindT (.t ts) (.tuple ds) ρ = bindTs ts ds ρ := (rfl)
@[simp] theorem bindTs_nil (ρ : En) : bindTs .nil [] ρ = some ρ := (rfl)
@[simp] theorem bindTs_cons (t : Tg) (ts : Tgs) (d : PyData) (ds : List PyData) (ρ : En) : bindTs (.cons t ts) (d :: ds) ρ = (bindT t d ρ).bind (bindTs ts ds) := (rfl)
@[simp] theorem forget_nil (ρ : En) : forget [] ρ = ρ := (rfl)
@[simp] theorem forget_cons (i : Nat) (r : List Nat) (ρ : En) : forget (i :: r) ρ = forget r (ρ.set i .un) := (rfl)
@[simp] theorem add_ii (i j : Int) : binD .Add (.int i) (.int j) = some (.int (i + j)) := (rfl)
@[simp] theorem sub_ii (i j : Int) : binD .Sub (.int i) (.int j) = some (.int (i - j)) := (rfl)
@[simp] theorem mul_ii (i j : Int) : binD .Mult (.int i) (.int j) = if small i || small j then some (.int (i * j)) else none := (rfl)
@[simp] theorem fdiv_ii (i j : Int) : binD .FloorDiv (.int i) (.int j) = if 0 < j ∧ j < 1073741824 then some (.int (i / j)) else none := (rfl)
@[simp] theorem mod_ii (i j : Int) : binD .Mod (.int i) (.int j) = if 0 < j then some (.int (i % j)) else none := (rfl)
@[simp] theorem pow_ii (i j : Int) : binD .Pow (.int i) (.int j) = if 0 ≤ j ∧ j ≤ 1000000 ∧ i.natAbs < 2 ^ 64 then some (.int (i ^ j.toNat)) else none := (rfl)
@[simp] theorem shr_ii (i j : Int) : binD .RShift (.int i) (.int j) = if 0 ≤ j then some (.int (i / 2 ^ j.toNat)) else none := (rfl)
@[simp] theorem shl_ii (i j : Int) : binD .LShift (.int i) (.int j) = if 0 ≤ j ∧ j ≤ 1000000 ∧ i.natAbs < 2 ^ 64 then some (.int (i * 2 ^ j.toNat)) else none := (rfl)
@[simp] theorem and_ii (i j : Int) : binD .BitAnd (.int i) (.int j) = some (.int (Builtin.bitAnd i j)) := (rfl)
@[simp] theorem add_ss (x y : Str) : binD .Add (.str x) (.str y) = if x.length + y.length ≤ lim then some (.str (x ++ y)) else none := (rfl)
@[simp] theorem add_ll (x y : List PyData) : binD .Add (.list x) (.list y) = if x.length + y.length ≤ lim then some (.list (x ++ y)) else none := (rfl)
@[simp] theorem add_tt (x y : List PyData) : binD .Add (.tuple x) (.tuple y) = if x.length + y.length ≤ lim then some (.tuple (x ++ y)) else none := (rfl)
@[simp] theorem lt_ii (i j : Int) : cmpD .Lt (.int i) (.int j) = some (decide (i < j)) := (rfl)
@[simp] theorem le_ii (i j : Int) : cmpD .LtE (.int i) (.int j) = some (decide (i ≤ j)) := (rfl)
@[simp] theorem gt_ii (i j : Int) : cmpD .Gt (.int i) (.int j) = some (decide (j < i)) := (rfl)
@[simp] theorem ge_ii (i j : Int) : cmpD .GtE (.int i) (.int j) = some (decide (j ≤ i)) := (rfl)
theorem evq_ii (i j : Int) : PyData.eqv (.int i) (.int j) = decide (i = j) := by simp [PyData.eqv]; rfl
@[simp] theorem setMt_n (cf : CallF) (i : Nat) (x : PyData) (ρ : En) : setMt cf (.n i) x ρ = (R.of (setS ρ i (.im x)) ρ).bind fun ρ3 _ => .ok .nx ρ3 := (rfl)
@[simp] theorem setMt_s (cf : CallF) (i : Nat) (k : E) (x : PyData) (ρ : En) : setMt cf (.s i k) x ρ = (R.gd (getM ρ i) <| (ev cf k ρ).calm.bind fun kd ρ2 => (R.of (setM ρ2 i x kd) ρ2).bind fun ρ3 _ => .ok .nx ρ3) := (rfl)
@[simp] theorem setMs_nil (cf : CallF) (ρ : En) : setMs cf [] [] ρ = .ok .nx ρ := (rfl)
@[simp] theorem setMs_cons (cf : CallF) (t : MT) (ts : List MT) (x : PyData) (xs : List PyData) (ρ : En) : setMs cf (t :: ts) (x :: xs) ρ = (setMt cf t x ρ).bind fun _ ρ1 => setMs cf ts xs ρ1 := (rfl)
@[simp] theorem finR_rt (n : Nat) (x : PyData) (ρ : En) : finR n (.ok (.rt x) ρ) = .ok x (outE n ρ) := (rfl)
@[simp] theorem finR_nx (n : Nat) (ρ : En) : finR n (.ok .nx ρ) = .ok .none (outE n ρ) := (rfl)
@[simp] theorem finR_ex (n : Nat) (c : Str) (f : Option PyData) (ρ : En) : finR n (.ex c f ρ) = .ex c f (outE n ρ) := (rfl)
@[simp] theorem finR_ite (n : Nat) (c : Prop) [Decidable c] (a b : R Fl) : finR n (if c then a else b) = if c then finR n a else finR n b := by split <;> rfl
@[simp] theorem bind_ite {α β : Type} (c : Prop) [Decidable c] (a b : R α) (k : α → En → R β) : (if c then a else b).bind k = if c then a.bind k else b.bind k := by split <;> rfl
theorem outE_z (ρ : En) : outE 0 ρ = [] := by unfold outE; simp
theorem outE_s (n : Nat) (s : S) (ρ : En) : outE (n + 1) (s :: ρ) = outS s :: outE n ρ := by unfold outE; simp
@[simp] theorem outE_1 (s : S) (ρ : En) : outE 1 (s :: ρ) = [outS s] := by rw [outE_s, outE_z]
@[simp] theorem outE_2 (s t : S) (ρ : En) : outE 2 (s :: t :: ρ) = [outS s, outS t] := by rw [outE_s, outE_1]
@[simp] theorem outE_3 (s t u : S) (ρ : En) : outE 3 (s :: t :: u :: ρ) = [outS s, outS t, outS u] := by rw [outE_s, outE_2]
@[simp] theorem outE_4 (s t u v : S) (ρ : En) : outE 4 (s :: t :: u :: v :: ρ) = [outS s, outS t, outS u, outS v] := by rw [outE_s, outE_3]
/-- behind a statement -/
def thenF (f : Fl) (k : En → R Fl) (ρ : En) : R Fl := match f with
  | .nx => k ρ
  | f => .ok f ρ
@[simp] theorem thenF_nx (k : En → R Fl) (ρ : En) : thenF .nx k ρ = k ρ := (rfl)
@[simp] theorem thenF_rt (d : PyData) (k : En → R Fl) (ρ : En) : thenF (.rt d) k ρ = .ok (.rt d) ρ := (rfl)
@[simp] theorem thenF_brk (k : En → R Fl) (ρ : En) : thenF .brk k ρ = .ok .brk ρ := (rfl)
@[simp] theorem thenF_cnt (k : En → R Fl) (ρ : En) : thenF .cnt k ρ = .ok .cnt ρ := (rfl)
@[simp] theorem evSs_cons (cf : CallF) (s : AF.St) (ss : Ss) (ρ : En) : evSs cf (.cons s ss) ρ = (evS cf s ρ).bind fun f ρ1 => thenF f (evSs cf ss) ρ1 := by
  show (evS cf s ρ).bind _ = _
  cases evS cf s ρ with
  | ok f ρ1 => cases f <;> rfl
  | ex _ _ _ => rfl
  | st => rfl
theorem evF_s (n id : Nat) (args : List S) : evF tbl (n + 1) id args = match tbl id with
  | some d => runDf (evF tbl n) d args
  | none => .st := (rfl)
end AF

set_option maxHeartbeats 4000000
namespace AF
open PySem L2
open PyProof.Rows hiding St
/-! ## 34. draws -/
theorem atI_nat {α : Type} (xs : List α) (k : Nat) (h : k < xs.length) : atI xs (k : Int) = some xs[k] := by
  unfold atI ixN
  have h2 : (k : Int) < (xs.length : Int) := by omega
  simp [h, h2]
theorem atI_0 {α : Type} (x : α) (xs : List α) : atI (x :: xs) 0 = some x := by
  have := atI_nat (x :: xs) 0 (by simp)
  simpa using this
theorem cell_loop (ns : List Int) (k : PyData) : ∀ (xs : List PyData) (z : Int), ∃ z' : Int, ∀ cf : CallF, forLoop (forF cf (.n 3) (.cons (.as false 2 (.bin .FloorDiv (.v 2) (.k (.int 1000003)))) .nil)) (forget [3]) xs [.sc ns, .im k, .im (.int z), .un] = .ok .nx [.sc ns, .im k, .im (.int z'), .un] := by
  intro xs
  induction xs with
  | nil => intro z; exact ⟨z, fun cf => rfl⟩
  | cons x xs ih =>
    intro z
    obtain ⟨z', hz⟩ := ih (z / 1000003)
    refine ⟨z', fun cf => ?_⟩
    rw [← hz cf]
    simp [forLoop, forF_eq]
theorem ex_cell (ns : List Int) (hn : ns.length ≤ 63) (k : Nat) : ∃ z : Int, ∀ n, evF tbl (n + 1) 13 [.sc ns, .im (.int k)] = .ok (.int z) [.un, .un] := by
  by_cases h : k < ns.length
  · refine ⟨ns[k], fun n => ?_⟩
    have a := atI_nat (ns.map PyData.int) k (by simpa using h)
    simp [go13, runDf, df13, outE, itemD, a, h]
  · by_cases h0 : ns = []
    · subst h0
      refine ⟨0, fun n => ?_⟩
      have : ¬ ((k : Int) < 0) := by omega
      simp [go13, runDf, df13, outE, itemD, this]
    · have hp : 0 < ns.length := by cases ns with | nil => exact absurd rfl h0 | cons _ _ => simp
      have e : ns.isEmpty = false := by cases ns with | nil => exact absurd rfl h0 | cons _ _ => rfl
      have hm : k % ns.length < ns.length := Nat.mod_lt _ hp
      have a := atI_nat (ns.map PyData.int) (k % ns.length) (by simpa using hm)
      have a' : atI (ns.map PyData.int) ((k : Int) % (ns.length : Int)) = some (.int ns[k % ns.length]) := by
        rw [← Int.natCast_emod, a]; simp
      have p2 : (ns.length : Int) < 1073741824 := by omega
      have hq : (0 : Int) ≤ (k : Int) / (ns.length : Int) := Int.ediv_nonneg (by omega) (by omega)
      obtain ⟨z', hz⟩ := cell_loop ns (.int k) (rangeD 0 (if (60 : Int) < (k : Int) / (ns.length : Int) then 60 else (k : Int) / (ns.length : Int)).toNat) ns[k % ns.length]
      refine ⟨ns[k % ns.length] * 31 + k + z' * 101, fun n => ?_⟩
      have q1 : (if (60 : Int) < (k : Int) / (ns.length : Int) then (60 : Int) else (k : Int) / (ns.length : Int)) ≤ 1000000 ∧ -1000000 ≤ (if (60 : Int) < (k : Int) / (ns.length : Int) then (60 : Int) else (k : Int) / (ns.length : Int)) := by split <;> omega
      have hz := hz (evF tbl n)
      simp only [go13, runDf, df13] at hz ⊢
      simp [h, e, itemD, p2, hp, a', mmD, q1, hz, outE, small]
theorem ex_mix (ns : List Int) (hn : ns.length ≤ 63) (k : Nat) (b : Int) (hb : 0 < b) : ∃ z : Int, (0 ≤ z ∧ z < b) ∧ ∀ n, evF tbl (n + 2) 14 [.sc ns, .im (.int k), .im (.int b)] = .ok (.int z) [.un, .un, .un] := by
  obtain ⟨v, hv⟩ := ex_cell ns hn k
  refine ⟨((v * 1103515245 + 7919 * k + 12345) % 2147483647) ^ 5 % 2147483647 % 999983 % b, ⟨Int.emod_nonneg _ (by omega), Int.emod_lt_of_pos _ hb⟩, fun n => ?_⟩
  have p1 : 0 ≤ (v * 1103515245 + 7919 * k + 12345) % 2147483647 := Int.emod_nonneg _ (by decide)
  have p2 : (v * 1103515245 + 7919 * k + 12345) % 2147483647 < 2147483647 := Int.emod_lt_of_pos _ (by decide)
  have p3 : ((v * 1103515245 + 7919 * k + 12345) % 2147483647).natAbs < 18446744073709551616 := by omega
  simp [go14, runDf, df14, callR, refsA, argsS, giveBack, hv, outE, small, p3, hb]
/-- the town: so many draws are done -/
def zs (t : Nat) : List PyData := List.replicate t (.int 0)
theorem ex_drw (ns : List Int) (hn : ns.length ≤ 63) (t : Nat) (ht : t < 900000) (b : Int) (hb : 0 < b) : ∃ z : Nat, (z : Int) < b ∧ ∀ n, evF tbl (n + 3) 15 [.sc ns, .rf (.l (zs t)), .im (.int b)] = .ok (.int z) [.un, .rf (.l (zs (t + 1))), .un] := by
  obtain ⟨z, ⟨h0, h1⟩, hz⟩ := ex_mix ns hn (t + 1) b hb
  refine ⟨z.toNat, by omega, fun n => ?_⟩
  have e : ((z.toNat : Nat) : Int) = z := by omega
  have l : (zs t).length < lim := by simp [zs, lim]; omega
  have l2 : (zs t ++ [PyData.int 0]).length = t + 1 := by simp [zs]
  have l3 : zs t ++ [PyData.int 0] = zs (t + 1) := by simp [zs, List.replicate_succ']
  have hz := hz n
  rw [e]
  simp only [go15, runDf, df15]
  simp [l, l2, l3, callR, refsA, argsS, giveBack, outE]
  have l4 : (zs (t + 1)).length = t + 1 := by simp [zs]
  simp only [Int.natCast_add, Int.cast_ofNat_Int] at hz
  simp [l4, hz, callR, refsA, argsS, giveBack]
noncomputable def drw (ns : List Int) (t : Nat) (b : Int) : Nat := if h : ns.length ≤ 63 ∧ t < 900000 ∧ 0 < b then Classical.choose (ex_drw ns h.1 t h.2.1 b h.2.2) else 0
theorem drw_lt {ns : List Int} (hn : ns.length ≤ 63) {t : Nat} (ht : t < 900000) {b : Int} (hb : 0 < b) : (drw ns t b : Int) < b := by
  unfold drw
  rw [dif_pos ⟨hn, ht, hb⟩]
  exact (Classical.choose_spec (ex_drw ns hn t ht b hb)).1
theorem sp_drw {ns : List Int} (hn : ns.length ≤ 63) {t : Nat} (ht : t < 900000) {b : Int} (hb : 0 < b) (n : Nat) : evF tbl (n + 3) 15 [.sc ns, .rf (.l (zs t)), .im (.int b)] = .ok (.int (drw ns t b)) [.un, .rf (.l (zs (t + 1))), .un] := by
  unfold drw
  rw [dif_pos ⟨hn, ht, hb⟩]
  exact (Classical.choose_spec (ex_drw ns hn t ht b hb)).2 n
theorem call_drw {ns : List Int} (hn : ns.length ≤ 63) {t : Nat} (ht : t < 900000) {b : Int} (hb : 0 < b) (n : Nat) {ρ : En} {i j : Nat} (hi : getS ρ i = some ns) (hj : getM ρ j = some (.l (zs t))) :
    callR (evF tbl (n + 3)) 15 [.s i, .r j, .d (.int b)] ρ = (R.of (putM ρ j (.l (zs (t + 1)))) ρ).bind fun ρ' _ => .ok (.int (drw ns t b)) ρ' := by
  unfold callR
  simp [refsA, argsS, hi, hj, sp_drw hn ht hb n, giveBack]
/-! ## 35. floors -/
def chN (b : Bool) : Nat := if b then 98 else 97
def chD (b : Bool) : PyData := .str ⟨#[chN b]⟩
def rowS (r : List Bool) : Str := ⟨(r.map chN).toArray⟩
def flD (rows : List (List Bool)) : PyData := .tuple (rows.map fun r => .str (rowS r))
def bitB (v i : Nat) : Bool := v / 2 ^ i % 2 == 1
/-- one turn, and what is forgotten behind it -/
def turnR {α : Type} (r : R α) (w : En → En) : R α := r.bind fun o ρ => .ok o (w ρ)
theorem lc_map {f : PyData → En → R (Option PyData)} {w : En → En} {ρ0 : En} {g : PyData → PyData} : ∀ {xs : List PyData}, (∀ x ∈ xs, turnR (f x ρ0) w = .ok (some (g x)) ρ0) → ∀ acc, lcLoop f w xs acc ρ0 = .ok (acc ++ xs.map g) ρ0
  | [], _, acc => by simp [lcLoop]
  | x :: xs, h, acc => by
    have e := h x List.mem_cons_self
    rw [lcLoop]
    unfold turnR at e
    cases e1 : f x ρ0 with
    | st => rw [e1] at e; cases e
    | ex _ _ _ => rw [e1] at e; cases e
    | ok o ρx =>
      rw [e1, R.bind_ok] at e
      injection e with e2 e3
      rw [R.bind_ok, e2, e3, lc_map (fun y hy => h y (List.mem_cons_of_mem _ hy))]
      simp
theorem bit_and (v i : Nat) : Builtin.bitAnd ((v : Int) / 2 ^ i) 1 = if bitB v i then 1 else 0 := by
  have e : ((v : Int) / 2 ^ i) = ((v / 2 ^ i : Nat) : Int) := by
    rw [Int.natCast_ediv, Int.natCast_pow]; rfl
  rw [e]
  unfold Builtin.bitAnd
  have h1 : decide ((0 : Int) ≤ ((v / 2 ^ i : Nat) : Int)) = true := decide_eq_true (Int.natCast_nonneg _)
  rw [h1]
  have h2 : decide ((0 : Int) ≤ 1) = true := by decide
  rw [h2]
  show (((((v / 2 ^ i : Nat) : Int).toNat &&& (1 : Int).toNat : Nat)) : Int) = _
  rw [Int.toNat_natCast]
  have : (v / 2 ^ i) &&& (1 : Int).toNat = v / 2 ^ i % 2 := Nat.and_one_is_mod _
  rw [this]
  unfold bitB
  have := Nat.mod_two_eq_zero_or_one (v / 2 ^ i)
  rcases this with h | h <;> rw [h] <;> rfl
theorem ab_item (b : Bool) : itemD (.str (Str.ofString "ab")) (.int (if b then 1 else 0)) = some (chD b) := by
  cases b <;> rfl
def flr1 : Ss := .cons (.as false 7 (.call 15 (.s 0 (.r 1 (.e (.k (.int 64)) .nil))))) (.cons (.appL 5 (.lc (.ix (.k (.str "ab")) (.bin .BitAnd (.bin .RShift (.v 7) (.v 12)) (.k (.int 1)))) (.n 12) (.rng1 (.v 4)) .nil [12])) .nil)
theorem floor_rows {ns : List Int} (hn : ns.length ≤ 63) (b tall : PyData) (wide : Nat) (hw : wide ≤ 1000) (s8 s9 s10 s11 s13 : S) : ∀ (xs : List PyData) (rows : List (List Bool)) (t : Nat), t + xs.length < 900000 → rows.length + xs.length < 1000 → (∀ r ∈ rows, r.length = wide) →
    ∃ rows' : List (List Bool), rows'.length = rows.length + xs.length ∧ (∀ r ∈ rows', r.length = wide) ∧ ∀ n, forLoop (forF (evF tbl (n + 3)) (.n 6) flr1) (forget [6, 7]) xs
      [.sc ns, .rf (.l (zs t)), .im b, .im tall, .im (.int wide), .mu (.ll (rows.map (·.map chD))), .un, .un, s8, s9, s10, s11, .un, s13] = .ok .nx [.sc ns, .rf (.l (zs (t + xs.length))), .im b, .im tall, .im (.int wide), .mu (.ll (rows'.map (·.map chD))), .un, .un, s8, s9, s10, s11, .un, s13]
  | [], rows, t, _, _, hr => ⟨rows, rfl, hr, fun n => rfl⟩
  | x :: xs, rows, t, ht, hl, hr => by
    have ht' : t < 900000 := by omega
    obtain ⟨rows', h1, h2, h3⟩ := floor_rows hn b tall wide hw s8 s9 s10 s11 s13 xs (rows ++ [(List.range wide).map (bitB (drw ns t 64))]) (t + 1) (by simp at ht; omega) (by simp at hl ⊢; omega) (by
      intro r hr'
      rcases List.mem_append.mp hr' with h | h
      · exact hr r h
      · rw [List.mem_singleton.mp h]; simp)
    refine ⟨rows', by rw [h1]; simp; omega, h2, fun n => ?_⟩
    have e : t + (x :: xs).length = t + 1 + xs.length := by simp; omega
    rw [e, ← h3 n]
    have lc := lc_map (f := lcF (evF tbl (n + 3)) (.ix (.k (.str "ab")) (.bin .BitAnd (.bin .RShift (.v 7) (.v 12)) (.k (.int 1)))) (.n 12) .nil) (w := forget [12])
      (ρ0 := [.sc ns, .rf (.l (zs (t + 1))), .im b, .im tall, .im (.int wide), .mu (.ll (rows.map (·.map chD))), .im x, .im (.int (drw ns t 64)), s8, s9, s10, s11, .un, s13])
      (g := fun y => match y with
        | .int i => chD (bitB (drw ns t 64) i.toNat)
        | _ => .none) (xs := rangeD 0 wide) (fun y hy => by
        unfold rangeD at hy
        obtain ⟨i, _, rfl⟩ := List.mem_map.mp hy
        simp [turnR, lcF_eq, bit_and, ab_item]
        ) []
    have wd : (rangeD 0 wide).map (fun y => match y with
        | .int i => chD (bitB (drw ns t 64) i.toNat)
        | _ => .none) = ((List.range wide).map (bitB (drw ns t 64))).map chD := by
      unfold rangeD
      rw [List.map_map, List.map_map]
      apply List.map_congr_left
      intro i _
      simp
    have hw1 : (wide : Int) ≤ 1000000 ∧ -1000000 ≤ (wide : Int) := by omega
    have hll : rows.length < lim := by unfold lim; simp at hl; omega
    rw [forLoop, forF_eq]
    have hd := fun ρ (hi : getS ρ 0 = some ns) (hj : getM ρ 1 = some (.l (zs t))) => call_drw hn ht' (b := 64) (by decide) n hi hj
    rw [List.nil_append, wd] at lc
    simp [flr1, hd, cleanAt, isOwn, hw1, lc, restore, appLL, hll]
theorem ixN_nat {n k : Nat} (h : k < n) : ixN n (k : Int) = some k := by
  unfold ixN
  have h2 : (k : Int) < (n : Int) := by omega
  simp [h]
def signE : E := .ite (.cmp .Eq (.cmp .Lt (.v 6) (.v 8)) (.cmp .Lt (.v 11) (.v 9))) (.k (.str "a")) (.k (.str "b"))
theorem eq_bb (x y : Bool) : cmpD .Eq (.bool x) (.bool y) = some (x == y) := by cases x <;> cases y <;> rfl
theorem ev_sign (cf : CallF) {ρ : En} {d p a l : Int} (h6 : getI ρ 6 = some (.int d)) (h8 : getI ρ 8 = some (.int p)) (h11 : getI ρ 11 = some (.int a)) (h9 : getI ρ 9 = some (.int l)) :
    ev cf signE ρ = .ok (chD (!(decide (d < p) == decide (a < l)))) ρ := by
  simp only [signE, ev_ite, ev_cmp, ev_v, h6, h8, h11, h9, R.of_some, R.bind_ok, lt_ii, Option.map_some, eq_bb]
  cases decide (d < p) <;> cases decide (a < l) <;> rfl
def flr3 : Ss := .cons (.ite (.or (.v 10) (.cons (.cmp .Gt (.call 15 (.s 0 (.r 1 (.e (.k (.int 8)) .nil)))) (.k (.int 0))) .nil)) (.cons (.set2 5 6 11 signE) .nil) .nil) .nil
theorem set_rows {rows : List (List Bool)} {d a wide : Nat} (hd : d < rows.length) (hr : ∀ r ∈ rows, r.length = wide) (ha : a < wide) (v : Bool) {ρ : En} (h5 : getLL ρ 5 = some (rows.map (·.map chD))) (h6 : getI ρ 6 = some (.int d)) (h11 : getI ρ 11 = some (.int a)) :
    ∃ rows' : List (List Bool), rows'.length = rows.length ∧ (∀ r ∈ rows', r.length = wide) ∧ setLL ρ 5 6 11 (chD v) = putM ρ 5 (.ll (rows'.map (·.map chD))) := by
  have hrow : (rows[d]).length = wide := hr _ (List.getElem_mem hd)
  refine ⟨rows.set d (rows[d].set a v), by simp, fun r hr' => ?_, ?_⟩
  · rcases List.mem_or_eq_of_mem_set hr' with h | h
    · exact hr r h
    · rw [h]; simp [hrow]
  · unfold setLL
    rw [h5]
    simp only [Option.bind_some, h6, h11]
    rw [List.length_map, ixN_nat hd]
    simp only [Option.bind_some, List.getElem?_map, List.getElem?_eq_getElem hd, Option.map_some, List.length_map, hrow, ixN_nat ha]
    congr 2
    rw [List.map_set, List.map_set]
theorem floor_in {ns : List Int} (hn : ns.length ≤ 63) (b tall : PyData) (wide d : Nat) (p l : Int) (c : Bool) (s7 s12 s13 : S) : ∀ (as : List Nat) (rows : List (List Bool)) (t : Nat), (∀ a ∈ as, a < wide) → d < rows.length → t + as.length < 900000 → (∀ r ∈ rows, r.length = wide) →
    ∃ (rows' : List (List Bool)) (t' : Nat), t ≤ t' ∧ t' ≤ t + as.length ∧ rows'.length = rows.length ∧ (∀ r ∈ rows', r.length = wide) ∧ ∀ n, forLoop (forF (evF tbl (n + 3)) (.n 11) flr3) (forget [11]) (as.map fun (i : Nat) => PyData.int (0 + (i : Int)))
      [.sc ns, .rf (.l (zs t)), .im b, .im tall, .im (.int wide), .mu (.ll (rows.map (·.map chD))), .im (.int d), s7, .im (.int p), .im (.int l), .im (.bool c), .un, s12, s13] =
      .ok .nx [.sc ns, .rf (.l (zs t')), .im b, .im tall, .im (.int wide), .mu (.ll (rows'.map (·.map chD))), .im (.int d), s7, .im (.int p), .im (.int l), .im (.bool c), .un, s12, s13]
  | [], rows, t, _, _, _, hr => ⟨rows, t, Nat.le_refl _, Nat.le_refl _, rfl, hr, fun n => rfl⟩
  | a :: as, rows, t, ha, hd, ht, hr => by
    have ht' : t < 900000 := by omega
    simp only [List.length_cons] at ht
    have a0 : a < wide := ha a List.mem_cons_self
    have ar : ∀ a ∈ as, a < wide := fun y hy => ha y (List.mem_cons_of_mem _ hy)
    have hdr := fun n ρ (hi : getS ρ 0 = some ns) (hj : getM ρ 1 = some (.l (zs t))) => call_drw hn ht' (b := 8) (by decide) n hi hj
    have step : ∀ t1, t1 ≤ t + 1 → t ≤ t1 → ∀ v : Bool, ∃ (rows' : List (List Bool)) (t' : Nat), t ≤ t' ∧ t' ≤ t + (as.length + 1) ∧ rows'.length = rows.length ∧ (∀ r ∈ rows', r.length = wide) ∧ ∀ n,
        ((R.of (setLL [.sc ns, .rf (.l (zs t1)), .im b, .im tall, .im (.int wide), .mu (.ll (rows.map (·.map chD))), .im (.int d), s7, .im (.int p), .im (.int l), .im (.bool c), .im (.int (0 + (a : Int))), s12, s13] 5 6 11 (chD v)) ([] : En)).bind fun ρ2 _ =>
          forLoop (forF (evF tbl (n + 3)) (.n 11) flr3) (forget [11]) (as.map fun (i : Nat) => PyData.int (0 + (i : Int))) (forget [11] ρ2)) =
        .ok .nx [.sc ns, .rf (.l (zs t')), .im b, .im tall, .im (.int wide), .mu (.ll (rows'.map (·.map chD))), .im (.int d), s7, .im (.int p), .im (.int l), .im (.bool c), .un, s12, s13] := by
      intro t1 h1 h2 v
      obtain ⟨rows1, e1, e2, e3⟩ := set_rows hd hr a0 v (ρ := [.sc ns, .rf (.l (zs t1)), .im b, .im tall, .im (.int wide), .mu (.ll (rows.map (·.map chD))), .im (.int d), s7, .im (.int p), .im (.int l), .im (.bool c), .im (.int (0 + (a : Int))), s12, s13]) (by simp) (by simp) (by simp)
      obtain ⟨rows', t', f1, f2, f3, f4, f5⟩ := floor_in hn b tall wide d p l c s7 s12 s13 as rows1 t1 ar (by omega) (by omega) e2
      refine ⟨rows', t', by omega, by omega, by omega, f4, fun n => ?_⟩
      rw [e3]
      simp
      rw [← f5 n]
      simp
    have vs := fun cf (ρ : En) h6 h8 h11 h9 => ev_sign cf (ρ := ρ) (d := d) (p := p) (a := 0 + (a : Int)) (l := l) h6 h8 h11 h9
    cases c with
    | true =>
      obtain ⟨rows', t', f1, f2, f3, f4, f5⟩ := step t (by omega) (Nat.le_refl _) (!(decide ((d : Int) < p) == decide (0 + (a : Int) < l)))
      refine ⟨rows', t', f1, by simpa using f2, f3, f4, fun n => ?_⟩
      rw [← f5 n, List.map_cons, forLoop, forF_eq]
      simp only [flr3]
      simp [vs]
      cases setLL _ 5 6 11 _ <;> simp
    | false =>
      by_cases hz : 0 < drw ns t 8
      · obtain ⟨rows', t', f1, f2, f3, f4, f5⟩ := step (t + 1) (Nat.le_refl _) (by omega) (!(decide ((d : Int) < p) == decide (0 + (a : Int) < l)))
        refine ⟨rows', t', f1, by simpa using f2, f3, f4, fun n => ?_⟩
        rw [← f5 n, List.map_cons, forLoop, forF_eq]
        simp only [flr3]
        simp [vs, hdr, hz]
        cases setLL _ 5 6 11 _ <;> simp
      · obtain ⟨rows', t', f1, f2, f3, f4, f5⟩ := floor_in hn b tall wide d p l false s7 s12 s13 as rows (t + 1) ar hd (by omega) hr
        refine ⟨rows', t', by omega, by simp; omega, f3, f4, fun n => ?_⟩
        rw [← f5 n, List.map_cons, forLoop, forF_eq]
        simp only [flr3]
        have hz0 : drw ns t 8 = 0 := by omega
        simp [hdr, hz0]
theorem floor_out {ns : List Int} (hn : ns.length ≤ 63) (b tall : PyData) (wide : Nat) (hw : wide ≤ 1000) (p l : Int) (c : Bool) (s7 s12 s13 : S) : ∀ (ds : List Nat) (rows : List (List Bool)) (t : Nat), (∀ d ∈ ds, d < rows.length) → t + ds.length * wide < 900000 → (∀ r ∈ rows, r.length = wide) →
    ∃ (rows' : List (List Bool)) (t' : Nat), t ≤ t' ∧ t' ≤ t + ds.length * wide ∧ rows'.length = rows.length ∧ (∀ r ∈ rows', r.length = wide) ∧ ∀ n, forLoop (forF (evF tbl (n + 3)) (.n 6) (.cons (.for_ (.n 11) (.rng1 (.v 4)) flr3 [11]) .nil)) (forget [6, 11]) (ds.map fun (i : Nat) => PyData.int (0 + (i : Int)))
      [.sc ns, .rf (.l (zs t)), .im b, .im tall, .im (.int wide), .mu (.ll (rows.map (·.map chD))), .un, s7, .im (.int p), .im (.int l), .im (.bool c), .un, s12, s13] =
      .ok .nx [.sc ns, .rf (.l (zs t')), .im b, .im tall, .im (.int wide), .mu (.ll (rows'.map (·.map chD))), .un, s7, .im (.int p), .im (.int l), .im (.bool c), .un, s12, s13]
  | [], rows, t, _, _, hr => ⟨rows, t, Nat.le_refl _, by simp, rfl, hr, fun n => rfl⟩
  | d :: ds, rows, t, hd, ht, hr => by
    simp only [List.length_cons, Nat.add_mul, Nat.one_mul] at ht
    obtain ⟨rows1, t1, e1, e2, e3, e4, e5⟩ := floor_in hn b tall wide d p l c s7 s12 s13 (List.range wide) rows t (fun a ha => List.mem_range.mp ha) (hd d List.mem_cons_self) (by simp; omega) hr
    rw [List.length_range] at e2
    obtain ⟨rows', t', f1, f2, f3, f4, f5⟩ := floor_out hn b tall wide hw p l c s7 s12 s13 ds rows1 t1 (fun y hy => by rw [e3]; exact hd y (List.mem_cons_of_mem _ hy)) (by omega) e4
    refine ⟨rows', t', by omega, by simp only [List.length_cons, Nat.add_mul, Nat.one_mul]; omega, by omega, f4, fun n => ?_⟩
    have hw1 : (wide : Int) ≤ 1000000 ∧ -1000000 ≤ (wide : Int) := by omega
    have e5 := e5 n
    simp only [Int.zero_add] at e5
    rw [← f5 n, List.map_cons, forLoop, forF_eq]
    simp [hw1, rangeD, e5]
theorem strs_ch : ∀ r : List Bool, strsD (r.map chD) = some (r.map fun b => (⟨#[chN b]⟩ : Str))
  | [] => rfl
  | b :: r => by rw [List.map_cons, List.map_cons]; show (strsD (r.map chD)).map _ = _; rw [strs_ch r]; rfl
theorem glue_ch : ∀ (r : List Bool) (acc : Array Nat), (r.map fun b => (⟨#[chN b]⟩ : Str)).foldl (fun acc p => acc ++ (Str.ofString "").cps ++ p.cps) acc = acc ++ (r.map chN).toArray
  | [], acc => by simp
  | b :: r, acc => by
    rw [List.map_cons, List.foldl_cons, glue_ch r]
    have : (Str.ofString "").cps = #[] := rfl
    rw [this]
    simp
theorem join_ch (r : List Bool) : Txt.join (Str.ofString "") (r.map fun b => (⟨#[chN b]⟩ : Str)) = rowS r := by
  cases r with
  | nil => rfl
  | cons b r =>
    show (⟨((r.map fun b => (⟨#[chN b]⟩ : Str))).foldl (fun acc p => acc ++ (Str.ofString "").cps ++ p.cps) #[chN b]⟩ : Str) = _
    rw [glue_ch]
    simp [rowS]
theorem join_row (r : List Bool) (h : r.length ≤ 1000) : joinD (.str (Str.ofString "")) (.list (r.map chD)) = some (.str (rowS r)) := by
  show (strsD (r.map chD)).bind _ = _
  rw [strs_ch, Option.bind_some]
  have l : ((r.map fun b => (⟨#[chN b]⟩ : Str)).map (·.length)).sum + (r.map fun b => (⟨#[chN b]⟩ : Str)).length * (Str.ofString "").length ≤ lim := by
    have e : ∀ r : List Bool, ((r.map fun b => (⟨#[chN b]⟩ : Str)).map (·.length)).sum = r.length := by
      intro r
      induction r with
      | nil => rfl
      | cons b r ih =>
        rw [List.map_cons, List.map_cons, List.sum_cons, ih]
        show 1 + r.length = _
        simp; omega
    rw [e]
    have : (Str.ofString "").length = 0 := rfl
    rw [this]
    unfold lim
    omega
  rw [if_pos l, join_ch]
def flrEnd : Ss := .cons (.frz 5) (.cons (.ret (.bi .tuple (.lc (.me .join (.k (.str "")) (.v 13)) (.n 13) (.ex (.v 5)) .nil [13]))) .nil)
theorem floor_end (cf : CallF) {rows : List (List Bool)} (hr : ∀ r ∈ rows, r.length ≤ 1000) (s0 s1 s2 s3 s4 s6 s7 s8 s9 s10 s11 s12 : S) :
    evSs cf flrEnd [s0, s1, s2, s3, s4, .mu (.ll (rows.map (·.map chD))), s6, s7, s8, s9, s10, s11, s12, .un] = .ok (.rt (flD rows)) [s0, s1, s2, s3, s4, .im (.list ((rows.map (·.map chD)).map .list)), s6, s7, s8, s9, s10, s11, s12, .un] := by
  have lc := lc_map (f := lcF cf (.me .join (.k (.str "")) (.v 13)) (.n 13) .nil) (w := forget [13]) (ρ0 := [s0, s1, s2, s3, s4, .im (.list ((rows.map (·.map chD)).map .list)), s6, s7, s8, s9, s10, s11, s12, .un])
    (g := fun y => (joinD (.str (Str.ofString "")) y).getD .none) (xs := (rows.map (·.map chD)).map .list) (fun y hy => by
      obtain ⟨z, hz, rfl⟩ := List.mem_map.mp hy
      obtain ⟨r, hr', rfl⟩ := List.mem_map.mp hz
      simp [turnR, lcF_eq, meT, meD, join_row r (hr r hr')]) []
  rw [List.nil_append] at lc
  have e : ((rows.map (·.map chD)).map PyData.list).map (fun y => (joinD (.str (Str.ofString "")) y).getD .none) = rows.map fun r => .str (rowS r) := by
    rw [List.map_map, List.map_map]
    apply List.map_congr_left
    intro r hr'
    simp [join_row r (hr r hr')]
  rw [e] at lc
  simp [flrEnd, M.toD]
  simp at lc
  simp [itemsD, cleanAt, isOwn, lc, restore, biD, tupleD, flD]
def flrT : E := .cmp .Eq (.call 15 (.s 0 (.r 1 (.e (.k (.int 2)) .nil)))) (.k (.int 0))
def flr4 : Ss := .cons (.for_ (.n 11) (.rng1 (.v 4)) flr3 [11]) .nil
def flr2 : Ss := .cons (.par (.cons false 8 (.call 15 (.s 0 (.r 1 (.e (.bin .Add (.v 3) (.k (.int 1))) .nil)))) (.cons false 9 (.call 15 (.s 0 (.r 1 (.e (.bin .Add (.v 4) (.k (.int 1))) .nil)))) .nil)))
  (.cons (.as false 10 (.cmp .Eq (.call 15 (.s 0 (.r 1 (.e (.k (.int 3)) .nil)))) (.k (.int 0)))) (.cons (.for_ (.n 6) (.rng1 (.v 3)) flr4 [6, 11]) .nil))
def flr0 : AF.St := .par (.cons false 3 (.bin .Add (.k (.int 1)) (.call 15 (.s 0 (.r 1 (.e (.v 2) .nil))))) (.cons false 4 (.bin .Add (.k (.int 1)) (.call 15 (.s 0 (.r 1 (.e (.v 2) .nil))))) .nil))
theorem df17_body : df17.body = .cons flr0 (.cons (.asL 5) (.cons (.for_ (.n 6) (.rng1 (.v 3)) flr1 [6, 7]) (.cons (.ite flrT flr2 .nil) flrEnd))) := rfl
theorem seq_nx (cf : CallF) (s : AF.St) (ss : Ss) (ρ ρ1 : En) (h : evS cf s ρ = .ok .nx ρ1) : evSs cf (.cons s ss) ρ = evSs cf ss ρ1 := by rw [evSs_cons, h]; rfl
/-- _law_floor: some floor of at most bound rows and columns -/
def FlOk (b : Nat) (rows : List (List Bool)) : Prop := 1 ≤ rows.length ∧ rows.length ≤ b ∧ ∃ w, 1 ≤ w ∧ w ≤ b ∧ ∀ r ∈ rows, r.length = w
theorem eq_ii (i j : Int) : cmpD .Eq (.int i) (.int j) = some (decide (i = j)) := by
  show (if sh 8 (.int i) && sh 8 (.int j) then some (PyData.eqv (.int i) (.int j)) else none) = _
  rw [evq_ii]; rfl
theorem ne_ii (i j : Int) : cmpD .NotEq (.int i) (.int j) = some (!decide (i = j)) := by
  show (if sh 8 (.int i) && sh 8 (.int j) then some (!PyData.eqv (.int i) (.int j)) else none) = _
  rw [evq_ii]; rfl
theorem flr_two {ns : List Int} (hn : ns.length ≤ 63) (b : PyData) (tall wide : Nat) (hw : wide ≤ 1000) (hta : tall ≤ 1000) (t : Nat) (ht : t + 3 + tall * wide < 900000) (rows : List (List Bool)) (hl : rows.length = tall) (hr : ∀ r ∈ rows, r.length = wide) :
    ∃ (rows' : List (List Bool)) (t' : Nat) (s8 s9 s10 : S), t ≤ t' ∧ t' ≤ t + 3 + tall * wide ∧ rows'.length = tall ∧ (∀ r ∈ rows', r.length = wide) ∧ ∀ n, evSs (evF tbl (n + 3)) flr2 [.sc ns, .rf (.l (zs t)), .im b, .im (.int tall), .im (.int wide), .mu (.ll (rows.map (·.map chD))), .un, .un, .un, .un, .un, .un, .un, .un] =
      .ok .nx [.sc ns, .rf (.l (zs t')), .im b, .im (.int tall), .im (.int wide), .mu (.ll (rows'.map (·.map chD))), .un, .un, s8, s9, s10, .un, .un, .un] := by
  have h1 := fun n ρ (hi : getS ρ 0 = some ns) (hj : getM ρ 1 = some (.l (zs t))) => call_drw hn (t := t) (by omega) (b := (tall : Int) + 1) (by omega) n hi hj
  have h2 := fun n ρ (hi : getS ρ 0 = some ns) (hj : getM ρ 1 = some (.l (zs (t + 1)))) => call_drw hn (t := t + 1) (by omega) (b := (wide : Int) + 1) (by omega) n hi hj
  have h3 := fun n ρ (hi : getS ρ 0 = some ns) (hj : getM ρ 1 = some (.l (zs (t + 1 + 1)))) => call_drw hn (t := t + 1 + 1) (by omega) (b := 3) (by decide) n hi hj
  obtain ⟨rows', t', f1, f2, f3, f4, f5⟩ := floor_out hn b (.int tall) wide hw (drw ns t (tall + 1)) (drw ns (t + 1) (wide + 1)) (decide ((drw ns (t + 1 + 1) 3 : Int) = 0)) .un .un .un (List.range tall) rows (t + 1 + 1 + 1) (fun d hd => by rw [hl]; exact List.mem_range.mp hd) (by simp; omega) hr
  rw [List.length_range] at f2
  refine ⟨rows', t', .im (.int (drw ns t (tall + 1))), .im (.int (drw ns (t + 1) (wide + 1))), .im (.bool (decide ((drw ns (t + 1 + 1) 3 : Int) = 0))), by omega, by omega, by omega, f4, fun n => ?_⟩
  have hta1 : (tall : Int) ≤ 1000000 ∧ -1000000 ≤ (tall : Int) := by omega
  have f5 := f5 n
  unfold flr2
  simp [setAll, h1, h2, h3, eq_ii, hta1, rangeD]
  simp [flr4] at f5 ⊢
  rw [f5]
  simp
end AF

set_option maxHeartbeats 400000
namespace AF
open PySem L2
open PyProof.Rows hiding St
theorem ex_floor {ns : List Int} (hn : ns.length ≤ 63) (t : Nat) (ht : t < 800000) (b : Nat) (hb : 0 < b) (hb2 : b ≤ 100) : ∃ (rows : List (List Bool)) (t' : Nat), t ≤ t' ∧ t' ≤ t + 20000 ∧ FlOk b rows ∧
    ∀ n, evF tbl (n + 4) 17 [.sc ns, .rf (.l (zs t)), .im (.int b)] = .ok (flD rows) [.un, .rf (.l (zs t')), .un] := by
  have b1 : (0 : Int) < b := by omega
  have d1 := drw_lt hn (t := t) (by omega) b1
  have d2 := drw_lt hn (t := t + 1) (by omega) b1
  have h1 := fun n ρ (hi : getS ρ 0 = some ns) (hj : getM ρ 1 = some (.l (zs t))) => call_drw hn (t := t) (by omega) b1 n hi hj
  have h2 := fun n ρ (hi : getS ρ 0 = some ns) (hj : getM ρ 1 = some (.l (zs (t + 1)))) => call_drw hn (t := t + 1) (by omega) b1 n hi hj
  obtain ⟨tall, etall⟩ : ∃ k : Nat, k = 1 + drw ns t b := ⟨_, rfl⟩
  obtain ⟨wide, ewide⟩ : ∃ k : Nat, k = 1 + drw ns (t + 1) b := ⟨_, rfl⟩
  have e1 : (1 + (drw ns t b : Int)) = (tall : Int) := by omega
  have e2 : (1 + (drw ns (t + 1) b : Int)) = (wide : Int) := by omega
  have tw : tall * wide ≤ 100 * 100 := Nat.mul_le_mul (by omega) (by omega)
  obtain ⟨rows, r1, r2, r3⟩ := floor_rows hn (.int b) (.int tall) wide (by omega) .un .un .un .un .un (rangeD 0 tall) [] (t + 1 + 1) (by unfold rangeD; simp; omega) (by unfold rangeD; simp; omega) (by simp)
  have lr : (rangeD 0 tall).length = tall := by unfold rangeD; simp
  rw [lr] at r1
  simp only [List.length_nil, Nat.zero_add] at r1
  have ht1 : (tall : Int) ≤ 1000000 ∧ -1000000 ≤ (tall : Int) := by omega
  have h3 := fun n ρ (hi : getS ρ 0 = some ns) (hj : getM ρ 1 = some (.l (zs (t + 1 + 1 + tall)))) => call_drw hn (t := t + 1 + 1 + tall) (by omega) (b := 2) (by decide) n hi hj
  have A : ∀ n rest, evSs (evF tbl (n + 3)) (.cons flr0 (.cons (.asL 5) (.cons (.for_ (.n 6) (.rng1 (.v 3)) flr1 [6, 7]) rest))) ([.sc ns, .rf (.l (zs t)), .im (.int b)] ++ List.replicate 11 .un) =
      evSs (evF tbl (n + 3)) rest [.sc ns, .rf (.l (zs (t + 1 + 1 + tall))), .im (.int b), .im (.int tall), .im (.int wide), .mu (.ll (rows.map (·.map chD))), .un, .un, .un, .un, .un, .un, .un, .un] := by
    intro n rest
    have r3 := r3 n
    rw [lr] at r3
    simp at r3
    unfold flr0
    show evSs (evF tbl (n + 3)) _ [.sc ns, .rf (.l (zs t)), .im (.int b), .un, .un, .un, .un, .un, .un, .un, .un, .un, .un, .un] = _
    rw [seq_nx _ _ _ _ [.sc ns, .rf (.l (zs (t + 1 + 1))), .im (.int b), .im (.int tall), .im (.int wide), .un, .un, .un, .un, .un, .un, .un, .un, .un] (by simp [setAll, h1, h2, e1, e2]),
      seq_nx _ _ _ _ [.sc ns, .rf (.l (zs (t + 1 + 1))), .im (.int b), .im (.int tall), .im (.int wide), .mu (.ll []), .un, .un, .un, .un, .un, .un, .un, .un] (by simp),
      seq_nx _ _ _ _ [.sc ns, .rf (.l (zs (t + 1 + 1 + tall))), .im (.int b), .im (.int tall), .im (.int wide), .mu (.ll (rows.map (·.map chD))), .un, .un, .un, .un, .un, .un, .un, .un] (by simp [ht1, r3])]
  have l3 : ([.sc ns, .rf (.l (zs t)), .im (.int b)] : List S).length = df17.np := rfl
  by_cases hz : drw ns (t + 1 + 1 + tall) 2 = 0
  · obtain ⟨rows', t', s8, s9, s10, f1, f2, f3, f4, f5⟩ := flr_two hn (.int b) tall wide (by omega) (by omega) (t + 1 + 1 + tall + 1) (by omega) rows r1 r2
    refine ⟨rows', t', by omega, by omega, ⟨by omega, by omega, wide, by omega, by omega, f4⟩, fun n => ?_⟩
    have en := floor_end (evF tbl (n + 3)) (rows := rows') (fun r hr => by rw [f4 r hr]; omega) (.sc ns) (.rf (.l (zs t'))) (.im (.int b)) (.im (.int tall)) (.im (.int wide)) .un .un s8 s9 s10 .un .un
    rw [go17]
    unfold runDf
    rw [if_pos l3, df17_body, show df17.ns - df17.np = 11 from rfl, A, seq_nx _ _ _ _ [.sc ns, .rf (.l (zs t')), .im (.int b), .im (.int tall), .im (.int wide), .mu (.ll (rows'.map (·.map chD))), .un, .un, s8, s9, s10, .un, .un, .un] (by simp [flrT, h3, eq_ii, hz, f5]), en]
    rfl
  · refine ⟨rows, t + 1 + 1 + tall + 1, by omega, by omega, ⟨by omega, by omega, wide, by omega, by omega, r2⟩, fun n => ?_⟩
    have en := floor_end (evF tbl (n + 3)) (rows := rows) (fun r hr => by rw [r2 r hr]; omega) (.sc ns) (.rf (.l (zs (t + 1 + 1 + tall + 1)))) (.im (.int b)) (.im (.int tall)) (.im (.int wide)) .un .un .un .un .un .un .un
    rw [go17]
    unfold runDf
    rw [if_pos l3, df17_body, show df17.ns - df17.np = 11 from rfl, A, seq_nx _ _ _ _ [.sc ns, .rf (.l (zs (t + 1 + 1 + tall + 1))), .im (.int b), .im (.int tall), .im (.int wide), .mu (.ll (rows.map (·.map chD))), .un, .un, .un, .un, .un, .un, .un, .un] (by simp [flrT, h3, eq_ii, hz]), en]
    rfl
end AF

set_option maxHeartbeats 400000
namespace AF
open PySem L2
open PyProof.Rows hiding St
theorem rowS_len (r : List Bool) : (rowS r).length = r.length := by
  show ((r.map chN).toArray).size = _
  simp
theorem rowS_items (r : List Bool) (h : r.length ≤ 1000) : itemsD (.str (rowS r)) = some (r.map chD) := by
  show (if (rowS r).length ≤ lim then some ((rowS r).cps.toList.map fun c => PyData.str ⟨#[c]⟩) else none) = _
  rw [if_pos (by rw [rowS_len]; unfold lim; omega)]
  show some ((((r.map chN).toArray).toList).map fun c => PyData.str ⟨#[c]⟩) = _
  simp [List.map_map]
  exact ⟨fun _ => rfl, fun _ => rfl⟩
theorem in_ab (b : Bool) : cmpD .In (chD b) (.str (Str.ofString "ab")) = some true := by cases b <;> rfl
theorem bools_true : ∀ (n : Nat), boolsD (List.replicate n (.bool true)) = some (List.replicate n true)
  | 0 => rfl
  | n + 1 => by
    rw [List.replicate_succ, List.replicate_succ]
    show (boolsD (List.replicate n (.bool true))).map _ = _
    rw [bools_true n]; rfl
theorem all_true (n : Nat) : allD (.list (List.replicate n (.bool true))) = some (.bool true) := by
  show (boolsD (List.replicate n (.bool true))).map _ = _
  rw [bools_true]
  have : (List.replicate n true).all id = true := by simp
  simp
theorem map_const (xs : List PyData) (c : PyData) : xs.map (fun _ => c) = List.replicate xs.length c := by
  induction xs with
  | nil => rfl
  | cons x xs ih => rw [List.map_cons, ih]; rfl
theorem sp_is_row (n : Nat) (r : List Bool) (h : r.length ≤ 1000) : evF tbl (n + 1) 1 [.im (.str (rowS r)), .im (.int r.length)] = .ok (.bool true) [.un, .un] := by
  have lc := lc_map (f := lcF (evF tbl n) (.cmp .In (.v 2) (.k (.str "ab"))) (.n 2) .nil) (w := forget [2]) (ρ0 := [.im (.str (rowS r)), .im (.int r.length), .un]) (g := fun _ => .bool true) (xs := r.map chD) (fun y hy => by
    obtain ⟨b, _, rfl⟩ := List.mem_map.mp hy
    simp [turnR, lcF_eq, in_ab]) []
  rw [List.nil_append, map_const, List.length_map] at lc
  have hl : r.length ≤ lim := by unfold lim; omega
  simp [go1, runDf, df1, isD, biD, lenD, hl, rowS_len, eq_ii, rowS_items r h, cleanAt, isOwn, lc, restore, all_true, outE]
theorem fl_inv {b : Nat} {rows : List (List Bool)} (h : FlOk b rows) : ∃ r rest, rows = r :: rest ∧ ∀ x ∈ rows, x.length = r.length := by
  obtain ⟨h1, _, w, _, _, hw⟩ := h
  cases rows with
  | nil => simp at h1
  | cons r rest => exact ⟨r, rest, rfl, fun x hx => by rw [hw x hx, hw r List.mem_cons_self]⟩
theorem sp_is_floor (n : Nat) {rows : List (List Bool)} (h : FlOk 6 rows) : evF tbl (n + 2) 2 [.im (flD rows)] = .ok (.bool true) [.un] := by
  obtain ⟨r, rest, e, hw⟩ := fl_inv h
  obtain ⟨h1, h2, w, w1, w2, hr⟩ := h
  have rl : r.length = w := hr r (by rw [e]; exact List.mem_cons_self)
  have lc := lc_map (f := lcF (evF tbl (n + 1)) (.call 1 (.e (.v 1) (.e (.bi .len (.ix (.v 0) (.k (.int 0)))) .nil))) (.n 1) .nil) (w := forget [1]) (ρ0 := [.im (flD rows), .un]) (g := fun _ => .bool true) (xs := rows.map fun r => .str (rowS r)) (fun y hy => by
    obtain ⟨x, hx, rfl⟩ := List.mem_map.mp hy
    have lx : x.length = r.length := hw x hx
    have hl : r.length ≤ lim := by unfold lim; omega
    have sp := sp_is_row n x (by omega)
    rw [lx] at sp
    subst e
    simp [turnR, lcF_eq, flD, itemD, atI_0, biD, lenD, hl, rowS_len, callR, refsA, argsS, giveBack, sp]) []
  rw [List.nil_append, map_const, List.length_map] at lc
  have hl : r.length ≤ lim := by unfold lim; omega
  subst e
  have a1 : (1 : Int) ≤ ((rest.length : Int) + 1) := by omega
  have a2 : ((rest.length : Int) + 1) ≤ 6 := by simp at h2; omega
  have a3 : (1 : Int) ≤ (r.length : Int) := by omega
  have a4 : (r.length : Int) ≤ 6 := by omega
  have a5 : 1 ≤ r.length := by omega
  simp only [flD, List.map_cons] at lc
  simp only [go2, runDf, df2, flD, List.map_cons]
  simp [isD, biD, lenD, a1, a2, a3, a4, itemD, atI_0, hl, rowS_len, itemsD, cleanAt, isOwn, lc, restore, outE]
  rw [all_true]
  simp
theorem sp_need (n : Nat) {rows : List (List Bool)} (h : FlOk 6 rows) : evF tbl (n + 3) 3 [.im (flD rows)] = .ok .none [.un] := by
  simp [go3, runDf, df3, callR, refsA, argsS, giveBack, sp_is_floor n h, outE]
/-! ## squares -/
def sqD (s : Nat × Nat) : PyData := .tuple [.int s.1, .int s.2]
def sqs (tall wide : Nat) : List (Nat × Nat) := (List.range tall).flatMap fun d => (List.range wide).map fun a => (d, a)
/-- the first row's length -/
def wd (rows : List (List Bool)) : Nat := (rows.headD []).length
def sqF : Ss := .cons (.ext 1 (.lc (.tup (.cons (.v 2) (.cons (.v 3) .nil))) (.n 3) (.rng1 (.bi .len (.ix (.v 0) (.k (.int 0))))) .nil [3])) .nil
theorem sqs_loop (cf : CallF) (fl x0 : PyData) (w : Nat) (hw : w ≤ 1000) (h0 : itemD fl (.int 0) = some x0) (hlen : biD .len x0 = some (.int w)) : ∀ (ds : List Nat) (acc : List (Nat × Nat)), acc.length + ds.length * w < 900000 →
    forLoop (forF cf (.n 2) sqF) (forget [2]) (ds.map fun (i : Nat) => PyData.int (0 + (i : Int))) [.im fl, .mu (.l (acc.map sqD)), .un, .un] = .ok .nx [.im fl, .mu (.l ((acc ++ ds.flatMap fun d => (List.range w).map fun a => (d, a)).map sqD)), .un, .un]
  | [], acc, _ => by simp [forLoop]
  | d :: ds, acc, h => by
    simp only [List.length_cons, Nat.add_mul, Nat.one_mul] at h
    have ih := sqs_loop cf fl x0 w hw h0 hlen ds (acc ++ (List.range w).map fun a => (d, a)) (by simp; omega)
    have lc := lc_map (f := lcF cf (.tup (.cons (.v 2) (.cons (.v 3) .nil))) (.n 3) .nil) (w := forget [3]) (ρ0 := [.im fl, .mu (.l (acc.map sqD)), .im (.int d), .un]) (g := fun y => .tuple [.int d, y]) (xs := rangeD 0 w) (fun y hy => by
      simp [turnR, lcF_eq]) []
    rw [List.nil_append] at lc
    have e : (rangeD 0 w).map (fun y => PyData.tuple [.int d, y]) = ((List.range w).map fun a => (d, a)).map sqD := by
      unfold rangeD
      rw [List.map_map, List.map_map]
      apply List.map_congr_left
      intro i _
      simp [sqD]
    rw [e] at lc
    have hw1 : (w : Int) ≤ 1000000 ∧ -1000000 ≤ (w : Int) := by omega
    have hl : acc.length + w < lim := by unfold lim; omega
    rw [List.map_cons, forLoop, forF_eq]
    have ih := ih
    simp at ih
    simp [sqF, h0, hlen, hw1, cleanAt, isOwn]
    simp at lc
    simp [lc, restore, hl]
    simp [sqF] at ih
    rw [ih]
theorem sp_squares (n : Nat) {rows : List (List Bool)} (h : FlOk 6 rows) : evF tbl (n + 1) 18 [.im (flD rows)] = .ok (.list ((sqs rows.length (wd rows)).map sqD)) [.un] := by
  obtain ⟨r, rest, e, hw⟩ := fl_inv h
  obtain ⟨h1, h2, w, w1, w2, hr⟩ := h
  have rl : r.length = w := hr r (by rw [e]; exact List.mem_cons_self)
  have hl : r.length ≤ lim := by unfold lim; omega
  have lp := sqs_loop (evF tbl n) (flD rows) (.str (rowS r)) r.length (by omega) (by rw [e]; simp [flD, itemD, atI_0]) (by simp [biD, lenD, rowS_len, hl]) (List.range rows.length) [] (by
    have : rows.length * r.length ≤ 6 * 6 := Nat.mul_le_mul h2 (by omega)
    simp; omega)
  have hr1 : (rows.length : Int) ≤ 1000000 ∧ -1000000 ≤ (rows.length : Int) := by omega
  simp at lp
  have ewd : wd rows = r.length := by rw [e]; rfl
  simp only [go18, runDf, df18]
  have lp2 := lp
  simp only [sqF] at lp2
  simp [biD, lenD, flD, hr1, rangeD, ownD]
  simp [flD] at lp2
  simp [lp2, M.toD, outE, sqs, ewd]
end AF

set_option maxHeartbeats 400000
namespace AF
open PySem L2
open PyProof.Rows hiding St
/-! ## turning a square -/
theorem sIx_nat (n k d : Nat) (h : k ≤ n) : HT.sIx n d (some (k : Int)) = k := by
  unfold HT.sIx
  have : ¬ ((k : Int) < 0) := by omega
  simp only [this, if_false]
  rw [Int.toNat_natCast]
  omega
theorem cut_hi {α : Type} (xs : List α) (k : Nat) (h : k ≤ xs.length) : cutD xs none (some (k : Int)) = xs.take k := by
  unfold cutD
  rw [sIx_nat _ _ _ h]
  show (xs.drop 0).take (k - 0) = _
  simp
theorem cut_lo {α : Type} (xs : List α) (k : Nat) (h : k ≤ xs.length) : cutD xs (some (k : Int)) none = xs.drop k := by
  unfold cutD
  rw [sIx_nat _ _ _ h]
  show (xs.drop k).take (xs.length - k) = _
  rw [List.take_of_length_le (by simp)]
theorem cutS_eq (x : Str) (lo hi : Option Int) : cutS x lo hi = ⟨(cutD x.cps.toList lo hi).toArray⟩ := by
  unfold cutS cutD Str.length
  rw [Array.length_toList]
theorem rowS_list (r : List Bool) : (rowS r).cps.toList = r.map chN := by simp [rowS]
theorem cutS_hi (r : List Bool) (k : Nat) (h : k ≤ r.length) : sliceD none (some (k : Int)) (.str (rowS r)) = if (rowS r).length ≤ lim then some (.str (rowS (r.take k))) else none := by
  show (if (rowS r).length ≤ lim then some (PyData.str (cutS (rowS r) none (some (k : Int)))) else none) = _
  rw [cutS_eq, rowS_list, cut_hi _ _ (by simpa using h), List.map_take.symm]
  rfl
theorem cutS_lo (r : List Bool) (k : Nat) (h : k ≤ r.length) : sliceD (some (k : Int)) none (.str (rowS r)) = if (rowS r).length ≤ lim then some (.str (rowS (r.drop k))) else none := by
  show (if (rowS r).length ≤ lim then some (PyData.str (cutS (rowS r) (some (k : Int)) none)) else none) = _
  rw [cutS_eq, rowS_list, cut_lo _ _ (by simpa using h), List.map_drop.symm]
  rfl
theorem row_app (a b : List Bool) : rowS a ++ rowS b = rowS (a ++ b) := by
  show (⟨((a.map chN).toArray) ++ ((b.map chN).toArray)⟩ : Str) = ⟨((a ++ b).map chN).toArray⟩
  simp
theorem chD_row (b : Bool) : chD b = .str (rowS [b]) := rfl
theorem row_item (r : List Bool) (a : Nat) (h : a < r.length) (hl : r.length ≤ 1000) : itemD (.str (rowS r)) (.int (a : Int)) = some (chD r[a]) := by
  show (if (rowS r).length ≤ lim then (atI (rowS r).cps.toList (a : Int)).map (fun c => PyData.str ⟨#[c]⟩) else none) = _
  rw [if_pos (by rw [rowS_len]; unfold lim; omega), rowS_list, atI_nat _ _ (by simpa using h)]
  simp [chD]
theorem fl_item (rows : List (List Bool)) (d : Nat) (h : d < rows.length) : itemD (flD rows) (.int (d : Int)) = some (.str (rowS rows[d])) := by
  show atI (rows.map fun r => PyData.str (rowS r)) (d : Int) = _
  rw [atI_nat _ _ (by simpa using h)]
  simp
theorem eq_ch (b : Bool) : cmpD .Eq (chD b) (.str (Str.ofString "a")) = some (!b) := by cases b <;> decide +kernel
theorem sp_other (n : Nat) (b : Bool) : evF tbl (n + 1) 10 [.im (chD b)] = .ok (chD (!b)) [.un] := by
  cases b <;> (simp [go10, runDf, df10, eq_ch, outE]; rfl)
theorem sp_at (n : Nat) {rows : List (List Bool)} {d a : Nat} (hd : d < rows.length) (ha : a < (rows[d]).length) (hl : (rows[d]).length ≤ 1000) : evF tbl (n + 1) 7 [.im (flD rows), .im (sqD (d, a))] = .ok (chD rows[d][a]) [.un, .un] := by
  have e1 : itemD (sqD (d, a)) (.int 0) = some (.int d) := rfl
  have e2 : itemD (sqD (d, a)) (.int 1) = some (.int a) := rfl
  simp [go7, runDf, df7, e1, e2, fl_item rows d hd, row_item _ a ha hl, outE]
def flip (rows : List (List Bool)) (s : Nat × Nat) : List (List Bool) := rows.modify s.1 fun r => r.modify s.2 (!·)
def InFl (rows : List (List Bool)) (s : Nat × Nat) : Prop := ∃ h : s.1 < rows.length, s.2 < (rows[s.1]).length
theorem mod_split {α : Type} (f : α → α) : ∀ (xs : List α) (k : Nat) (h : k < xs.length), xs.modify k f = xs.take k ++ [f xs[k]] ++ xs.drop (k + 1)
  | [], k, h => by simp at h
  | x :: xs, 0, h => by simp
  | x :: xs, k + 1, h => by
    have := mod_split f xs k (by simpa using h)
    simp [this]
theorem fl_hi (rows : List (List Bool)) (k : Nat) (h : k ≤ rows.length) : sliceD none (some (k : Int)) (flD rows) = some (flD (rows.take k)) := by
  show some (PyData.tuple (cutD (rows.map fun r => PyData.str (rowS r)) none (some (k : Int)))) = _
  rw [cut_hi _ _ (by simpa using h), List.map_take.symm]; rfl
theorem fl_lo (rows : List (List Bool)) (k : Nat) (h : k ≤ rows.length) : sliceD (some (k : Int)) none (flD rows) = some (flD (rows.drop k)) := by
  show some (PyData.tuple (cutD (rows.map fun r => PyData.str (rowS r)) (some (k : Int)) none)) = _
  rw [cut_lo _ _ (by simpa using h), List.map_drop.symm]; rfl
theorem fl_app (x y : List (List Bool)) (h : x.length + y.length ≤ 1000) : binD .Add (flD x) (flD y) = some (flD (x ++ y)) := by
  show (if (x.map fun r => PyData.str (rowS r)).length + (y.map fun r => PyData.str (rowS r)).length ≤ lim then some (PyData.tuple ((x.map fun r => PyData.str (rowS r)) ++ (y.map fun r => PyData.str (rowS r)))) else none) = _
  rw [if_pos (by simp; unfold lim; omega)]
  simp [flD]
theorem row_add (x y : List Bool) (h : x.length + y.length ≤ 1000) : binD .Add (.str (rowS x)) (.str (rowS y)) = some (.str (rowS (x ++ y))) := by
  show (if (rowS x).length + (rowS y).length ≤ lim then some (PyData.str (rowS x ++ rowS y)) else none) = _
  rw [if_pos (by rw [rowS_len, rowS_len]; unfold lim; omega), row_app]
theorem sp_turned_at (n : Nat) {rows : List (List Bool)} {d a : Nat} (hd : d < rows.length) (ha : a < (rows[d]).length) (hl : ∀ r ∈ rows, r.length ≤ 1000) (hr : rows.length ≤ 900) : evF tbl (n + 2) 89 [.im (flD rows), .im (sqD (d, a))] = .ok (flD (flip rows (d, a))) [.un, .un] := by
  have hl0 : (rows[d]).length ≤ 1000 := hl _ (List.getElem_mem hd)
  have hlim : (rowS rows[d]).length ≤ lim := by rw [rowS_len]; unfold lim; omega
  have at1 := sp_at n hd ha hl0
  have ot := sp_other n rows[d][a]
  have c1 := cutS_hi rows[d] a (by omega)
  have c2 := cutS_lo rows[d] (a + 1) (by omega)
  rw [if_pos hlim] at c1 c2
  have c3 := fl_hi rows d (by omega)
  have c4 := fl_lo rows (d + 1) (by omega)
  have b1 := row_add (rows[d].take a) [!rows[d][a]] (by simp; omega)
  have b2 := row_add (rows[d].take a ++ [!rows[d][a]]) (rows[d].drop (a + 1)) (by simp; omega)
  have b3 := fl_app (rows.take d) [rows[d].modify a (!·)] (by simp; omega)
  have b4 := fl_app (rows.take d ++ [rows[d].modify a (!·)]) (rows.drop (d + 1)) (by simp; omega)
  rw [← mod_split (fun x => !x) rows[d] a ha] at b2
  have m := mod_split (fun r : List Bool => r.modify a (!·)) rows d hd
  simp only [Int.natCast_add, Int.cast_ofNat_Int] at c2 c4
  simp only [go89, runDf, df89]
  simp only [sqD, chD_row] at at1 ot
  have t1 : PyData.tuple [.str (rowS (rows[d].modify a (!·)))] = flD [rows[d].modify a (!·)] := rfl
  simp [sqD, fl_item rows d hd, c1, c2, c3, c4, callR, refsA, argsS, giveBack, at1, ot, b1, b2, t1, b3, b4, outE, flip, m]
theorem eq_cs (b : Bool) : cmpD .Eq (.str (rowS [b])) (.str (Str.ofString "a")) = some (!b) := eq_ch b
theorem sp_turned2 (n : Nat) {rows : List (List Bool)} {d a : Nat} (hd : d < rows.length) (ha : a < (rows[d]).length) (hl : ∀ r ∈ rows, r.length ≤ 1000) (hr : rows.length ≤ 900) : evF tbl (n + 1) 85 [.im (flD rows), .im (sqD (d, a))] = .ok (flD (flip rows (d, a))) [.un, .un] := by
  have hl0 : (rows[d]).length ≤ 1000 := hl _ (List.getElem_mem hd)
  have hlim : (rowS rows[d]).length ≤ lim := by rw [rowS_len]; unfold lim; omega
  have ri := row_item rows[d] a ha hl0
  have c1 := cutS_hi rows[d] a (by omega)
  have c2 := cutS_lo rows[d] (a + 1) (by omega)
  rw [if_pos hlim] at c1 c2
  have c3 := fl_hi rows d (by omega)
  have c4 := fl_lo rows (d + 1) (by omega)
  have b1 := row_add (rows[d].take a) [!rows[d][a]] (by simp; omega)
  have b2 := row_add (rows[d].take a ++ [!rows[d][a]]) (rows[d].drop (a + 1)) (by simp; omega)
  have b3 := fl_app (rows.take d) [rows[d].modify a (!·)] (by simp; omega)
  have b4 := fl_app (rows.take d ++ [rows[d].modify a (!·)]) (rows.drop (d + 1)) (by simp; omega)
  rw [← mod_split (fun x => !x) rows[d] a ha] at b2
  have m := mod_split (fun r : List Bool => r.modify a (!·)) rows d hd
  simp only [Int.natCast_add, Int.cast_ofNat_Int] at c2 c4
  simp only [go85, runDf, df85]
  simp only [chD_row] at ri
  have t1 : PyData.tuple [.str (rowS (rows[d].modify a (!·)))] = flD [rows[d].modify a (!·)] := rfl
  have s1 : PyData.str (Str.ofString "a") = .str (rowS [false]) := rfl
  have s2 : PyData.str (Str.ofString "b") = .str (rowS [true]) := rfl
  have eq := eq_cs rows[d][a]
  rw [s1] at eq
  cases hb : rows[d][a] with
  | false =>
    rw [hb] at ri eq b1 b2
    simp only [Bool.not_false] at b1 b2 eq
    simp [sqD, fl_item rows d hd, c1, c2, c3, c4, ri, eq, s1, s2, b1, b2, t1, b3, b4, outE, flip, m]
  | true =>
    rw [hb] at ri eq b1 b2
    simp only [Bool.not_true] at b1 b2 eq
    simp [sqD, fl_item rows d hd, c1, c2, c3, c4, ri, eq, s1, s2, b1, b2, t1, b3, b4, outE, flip, m]
end AF

set_option maxHeartbeats 400000
namespace AF
open PySem L2
open PyProof.Rows hiding St
/-! ## turning many squares -/
structure Sh (t w : Nat) (rows : List (List Bool)) : Prop where
  l : rows.length = t
  r : ∀ r ∈ rows, r.length = w
def InB (t w : Nat) (s : Nat × Nat) : Prop := s.1 < t ∧ s.2 < w
theorem Sh.flip {t w : Nat} {rows : List (List Bool)} (h : Sh t w rows) (s : Nat × Nat) : Sh t w (flip rows s) := by
  refine ⟨by unfold AF.flip; rw [List.length_modify]; exact h.l, fun r hr => ?_⟩
  unfold AF.flip at hr
  obtain ⟨i, hi, e⟩ := List.mem_iff_getElem.mp hr
  rw [List.getElem_modify] at e
  split at e
  · rw [← e, List.length_modify]; exact h.r _ (List.getElem_mem _)
  · rw [← e]; exact h.r _ (List.getElem_mem _)
theorem sp_flip {t w : Nat} {rows : List (List Bool)} (h : Sh t w rows) (ht : t ≤ 900) (hw : w ≤ 1000) {s : Nat × Nat} (hs : InB t w s) (n : Nat) : evF tbl (n + 2) 89 [.im (flD rows), .im (sqD s)] = .ok (flD (flip rows s)) [.un, .un] := by
  obtain ⟨d, a⟩ := s
  have hd : d < rows.length := by rw [h.l]; exact hs.1
  exact sp_turned_at n hd (by rw [h.r _ (List.getElem_mem hd)]; exact hs.2) (fun r hr => by rw [h.r r hr]; exact hw) (by rw [h.l]; exact ht)
theorem sp_flip2 {t w : Nat} {rows : List (List Bool)} (h : Sh t w rows) (ht : t ≤ 900) (hw : w ≤ 1000) {s : Nat × Nat} (hs : InB t w s) (n : Nat) : evF tbl (n + 1) 85 [.im (flD rows), .im (sqD s)] = .ok (flD (flip rows s)) [.un, .un] := by
  obtain ⟨d, a⟩ := s
  have hd : d < rows.length := by rw [h.l]; exact hs.1
  exact sp_turned2 n hd (by rw [h.r _ (List.getElem_mem hd)]; exact hs.2) (fun r hr => by rw [h.r r hr]; exact hw) (by rw [h.l]; exact ht)
theorem flips_loop {t w : Nat} (ht : t ≤ 900) (hw : w ≤ 1000) (n : Nat) (x : PyData) : ∀ (L : List (Nat × Nat)) (rows : List (List Bool)), Sh t w rows → (∀ s ∈ L, InB t w s) →
    forLoop (forF (evF tbl (n + 2)) (.n 2) (.cons (.as false 0 (.call 89 (.e (.v 0) (.e (.v 2) .nil)))) .nil)) (forget [2]) (L.map sqD) [.im (flD rows), .im x, .un] = .ok .nx [.im (flD (L.foldl flip rows)), .im x, .un]
  | [], rows, _, _ => rfl
  | s :: L, rows, h, hL => by
    have ih := flips_loop ht hw n x L (flip rows s) (h.flip s) fun y hy => hL y (List.mem_cons_of_mem _ hy)
    have sp := sp_flip h ht hw (hL s List.mem_cons_self) n
    rw [List.map_cons, forLoop, forF_eq]
    simp [callR, refsA, argsS, giveBack, sp]
    simpa using ih
theorem sp_all_turned {t w : Nat} (ht : t ≤ 900) (hw : w ≤ 1000) (n : Nat) {rows : List (List Bool)} (h : Sh t w rows) (L : List (Nat × Nat)) (hL : ∀ s ∈ L, InB t w s) :
    evF tbl (n + 3) 90 [.im (flD rows), .im (.list (L.map sqD))] = .ok (flD (L.foldl flip rows)) [.un, .un] := by
  have lp := flips_loop ht hw n (.list (L.map sqD)) L rows h hL
  simp [go90, runDf, df90, itemsD, lp, outE]
theorem lex_cons (x y : Int) (xs ys : List (Int ⊕ List Nat)) : PyProof.Rows.lexLt PyProof.Rows.itemOrd (.inl x :: xs) (.inl y :: ys) = (decide (x < y) || (!decide (y < x) && PyProof.Rows.lexLt PyProof.Rows.itemOrd xs ys)) := rfl
theorem lt_sq (a b c d : Int) : cmpD .Lt (.tuple [.int a, .int b]) (.tuple [.int c, .int d]) = some (decide (a < c ∨ (a = c ∧ b < d))) := by
  have e : cmpD .Lt (.tuple [.int a, .int b]) (.tuple [.int c, .int d]) = some (PySem.W.dataLt (.tuple [.int a, .int b]) (.tuple [.int c, .int d])) := by
    simp [cmpD, ltOk, sh, PySem.W.alike, PySem.W.alikeAll]
  have e2 : PySem.W.dataLt (.tuple [.int a, .int b]) (.tuple [.int c, .int d]) = PyProof.Rows.lexLt PyProof.Rows.itemOrd [.inl 1, .inl a, .inl 1, .inl b, .inl 0] [.inl 1, .inl c, .inl 1, .inl d, .inl 0] := by
    simp [PySem.W.dataLt, PySem.W.keyToks, PySem.W.keyToksAll]
  have e3 : PyProof.Rows.lexLt PyProof.Rows.itemOrd ([] : List (Int ⊕ List Nat)) [] = false := rfl
  rw [e, e2]
  have e4 : PyProof.Rows.lexLt PyProof.Rows.itemOrd [.inl 1, .inl a, .inl 1, .inl b, .inl 0] [.inl 1, .inl c, .inl 1, .inl d, .inl 0] = (decide ((1 : Int) < 1) || (!decide ((1 : Int) < 1) && (decide (a < c) || (!decide (c < a) && (decide ((1 : Int) < 1) || (!decide ((1 : Int) < 1) && (decide (b < d) || (!decide (d < b) && (decide ((0 : Int) < 0) || (!decide ((0 : Int) < 0) && false)))))))))) := rfl
  rw [e4]
  by_cases h1 : a < c
  · simp [h1]
  · by_cases h2 : c < a
    · have : ¬ a = c := by omega
      simp [h1, h2, this]
    · have : a = c := by omega
      subst this
      simp
def ltS (s s' : Nat × Nat) : Prop := s.1 < s'.1 ∨ (s.1 = s'.1 ∧ s.2 < s'.2)
theorem lt_sqD {s s' : Nat × Nat} (h : ltS s s') : cmpD .Lt (sqD s) (sqD s') = some true := by
  unfold sqD
  rw [lt_sq]
  have : ((s.1 : Int) < s'.1 ∨ ((s.1 : Int) = s'.1 ∧ (s.2 : Int) < s'.2)) := by
    rcases h with h | ⟨h1, h2⟩
    · left; omega
    · right; omega
  rw [decide_eq_true this]
theorem sp_whole (n : Nat) (i lo hi : Int) (h : lo ≤ i) (h2 : i ≤ hi) : evF tbl (n + 1) 0 [.im (.int i), .im (.int lo), .im (.int hi)] = .ok (.bool true) [.un, .un, .un] := by
  simp [go0, runDf, df0, isD, outE, h, h2]
theorem atI_1 {α : Type} (x y : α) (xs : List α) : atI (x :: y :: xs) 1 = some y := by
  have := atI_nat (x :: y :: xs) 1 (by simp)
  simpa using this
theorem sp_is_square {t w : Nat} (ht : 1 ≤ t) {rows : List (List Bool)} (h : Sh t w rows) (hw : w ≤ 1000) {s : Nat × Nat} (hs : InB t w s) (n : Nat) : evF tbl (n + 3) 5 [.im (flD rows), .im (sqD s)] = .ok (.bool true) [.un, .un] := by
  obtain ⟨r, rest, e⟩ : ∃ r rest, rows = r :: rest := by
    cases rows with
    | nil => have := h.l; simp at this; omega
    | cons r rest => exact ⟨r, rest, rfl⟩
  have rl : r.length = w := h.r r (by rw [e]; exact List.mem_cons_self)
  have hl : r.length ≤ lim := by unfold lim; omega
  have tl : rest.length + 1 = t := by rw [← h.l, e]; rfl
  subst e
  obtain ⟨h1, h2⟩ := hs
  have a1 : (s.1 : Int) ≤ (rest.length : Int) := by omega
  have a2 : (s.2 : Int) ≤ (r.length : Int) - 1 := by omega
  have w1 := sp_whole n (s.1 : Int) 0 (rest.length : Int) (by omega) a1
  have w2 := sp_whole n (s.2 : Int) 0 ((r.length : Int) - 1) (by omega) a2
  simp [go5, runDf, df5, flD, biD, lenD, itemD, atI_0, rowS_len, hl, callR, refsA, argsS, giveBack, go4, df4, sqD, isD, ne_ii, outE, w1, w2, atI_1]
theorem cut_one {α : Type} (xs : List α) : cutD xs (some 1) none = xs.drop 1 := by
  cases xs with
  | nil => rfl
  | cons x xs => exact cut_lo (x :: xs) 1 (by simp)
/-- each less than the next -/
def rise : List (Nat × Nat) → Prop
  | s :: s' :: L => ltS s s' ∧ rise (s' :: L)
  | _ => True
theorem zip_rise : ∀ (L : List (Nat × Nat)), rise L → ∀ y ∈ zipD (L.map sqD) ((L.map sqD).drop 1), ∃ s s', y = .tuple [sqD s, sqD s'] ∧ ltS s s'
  | [], _, y, hy => by cases hy
  | [s], _, y, hy => by cases hy
  | s :: s' :: L, h, y, hy => by
    rcases List.mem_cons.mp (show y ∈ PyData.tuple [sqD s, sqD s'] :: zipD ((s' :: L).map sqD) (((s' :: L).map sqD).drop 1) from hy) with rfl | hy
    · exact ⟨s, s', rfl, h.1⟩
    · exact zip_rise (s' :: L) h.2 y hy
theorem sp_turned {t w : Nat} (ht : 1 ≤ t ∧ t ≤ 6) (hw : 1 ≤ w ∧ w ≤ 6) {rows : List (List Bool)} (h : Sh t w rows) (L : List (Nat × Nat)) (hL : ∀ s ∈ L, InB t w s) (hr : rise L) (n : Nat) :
    evF tbl (n + 4) 91 [.im (flD rows), .im (.list (L.map sqD))] = .ok (flD (L.foldl flip rows)) [.un, .un] := by
  have fo : FlOk 6 rows := ⟨by rw [h.l]; omega, by rw [h.l]; omega, w, by omega, by omega, h.r⟩
  have nf := sp_need n fo
  have at_ := sp_all_turned (by omega) (by omega) n h L hL
  have lc := lc_map (f := lcF (evF tbl (n + 3)) (.call 5 (.e (.v 0) (.e (.v 2) .nil))) (.n 2) .nil) (w := forget [2]) (ρ0 := [.im (flD rows), .im (.list (L.map sqD)), .un, .un, .un]) (g := fun _ => .bool true) (xs := L.map sqD) (fun y hy => by
    obtain ⟨s, hs, rfl⟩ := List.mem_map.mp hy
    have sp := sp_is_square ht.1 h (by omega) (hL s hs) n
    simp [turnR, lcF_eq, callR, refsA, argsS, giveBack, sp]) []
  have lz := lc_map (f := lcF (evF tbl (n + 3)) (.cmp .Lt (.v 3) (.v 4)) (.t (.cons (.n 3) (.cons (.n 4) .nil))) .nil) (w := forget [3, 4]) (ρ0 := [.im (flD rows), .im (.list (L.map sqD)), .un, .un, .un]) (g := fun _ => .bool true) (xs := zipD (L.map sqD) ((L.map sqD).drop 1)) (fun y hy => by
    obtain ⟨s, s', rfl, hs⟩ := zip_rise L hr y hy
    simp [turnR, lcF_eq, lt_sqD hs]) []
  rw [List.nil_append, map_const] at lc lz
  have sl : sliceD (some 1) none (.list (L.map sqD)) = some (.list ((L.map sqD).drop 1)) := by
    show some (PyData.list (cutD (L.map sqD) (some 1) none)) = _
    rw [cut_one]
  simp only [go91, runDf, df91]
  simp [callR, refsA, argsS, giveBack, nf, isD, itemsD, cleanAt, isOwn, lc, restore, biD, all_true, sl]
  simp only [List.drop_one] at lz
  simp [lz, all_true, restore, callR, refsA, argsS, giveBack, at_, outE]
/-! ## other -/
theorem sp_others (n : Nat) (r : List Bool) (h : r.length ≤ 1000) : evF tbl (n + 2) 11 [.im (.str (rowS r))] = .ok (.str (rowS (r.map (!·)))) [.un] := by
  have lc := lc_map (f := lcF (evF tbl (n + 1)) (.call 10 (.e (.v 1) .nil)) (.n 1) .nil) (w := forget [1]) (ρ0 := [.im (.str (rowS r)), .un]) (g := fun y => match y with
    | .str x => .str ⟨#[if x.cps.getD 0 0 = 98 then 97 else 98]⟩
    | _ => .none) (xs := r.map chD) (fun y hy => by
    obtain ⟨b, _, rfl⟩ := List.mem_map.mp hy
    have sp := sp_other n b
    cases b <;> (simp [turnR, lcF_eq, callR, refsA, argsS, giveBack, sp]; rfl)) []
  have e : (r.map chD).map (fun y => match y with
    | .str x => PyData.str ⟨#[if x.cps.getD 0 0 = 98 then 97 else 98]⟩
    | _ => .none) = (r.map (!·)).map chD := by
    rw [List.map_map, List.map_map]
    apply List.map_congr_left
    intro b _
    cases b <;> rfl
  rw [List.nil_append, e] at lc
  have jr := join_row (r.map (!·)) (by simpa using h)
  simp [go11, runDf, df11, meT, rowS_items r h, cleanAt, isOwn, lc, restore, meD, outE]
  rw [List.map_map] at jr
  simp [jr]
def neg (rows : List (List Bool)) : List (List Bool) := rows.map fun r => r.map (!·)
theorem sp_oth (n : Nat) {rows : List (List Bool)} (h : FlOk 6 rows) : evF tbl (n + 4) 12 [.im (flD rows)] = .ok (flD (neg rows)) [.un] := by
  have nf := sp_need n h
  have hr : ∀ r ∈ rows, r.length ≤ 1000 := by
    obtain ⟨_, _, w, _, w2, hr⟩ := h
    exact fun r h => by rw [hr r h]; omega
  have ex : ∀ r ∈ rows, evF tbl (n + 3) 11 [.im (.str (rowS r))] = .ok (.str (rowS (r.map (!·)))) [.un] := fun r h => sp_others (n + 1) r (hr r h)
  have lc := lc_map (f := lcF (evF tbl (n + 3)) (.call 11 (.e (.v 1) .nil)) (.n 1) .nil) (w := forget [1]) (ρ0 := [.im (flD rows), .un]) (g := fun y => match evF tbl (n + 3) 11 [.im y] with
    | .ok d _ => d
    | _ => .none) (xs := rows.map fun r => .str (rowS r)) (fun y hy => by
    obtain ⟨r, hr', rfl⟩ := List.mem_map.mp hy
    simp [turnR, lcF_eq, callR, refsA, argsS, giveBack, ex r hr']) []
  have e : (rows.map fun r => PyData.str (rowS r)).map (fun y => match evF tbl (n + 3) 11 [.im y] with
    | .ok d _ => d
    | _ => .none) = (neg rows).map fun r => .str (rowS r) := by
    unfold neg
    rw [List.map_map, List.map_map]
    apply List.map_congr_left
    intro r hr'
    simp [ex r hr']
  rw [List.nil_append, e] at lc
  have it : itemsD (flD rows) = some (rows.map fun r => .str (rowS r)) := rfl
  simp [go12, runDf, df12, callR, refsA, argsS, giveBack, nf, it, cleanAt, isOwn, lc, restore, biD, tupleD, outE]
  rfl
/-! ## what turning does, square by square -/
def cellB (rows : List (List Bool)) (d a : Nat) : Bool := (rows.getD d []).getD a false
theorem sh_ext {t w : Nat} {x y : List (List Bool)} (hx : Sh t w x) (hy : Sh t w y) (h : ∀ d a, d < t → a < w → cellB x d a = cellB y d a) : x = y := by
  apply List.ext_getElem (by rw [hx.l, hy.l])
  intro d h1 h2
  have l1 : x[d].length = w := hx.r _ (List.getElem_mem h1)
  have l2 : y[d].length = w := hy.r _ (List.getElem_mem h2)
  apply List.ext_getElem (by rw [l1, l2])
  intro a h3 h4
  have := h d a (by rw [← hx.l]; exact h1) (by rw [← l1]; exact h3)
  unfold cellB at this
  simpa [h1, h2, h3, h4] using this
theorem cell_flip {t w : Nat} {rows : List (List Bool)} (h : Sh t w rows) (s : Nat × Nat) {d a : Nat} (hd : d < t) (ha : a < w) : cellB (flip rows s) d a = (cellB rows d a != decide (s = (d, a))) := by
  have h1 : d < rows.length := by rw [h.l]; exact hd
  have l1 : rows[d].length = w := h.r _ (List.getElem_mem h1)
  obtain ⟨x, y⟩ := s
  unfold cellB flip
  by_cases e : x = d
  · subst e
    by_cases e2 : y = a
    · subst e2
      simp [h1, l1, ha, List.getElem?_modify]
    · simp [h1, l1, ha, List.getElem?_modify, e2]
  · simp [h1, l1, ha, List.getElem?_modify, e]
theorem sh_flips {t w : Nat} : ∀ (L : List (Nat × Nat)) {rows : List (List Bool)}, Sh t w rows → Sh t w (L.foldl flip rows)
  | [], _, h => h
  | s :: L, _, h => sh_flips L (h.flip s)
theorem cell_flips {t w : Nat} {d a : Nat} (hd : d < t) (ha : a < w) : ∀ (L : List (Nat × Nat)) {rows : List (List Bool)}, Sh t w rows → L.Nodup → cellB (L.foldl flip rows) d a = (cellB rows d a != decide ((d, a) ∈ L))
  | [], rows, _, _ => by simp
  | s :: L, rows, h, n => by
    have nd := List.nodup_cons.mp n
    rw [List.foldl_cons, cell_flips hd ha L (h.flip s) nd.2, cell_flip h s hd ha]
    by_cases e : s = (d, a)
    · subst e
      have : ¬ ((d, a) ∈ L) := nd.1
      simp [this]
    · have e' : ¬ ((d, a) = s) := fun z => e z.symm
      by_cases e3 : (d, a) ∈ L <;> simp [e, e', e3]
theorem cell_neg {t w : Nat} {rows : List (List Bool)} (h : Sh t w rows) {d a : Nat} (hd : d < t) (ha : a < w) : cellB (neg rows) d a = !cellB rows d a := by
  have h1 : d < rows.length := by rw [h.l]; exact hd
  have l1 : rows[d].length = w := h.r _ (List.getElem_mem h1)
  unfold cellB neg
  simp [h1, l1, ha]
end AF

set_option maxHeartbeats 400000
namespace AF
open PySem L2
open PyProof.Rows hiding St
theorem sp_pick {ns : List Int} (hn : ns.length ≤ 63) {t : Nat} (ht : t < 900000) (xs : List PyData) (hx : 0 < xs.length) : ∃ d ∈ xs, ∀ n, evF tbl (n + 4) 16 [.sc ns, .rf (.l (zs t)), .im (.list xs)] = .ok d [.un, .rf (.l (zs (t + 1))), .un] := by
  have hb : (0 : Int) < (xs.length : Int) := by omega
  have dl := drw_lt hn ht hb
  have d2 : drw ns t (xs.length : Int) < xs.length := by omega
  refine ⟨xs[drw ns t (xs.length : Int)], List.getElem_mem d2, fun n => ?_⟩
  have h1 := fun ρ (hi : getS ρ 0 = some ns) (hj : getM ρ 1 = some (.l (zs t))) => call_drw hn ht hb n hi hj
  simp [go16, runDf, df16, biD, lenD, h1, itemD, atI_nat xs _ d2, outE]
theorem call_pick {ns : List Int} (hn : ns.length ≤ 63) {t : Nat} (ht : t < 900000) (xs : List PyData) (hx : 0 < xs.length) : ∃ d ∈ xs, ∀ (n : Nat) (ρ : En) (i j : Nat), getS ρ i = some ns → getM ρ j = some (.l (zs t)) →
    callR (evF tbl (n + 4)) 16 [.s i, .r j, .d (.list xs)] ρ = (R.of (putM ρ j (.l (zs (t + 1)))) ρ).bind fun ρ' _ => .ok d ρ' := by
  obtain ⟨d, hd, sp⟩ := sp_pick hn ht xs hx
  refine ⟨d, hd, fun n ρ i j hi hj => ?_⟩
  unfold callR
  simp [refsA, argsS, hi, hj, sp n, giveBack]
/-- those that a draw takes -/
theorem lc_draw {ns : List Int} (hn : ns.length ≤ 63) (fl : PyData) (s3 s4 s5 s6 s8 s9 : S) (m : Int) (hm : 0 < m) (h5 : s5 = .im (.int m)) : ∀ (L : List (Nat × Nat)) (t : Nat) (acc : List PyData), t + L.length < 800000 → ∃ L' : List (Nat × Nat), List.Sublist L' L ∧ ∀ n,
    lcLoop (lcF (evF tbl (n + 3)) (.v 7) (.n 7) (.cons (.cmp .Eq (.call 15 (.s 0 (.r 1 (.e (.v 5) .nil)))) (.k (.int 0))) .nil)) (forget [7]) (L.map sqD) acc [.sc ns, .mu (.l (zs t)), .im fl, s3, s4, s5, s6, .un, s8, s9] =
      .ok (acc ++ L'.map sqD) [.sc ns, .mu (.l (zs (t + L.length))), .im fl, s3, s4, s5, s6, .un, s8, s9]
  | [], t, acc, _ => ⟨[], List.Sublist.refl _, fun n => by simp [lcLoop]⟩
  | s :: L, t, acc, ht => by
    subst h5
    simp only [List.length_cons] at ht
    have h1 := fun n ρ (hi : getS ρ 0 = some ns) (hj : getM ρ 1 = some (.l (zs t))) => call_drw hn (t := t) (by omega) hm n hi hj
    have e : t + (L.length + 1) = t + 1 + L.length := by omega
    by_cases hz : drw ns t m = 0
    · obtain ⟨L', h2, h3⟩ := lc_draw hn fl s3 s4 (.im (.int m)) s6 s8 s9 m hm rfl L (t + 1) (acc ++ [sqD s]) (by omega)
      refine ⟨s :: L', h2.cons_cons s, fun n => ?_⟩
      have h3 := h3 n
      rw [List.map_cons, lcLoop, lcF_eq]
      simp [h1, eq_ii, hz, h3, e]
    · obtain ⟨L', h2, h3⟩ := lc_draw hn fl s3 s4 (.im (.int m)) s6 s8 s9 m hm rfl L (t + 1) acc (by omega)
      refine ⟨L', h2.cons s, fun n => ?_⟩
      have h3 := h3 n
      rw [List.map_cons, lcLoop, lcF_eq]
      simp [h1, eq_ii, hz, h3, e]
end AF

set_option maxHeartbeats 400000
namespace AF
open PySem L2
open PyProof.Rows hiding St
theorem str_refl (x : Str) : PyData.eqv (.str x) (.str x) = true := by simp [PyData.eqv]
theorem sh_row (n : Nat) (r : List Bool) : sh n (.str (rowS r)) = true := by
  have : PyData.strOk (rowS r) = true := by
    show ((r.map chN).toArray).all (fun x => decide (x < 1114112)) = true
    simp [chN]
  cases n <;> exact this
theorem sh_fl (rows : List (List Bool)) : sh 8 (flD rows) = true := by
  show (rows.map fun r => PyData.str (rowS r)).all (sh 7) = true
  rw [List.all_map, List.all_eq_true]
  intro r _
  exact sh_row 7 r
theorem all_refl : ∀ (xs : List PyData), (∀ x ∈ xs, PyData.eqv x x = true) → PyData.eqvAll xs xs = true
  | [], _ => by simp [PyData.eqvAll]
  | x :: xs, h => by
    rw [PyData.eqvAll, h x List.mem_cons_self, all_refl xs fun y hy => h y (List.mem_cons_of_mem _ hy)]; rfl
theorem fl_refl (rows : List (List Bool)) : PyData.eqv (flD rows) (flD rows) = true := by
  show PyData.eqv (.tuple _) (.tuple _) = true
  rw [PyData.eqv]
  exact all_refl _ fun x hx => by obtain ⟨r, _, rfl⟩ := List.mem_map.mp hx; exact str_refl _
theorem ne_fl (rows : List (List Bool)) : cmpD .NotEq (flD rows) (flD rows) = some false := by
  show (if sh 8 (flD rows) && sh 8 (flD rows) then some (!PyData.eqv (flD rows) (flD rows)) else none) = _
  rw [sh_fl, fl_refl]; rfl
theorem eq_fl (rows : List (List Bool)) : cmpD .Eq (flD rows) (flD rows) = some true := by
  show (if sh 8 (flD rows) && sh 8 (flD rows) then some (PyData.eqv (flD rows) (flD rows)) else none) = _
  rw [sh_fl, fl_refl]; rfl
theorem sq_eqv (s s' : Nat × Nat) : PyData.eqv (sqD s) (sqD s') = decide (s = s') := by
  have e : PyData.eqv (sqD s) (sqD s') = (PyData.eqv (.int s.1) (.int s'.1) && (PyData.eqv (.int s.2) (.int s'.2) && true)) := by
    simp [sqD, PyData.eqv, PyData.eqvAll]
  rw [e, evq_ii, evq_ii]
  obtain ⟨a, b⟩ := s
  obtain ⟨c, d⟩ := s'
  by_cases h1 : a = c <;> by_cases h2 : b = d <;> simp [h1, h2] <;> omega
theorem sh_sq (s : Nat × Nat) : sh 7 (sqD s) = true := by simp [sqD, sh]
theorem sh_sqs (L : List (Nat × Nat)) : sh 8 (.list (L.map sqD)) = true := by
  show (L.map sqD).all (sh 7) = true
  rw [List.all_map, List.all_eq_true]
  intro s _
  exact sh_sq s
theorem ne_sqs (L : List (Nat × Nat)) : cmpD .NotEq (.list (L.map sqD)) (.list (L.map sqD)) = some false := by
  show (if sh 8 (.list (L.map sqD)) && sh 8 (.list (L.map sqD)) then some (!PyData.eqv (.list (L.map sqD)) (.list (L.map sqD))) else none) = _
  rw [sh_sqs, PyData.eqv, all_refl _ fun x hx => by obtain ⟨r, _, rfl⟩ := List.mem_map.mp hx; rw [sq_eqv]; simp]
  rfl
theorem in_sqs (s : Nat × Nat) (L : List (Nat × Nat)) : cmpD .In (sqD s) (.list (L.map sqD)) = some (decide (s ∈ L)) := by
  show (if sh 7 (sqD s) && (L.map sqD).all (sh 7) then some ((L.map sqD).any fun y => PyData.eqv y (sqD s)) else none) = _
  have h2 : (L.map sqD).all (sh 7) = true := by rw [List.all_map, List.all_eq_true]; intro s _; exact sh_sq s
  rw [sh_sq, h2]
  simp only [Bool.and_self, if_true]
  congr 1
  rw [List.any_map]
  induction L with
  | nil => rfl
  | cons x L ih =>
    rw [List.any_cons]
    have ih := ih (by rw [List.all_map, List.all_eq_true]; intro s _; exact sh_sq s)
    rw [ih]
    show (PyData.eqv (sqD x) (sqD s) || decide (s ∈ L)) = _
    rw [sq_eqv]
    by_cases e : x = s
    · subst e; simp
    · have : ¬ s = x := fun z => e z.symm
      simp [e, this]
end AF

set_option maxHeartbeats 400000
namespace AF
open PySem L2
open PyProof.Rows hiding St
/-! ## k12 -/
def k12b : Ss := .cons (.as false 5 (.call 16 (.s 0 (.r 1 (.e (.lst (.cons (.k (.int 1)) (.cons (.k (.int 2)) (.cons (.k (.int 5)) (.cons (.k (.int 40)) .nil))))) .nil)))))
  (.cons (.app 3 (.lc (.v 7) (.n 7) (.ex (.call 18 (.e (.v 2) .nil))) (.cons (.cmp .Eq (.call 15 (.s 0 (.r 1 (.e (.v 5) .nil)))) (.k (.int 0))) .nil) [7])) .nil)
theorem k12_turn {ns : List Int} (hn : ns.length ≤ 63) {rows : List (List Bool)} (h : FlOk 6 rows) (x : PyData) (ls : List PyData) (hls : ls.length < 100) (t : Nat) (ht : t < 700000) (s8 s9 : S) :
    ∃ (L : List (Nat × Nat)) (t' : Nat), List.Sublist L (sqs rows.length (wd rows)) ∧ t' ≤ t + 100 ∧ ∀ n, turnR (forF (evF tbl (n + 4)) (.n 4) k12b x [.sc ns, .mu (.l (zs t)), .im (flD rows), .mu (.l ls), .un, .un, .un, .un, s8, s9]) (forget [4, 5, 7]) =
      .ok .nx [.sc ns, .mu (.l (zs t')), .im (flD rows), .mu (.l (ls ++ [.list (L.map sqD)])), .un, .un, .un, .un, s8, s9] := by
  obtain ⟨d, hd, pk⟩ := call_pick hn (t := t) (by omega) [.int 1, .int 2, .int 5, .int 40] (by simp)
  obtain ⟨m, hm, rfl⟩ : ∃ m : Int, 0 < m ∧ d = .int m := by
    simp at hd
    rcases hd with rfl | rfl | rfl | rfl
    · exact ⟨1, by decide, rfl⟩
    · exact ⟨2, by decide, rfl⟩
    · exact ⟨5, by decide, rfl⟩
    · exact ⟨40, by decide, rfl⟩
  have lsq : (sqs rows.length (wd rows)).length ≤ 36 := by
    obtain ⟨r, rest, e, hw⟩ := fl_inv h
    obtain ⟨h1, h2, w, w1, w2, hr⟩ := h
    have rl : r.length = w := hr r (by rw [e]; exact List.mem_cons_self)
    have ewd : wd rows = w := by rw [e]; exact rl
    rw [ewd]
    have : (sqs rows.length w).length = rows.length * w := by
      unfold sqs
      rw [List.length_flatMap]
      have : ∀ n : Nat, ((List.range n).map fun (_ : Nat) => w).sum = n * w := by
        intro n
        induction n with
        | zero => simp
        | succ n ih => rw [List.range_succ, List.map_append, List.sum_append, ih]; simp [Nat.add_mul]
      simp
      exact this _
    rw [this]
    exact Nat.mul_le_mul h2 w2
  obtain ⟨L, hL, lc⟩ := lc_draw hn (flD rows) (.mu (.l ls)) (.im x) (.im (.int m)) .un s8 s9 m hm rfl (sqs rows.length (wd rows)) (t + 1) [] (by omega)
  refine ⟨L, t + 1 + (sqs rows.length (wd rows)).length, hL, by omega, fun n => ?_⟩
  have lc := lc (n + 1)
  have sq := sp_squares (n + 3) h
  have pk := fun ρ (hi : getS ρ 0 = some ns) (hj : getM ρ 1 = some (.l (zs t))) => pk n ρ 0 1 hi hj
  have hl : ls.length < lim := by unfold lim; omega
  rw [forF_eq]
  simp [k12b, turnR, pk]
  have csq : ∀ ρ : En, callR (evF tbl (n + 4)) 18 [.d (flD rows)] ρ = .ok (.list ((sqs rows.length (wd rows)).map sqD)) ρ := fun ρ => by
    unfold callR
    simp [refsA, argsS, sq, giveBack]
  simp at lc
  simp [csq, itemsD, cleanAt, isOwn, lc, restore, hl]
theorem sqs_in {t w : Nat} {s : Nat × Nat} (h : s ∈ sqs t w) : InB t w s := by
  unfold sqs at h
  obtain ⟨d, hd, h⟩ := List.mem_flatMap.mp h
  obtain ⟨a, ha, rfl⟩ := List.mem_map.mp h
  exact ⟨List.mem_range.mp hd, List.mem_range.mp ha⟩
theorem mem_sqs {t w d a : Nat} (hd : d < t) (ha : a < w) : (d, a) ∈ sqs t w :=
  List.mem_flatMap.mpr ⟨d, List.mem_range.mpr hd, List.mem_map.mpr ⟨a, List.mem_range.mpr ha, rfl⟩⟩
theorem sqs_pair (t w : Nat) : (sqs t w).Pairwise ltS := by
  unfold sqs
  rw [List.pairwise_flatMap]
  refine ⟨fun d _ => ?_, ?_⟩
  · rw [List.pairwise_map]
    exact (List.pairwise_lt_range).imp fun h => .inr ⟨rfl, h⟩
  · refine (List.pairwise_lt_range).imp fun {a b} h => ?_
    intro x hx y hy
    obtain ⟨_, _, rfl⟩ := List.mem_map.mp hx
    obtain ⟨_, _, rfl⟩ := List.mem_map.mp hy
    exact .inl h
theorem pair_rise : ∀ {L : List (Nat × Nat)}, L.Pairwise ltS → rise L
  | [], _ => trivial
  | [_], _ => trivial
  | s :: s' :: L, h => by
    have := List.pairwise_cons.mp h
    exact ⟨this.1 s' List.mem_cons_self, pair_rise this.2⟩
theorem pair_nodup {L : List (Nat × Nat)} (h : L.Pairwise ltS) : L.Nodup := h.imp fun {a b} h => by
  intro z
  subst z
  rcases h with h | ⟨_, h⟩ <;> omega
end AF

set_option maxHeartbeats 1000000
namespace AF
open PySem L2
open PyProof.Rows hiding St
def k12r : E := .and (.cmp .Eq (.call 91 (.e (.v 2) (.e (.call 18 (.e (.v 2) .nil)) .nil))) (.call 12 (.e (.v 2) .nil))) (.cons (.cmp .Eq (.call 91 (.e (.v 2) (.e (.lst .nil) .nil))) (.v 2)) .nil)
def k12c : E := .or (.cmp .NotEq (.call 91 (.e (.v 2) (.e (.ixM 3 (.k (.int 0))) .nil))) (.v 6)) (.cons (.cmp .NotEq (.ixM 3 (.k (.int 0))) (.v 8)) (.cons (.cmp .NotEq (.call 91 (.e (.v 6) (.e (.ixM 3 (.k (.int 0))) .nil))) (.v 2)) .nil))
def k12a : E := .lc (.v 7) (.n 7) (.ex (.call 18 (.e (.v 2) .nil))) (.cons (.cmp .NotEq (.cmp .In (.v 7) (.ixM 3 (.k (.int 0)))) (.cmp .In (.v 7) (.ixM 3 (.k (.int 1))))) .nil) [7]
def k12d : E := .cmp .NotEq (.call 91 (.e (.call 91 (.e (.v 2) (.e (.ixM 3 (.k (.int 0))) .nil))) (.e (.ixM 3 (.k (.int 1))) .nil))) (.call 91 (.e (.v 2) (.e (.v 9) .nil)))
def retF : Ss := .cons (.ret (.k (.bool false))) .nil
theorem df92_body : df92.body = .cons (.as true 1 (.lst .nil)) (.cons (.as false 2 (.call 17 (.s 0 (.r 1 (.e (.k (.int 6)) .nil))))) (.cons (.as true 3 (.lst .nil)) (.cons (.for_ (.n 4) (.rng1 (.k (.int 2))) k12b [4, 5, 7]) (.cons (.as false 6 (.v 2))
  (.cons (.for_ (.n 7) (.ex (.ixM 3 (.k (.int 0)))) (.cons (.as false 6 (.call 85 (.e (.v 6) (.e (.v 7) .nil)))) .nil) [7]) (.cons (.as false 8 (.bi .list (.ixM 3 (.k (.int 0))))) (.cons (.ite k12c retF .nil) (.cons (.as false 9 k12a) (.cons (.ite k12d retF .nil) (.cons (.ret k12r) .nil)))))))))) := rfl
theorem for_turn {f : PyData → En → R Fl} {w : En → En} {x : PyData} {xs : List PyData} {ρ ρ' : En} (h : turnR (f x ρ) w = .ok .nx ρ') : forLoop f w (x :: xs) ρ = forLoop f w xs ρ' := by
  unfold turnR at h
  rw [forLoop]
  cases e : f x ρ with
  | st => rw [e] at h; cases h
  | ex _ _ _ => rw [e] at h; cases h
  | ok fl ρ1 =>
    rw [e, R.bind_ok] at h
    injection h with h1 h2
    rw [h1, ← h2]
theorem due_loop {t w : Nat} (ht : t ≤ 900) (hw : w ≤ 1000) (n : Nat) (s0 s1 s2 s3 s4 s5 s8 s9 : S) : ∀ (L : List (Nat × Nat)) (rows : List (List Bool)), Sh t w rows → (∀ s ∈ L, InB t w s) →
    forLoop (forF (evF tbl (n + 4)) (.n 7) (.cons (.as false 6 (.call 85 (.e (.v 6) (.e (.v 7) .nil)))) .nil)) (forget [7]) (L.map sqD) [s0, s1, s2, s3, s4, s5, .im (flD rows), .un, s8, s9] = .ok .nx [s0, s1, s2, s3, s4, s5, .im (flD (L.foldl flip rows)), .un, s8, s9]
  | [], rows, _, _ => rfl
  | s :: L, rows, h, hL => by
    have ih := due_loop ht hw n s0 s1 s2 s3 s4 s5 s8 s9 L (flip rows s) (h.flip s) fun y hy => hL y (List.mem_cons_of_mem _ hy)
    have sp := sp_flip2 h ht hw (hL s List.mem_cons_self) (n + 3)
    rw [List.map_cons, forLoop, forF_eq]
    simp [callR, refsA, argsS, giveBack, sp]
    simpa using ih
theorem lc_filter {f : PyData → En → R (Option PyData)} {w : En → En} {ρ0 : En} {p : Nat × Nat → Bool} : ∀ (L : List (Nat × Nat)), (∀ s ∈ L, turnR (f (sqD s) ρ0) w = .ok (if p s then some (sqD s) else none) ρ0) → ∀ acc, lcLoop f w (L.map sqD) acc ρ0 = .ok (acc ++ (L.filter p).map sqD) ρ0
  | [], _, acc => by simp [lcLoop]
  | s :: L, h, acc => by
    have e := h s List.mem_cons_self
    rw [List.map_cons, lcLoop]
    unfold turnR at e
    cases e1 : f (sqD s) ρ0 with
    | st => rw [e1] at e; cases e
    | ex _ _ _ => rw [e1] at e; cases e
    | ok o ρx =>
      rw [e1, R.bind_ok] at e
      injection e with e2 e3
      rw [R.bind_ok, e2, e3, lc_filter L (fun y hy => h y (List.mem_cons_of_mem _ hy))]
      cases hp : p s <;> simp [hp]
theorem ne_bb (x y : Bool) : cmpD .NotEq (.bool x) (.bool y) = some (x != y) := by cases x <;> cases y <;> rfl
theorem k12_law (ns : List Int) (hn : ns.length ≤ 63) (n : Nat) : ∃ ρ, evF tbl (n + 5) 92 [.sc ns] = .ok (.bool true) ρ := by
  obtain ⟨rows, t1, _, ht1, fo, fl⟩ := ex_floor hn 0 (by omega) 6 (by decide) (by decide)
  obtain ⟨L0, t2, s0, ht2, u0⟩ := k12_turn hn fo (.int 0) [] (by simp) t1 (by omega) .un .un
  obtain ⟨L1, t3, s1, ht3, u1⟩ := k12_turn hn fo (.int 1) [.list (L0.map sqD)] (by simp) t2 (by omega) .un .un
  obtain ⟨h1, h2, w, w1, w2, hr⟩ := fo
  have sh : Sh rows.length w rows := ⟨rfl, hr⟩
  have ewd : wd rows = w := by
    cases rows with
    | nil => simp at h1
    | cons r rest => exact hr r List.mem_cons_self
  rw [ewd] at s0 s1
  have p0 := (sqs_pair rows.length w).sublist s0
  have p1 := (sqs_pair rows.length w).sublist s1
  have i0 : ∀ s ∈ L0, InB rows.length w s := fun s h => sqs_in (s0.subset h)
  have i1 : ∀ s ∈ L1, InB rows.length w s := fun s h => sqs_in (s1.subset h)
  have fo : FlOk 6 rows := ⟨h1, h2, w, w1, w2, hr⟩
  have T : ∀ {rows' : List (List Bool)} (L : List (Nat × Nat)), Sh rows.length w rows' → L.Pairwise ltS → (∀ s ∈ L, InB rows.length w s) → ∀ ρ : En, callR (evF tbl (n + 4)) 91 [.d (flD rows'), .d (.list (L.map sqD))] ρ = .ok (flD (L.foldl flip rows')) ρ := by
    intro rows' L a b c ρ
    have sp := sp_turned ⟨h1, h2⟩ ⟨w1, w2⟩ a L c (pair_rise b) n
    unfold callR
    simp [refsA, argsS, sp, giveBack]
  have csq : ∀ ρ : En, callR (evF tbl (n + 4)) 18 [.d (flD rows)] ρ = .ok (.list ((sqs rows.length w).map sqD)) ρ := fun ρ => by
    have sq := sp_squares (n + 3) fo
    rw [ewd] at sq
    unfold callR
    simp [refsA, argsS, sq, giveBack]
  have coth : ∀ ρ : En, callR (evF tbl (n + 4)) 12 [.d (flD rows)] ρ = .ok (flD (neg rows)) ρ := fun ρ => by
    have so := sp_oth n fo
    unfold callR
    simp [refsA, argsS, so, giveBack]
  -- the plain law
  have back : L0.foldl flip (L0.foldl flip rows) = rows := by
    refine sh_ext (sh_flips _ (sh_flips _ sh)) sh fun d a hd ha => ?_
    rw [cell_flips hd ha L0 (sh_flips L0 sh) (pair_nodup p0), cell_flips hd ha L0 sh (pair_nodup p0)]
    simp
  have alone : L1.foldl flip (L0.foldl flip rows) = ((sqs rows.length w).filter fun s => decide (s ∈ L0) != decide (s ∈ L1)).foldl flip rows := by
    refine sh_ext (sh_flips _ (sh_flips _ sh)) (sh_flips _ sh) fun d a hd ha => ?_
    rw [cell_flips hd ha L1 (sh_flips L0 sh) (pair_nodup p1), cell_flips hd ha L0 sh (pair_nodup p0), cell_flips hd ha _ sh (pair_nodup ((sqs_pair rows.length w).filter _))]
    have m := mem_sqs hd ha
    by_cases z0 : (d, a) ∈ L0 <;> by_cases z1 : (d, a) ∈ L1 <;> simp [z0, z1, m, List.mem_filter]
  have all : (sqs rows.length w).foldl flip rows = neg rows := by
    refine sh_ext (sh_flips _ sh) ⟨by simp [neg], fun r hr' => ?_⟩ fun d a hd ha => ?_
    · obtain ⟨x, hx, rfl⟩ := List.mem_map.mp hr'
      rw [List.length_map]; exact hr x hx
    · rw [cell_flips hd ha _ sh (pair_nodup (sqs_pair rows.length w)), cell_neg sh hd ha]
      have m := mem_sqs hd ha
      simp [m]
  have c17 : ∀ ρ : En, getS ρ 0 = some ns → getM ρ 1 = some (.l (zs 0)) → callR (evF tbl (n + 4)) 17 [.s 0, .r 1, .d (.int 6)] ρ = (R.of (putM ρ 1 (.l (zs t1))) ρ).bind fun ρ' _ => .ok (flD rows) ρ' := fun ρ hi hj => by
    have sp := fl n
    simp only [Int.cast_ofNat_Int] at sp
    unfold callR
    simp [refsA, argsS, hi, hj, sp, giveBack]
  have z0 : ([] : List PyData) = zs 0 := rfl
  have lA := u0 n
  have lB := u1 n
  simp only [List.nil_append] at lA
  have due := due_loop (t := rows.length) (w := w) (by omega) (by omega) n (.sc ns) (.mu (.l (zs t3))) (.im (flD rows)) (.mu (.l [.list (L0.map sqD), .list (L1.map sqD)])) .un .un .un .un L0 rows sh i0
  have ls0 : itemD (.list [.list (L0.map sqD), .list (L1.map sqD)]) (.int 0) = some (.list (L0.map sqD)) := by simp [itemD, atI_0]
  have ls1 : itemD (.list [.list (L0.map sqD), .list (L1.map sqD)]) (.int 1) = some (.list (L1.map sqD)) := by simp [itemD, atI_1]
  refine ⟨[.un], ?_⟩
  rw [go92]
  unfold runDf
  rw [if_pos (by rfl), df92_body, show df92.ns - df92.np = 9 from rfl]
  show (match evSs (evF tbl (n + 4)) _ [.sc ns, .un, .un, .un, .un, .un, .un, .un, .un, .un] with
    | .ok (.rt x) ρ => R.ok x (outE df92.np ρ)
    | .ok .nx ρ => .ok .none (outE df92.np ρ)
    | .ok _ _ => .st
    | .ex c f ρ => .ex c f (outE df92.np ρ)
    | .st => .st) = _
  rw [seq_nx _ _ _ _ [.sc ns, .mu (.l (zs 0)), .un, .un, .un, .un, .un, .un, .un, .un] (by simp [ownD]; rfl),
    seq_nx _ _ _ _ [.sc ns, .mu (.l (zs t1)), .im (flD rows), .un, .un, .un, .un, .un, .un, .un] (by simp [c17]),
    seq_nx _ _ _ _ [.sc ns, .mu (.l (zs t1)), .im (flD rows), .mu (.l []), .un, .un, .un, .un, .un, .un] (by simp [ownD]),
    seq_nx _ _ _ _ [.sc ns, .mu (.l (zs t3)), .im (flD rows), .mu (.l [.list (L0.map sqD), .list (L1.map sqD)]), .un, .un, .un, .un, .un, .un] (by
      have e : rangeD 0 2 = [.int 0, .int 1] := rfl
      simp [e]
      rw [for_turn lA, for_turn lB]
      rfl),
    seq_nx _ _ _ _ [.sc ns, .mu (.l (zs t3)), .im (flD rows), .mu (.l [.list (L0.map sqD), .list (L1.map sqD)]), .un, .un, .im (flD rows), .un, .un, .un] (by simp),
    seq_nx _ _ _ _ [.sc ns, .mu (.l (zs t3)), .im (flD rows), .mu (.l [.list (L0.map sqD), .list (L1.map sqD)]), .un, .un, .im (flD (L0.foldl flip rows)), .un, .un, .un] (by simp [ls0, itemsD, due]),
    seq_nx _ _ _ _ [.sc ns, .mu (.l (zs t3)), .im (flD rows), .mu (.l [.list (L0.map sqD), .list (L1.map sqD)]), .un, .un, .im (flD (L0.foldl flip rows)), .un, .im (.list (L0.map sqD)), .un] (by simp [ls0, biD, listD]),
    seq_nx _ _ _ _ [.sc ns, .mu (.l (zs t3)), .im (flD rows), .mu (.l [.list (L0.map sqD), .list (L1.map sqD)]), .un, .un, .im (flD (L0.foldl flip rows)), .un, .im (.list (L0.map sqD)), .un] (by
      simp [k12c, ls0, T L0 sh p0 i0, T L0 (sh_flips L0 sh) p0 i0, ne_fl, ne_sqs, back])]
  have la := lc_filter (f := lcF (evF tbl (n + 4)) (.v 7) (.n 7) (.cons (.cmp .NotEq (.cmp .In (.v 7) (.ixM 3 (.k (.int 0)))) (.cmp .In (.v 7) (.ixM 3 (.k (.int 1))))) .nil)) (w := forget [7])
    (ρ0 := [.sc ns, .mu (.l (zs t3)), .im (flD rows), .mu (.l [.list (L0.map sqD), .list (L1.map sqD)]), .un, .un, .im (flD (L0.foldl flip rows)), .un, .im (.list (L0.map sqD)), .un]) (p := fun s => decide (s ∈ L0) != decide (s ∈ L1)) (sqs rows.length w) (fun s hs => by
      cases hb : (decide (s ∈ L0) != decide (s ∈ L1)) <;> simp [turnR, lcF_eq, ls0, ls1, in_sqs, ne_bb, hb]) []
  rw [List.nil_append] at la
  have pa := (sqs_pair rows.length w).filter (fun s => decide (s ∈ L0) != decide (s ∈ L1))
  have ia : ∀ s ∈ (sqs rows.length w).filter (fun s => decide (s ∈ L0) != decide (s ∈ L1)), InB rows.length w s := fun s h => sqs_in (List.mem_filter.mp h).1
  have emp : evs (evF tbl (n + 4)) .nil = fun ρ => .ok [] ρ := rfl
  have t5 := T [] sh List.Pairwise.nil (fun s h => by cases h)
  simp only [List.map_nil, List.foldl_nil] at t5
  rw [seq_nx _ _ _ _ [.sc ns, .mu (.l (zs t3)), .im (flD rows), .mu (.l [.list (L0.map sqD), .list (L1.map sqD)]), .un, .un, .im (flD (L0.foldl flip rows)), .un, .im (.list (L0.map sqD)), .im (.list (((sqs rows.length w).filter fun s => decide (s ∈ L0) != decide (s ∈ L1)).map sqD))] (by
      simp [k12a, csq, itemsD, cleanAt, isOwn, la, restore]),
    seq_nx _ _ _ _ [.sc ns, .mu (.l (zs t3)), .im (flD rows), .mu (.l [.list (L0.map sqD), .list (L1.map sqD)]), .un, .un, .im (flD (L0.foldl flip rows)), .un, .im (.list (L0.map sqD)), .im (.list (((sqs rows.length w).filter fun s => decide (s ∈ L0) != decide (s ∈ L1)).map sqD))] (by
      simp [k12d, ls0, ls1, T L0 sh p0 i0, T L1 (sh_flips L0 sh) p1 i1, T _ sh pa ia, alone, ne_fl])]
  simp [k12r, csq, coth, T _ sh (sqs_pair rows.length w) (fun s h => sqs_in h), all, eq_fl, t5, outE]
  rfl
end AF

namespace AF
/-! # lines, in plain Lean -/
/-! ## lists of numbers without repetition -/
theorem nodup_bound : ∀ (n : Nat) (l : List Nat), l.Nodup → (∀ x ∈ l, x < n) → l.length ≤ n
  | 0, l, _, h => by
    cases l with
    | nil => exact Nat.le_refl _
    | cons x l => exact absurd (h x List.mem_cons_self) (by omega)
  | n + 1, l, nd, h => by
    by_cases e : n ∈ l
    · have h1 := nodup_bound n (l.erase n) (nd.erase n) (fun x hx => by
        have h2 := (List.Nodup.mem_erase_iff nd).mp hx
        have := h x h2.2
        have : x ≠ n := h2.1
        omega)
      rw [List.length_erase_of_mem e] at h1
      omega
    · have h1 := nodup_bound n l nd (fun x hx => by
        have := h x hx
        have : x ≠ n := fun z => e (z ▸ hx)
        omega)
      omega
theorem nodup_map_on {α β : Type} (f : α → β) : ∀ (l : List α), (∀ x ∈ l, ∀ y ∈ l, f x = f y → x = y) → l.Nodup → (l.map f).Nodup
  | [], _, _ => List.nodup_nil
  | a :: l, h, nd => by
    have nd := List.nodup_cons.mp nd
    rw [List.map_cons, List.nodup_cons]
    refine ⟨fun hm => ?_, nodup_map_on f l (fun x hx y hy => h x (List.mem_cons_of_mem _ hx) y (List.mem_cons_of_mem _ hy)) nd.2⟩
    obtain ⟨b, hb, e⟩ := List.mem_map.mp hm
    have := h b (List.mem_cons_of_mem _ hb) a List.mem_cons_self e
    exact nd.1 (this ▸ hb)
theorem nodup_rev {α : Type} {l : List α} (h : l.Nodup) : l.reverse.Nodup := by
  show List.Pairwise _ _
  rw [List.pairwise_reverse]
  exact List.Pairwise.imp (fun h => Ne.symm h) h
/-! ## walks by a partial map that is one to one -/
section
variable {Q : Type} (nx : Q → Option Q)
/-- from q on to where nothing follows, or the first follows -/
inductive Wk (first : Q) : Q → List Q → Prop
  | stop {q : Q} : (nx q = none ∨ nx q = some first) → Wk first q [q]
  | go {q r : Q} {l : List Q} : nx q = some r → r ≠ first → Wk first r l → Wk first q (q :: l)
abbrev Ln (q : Q) (l : List Q) : Prop := Wk nx q q l
/-- a path, from its end back -/
inductive Pt (first : Q) : List Q → Prop
  | one : Pt first [first]
  | more {q r : Q} {l : List Q} : nx q = some r → Pt first (q :: l) → Pt first (r :: q :: l)
variable {nx}
theorem Wk.head {first q : Q} {l : List Q} (h : Wk nx first q l) : ∃ t, l = q :: t := by
  cases h with
  | stop _ => exact ⟨[], rfl⟩
  | go _ _ _ => exact ⟨_, rfl⟩
theorem Wk.uniq {first : Q} : ∀ {q : Q} {l m : List Q}, Wk nx first q l → Wk nx first q m → l = m := by
  intro q l m h
  induction h generalizing m with
  | stop h =>
    intro g
    cases g with
    | stop _ => rfl
    | go e ne _ =>
      rcases h with h | h
      · rw [h] at e; cases e
      · rw [h] at e; cases e; exact absurd rfl ne
  | go e ne h ih =>
    intro g
    cases g with
    | stop h2 =>
      rcases h2 with h2 | h2
      · rw [h2] at e; cases e
      · rw [h2] at e; cases e; exact absurd rfl ne
    | go e2 ne2 h2 =>
      rw [e] at e2
      cases e2
      rw [ih h2]
theorem Pt.pred {first : Q} : ∀ {l : List Q}, Pt nx first l → ∀ {r}, r ∈ l → r ≠ first → ∃ p ∈ l.tail, nx p = some r := by
  intro l h
  induction h with
  | one =>
    intro r hr hn
    rw [List.mem_singleton] at hr
    exact absurd hr hn
  | @more q r' l e h ih =>
    intro r hr hn
    rcases List.mem_cons.mp hr with rfl | hr
    · exact ⟨q, List.mem_cons_self, e⟩
    · obtain ⟨p, hp, e2⟩ := ih hr hn
      exact ⟨p, List.mem_of_mem_tail hp, e2⟩
/-- a walk ends: the map is one to one, and all is among n -/
theorem wk_ex [DecidableEq Q] (inj : ∀ {p q r : Q}, nx p = some r → nx q = some r → p = q) (V : Q → Prop) (cl : ∀ {q r}, V q → nx q = some r → V r) (code : Q → Nat) (n : Nat) (cn : ∀ q, V q → code q < n)
    (ci : ∀ p q, V p → V q → code p = code q → p = q) (first : Q) : ∀ (m : Nat) (q : Q) (p : List Q), n - (p.length + 1) = m → Pt nx first (q :: p) → (q :: p).Nodup → (∀ x ∈ q :: p, V x) → ∃ l, Wk nx first q l ∧ (p.reverse ++ l).Nodup ∧ (∀ x ∈ l, V x) ∧ p.length + l.length ≤ n := by
  intro m
  have bnd : ∀ l : List Q, l.Nodup → (∀ x ∈ l, V x) → l.length ≤ n := fun l nd hv => by
    have := nodup_bound n (l.map code) (nodup_map_on code l (fun x hx y hy => ci x y (hv x hx) (hv y hy)) nd) (fun x hx => by
      obtain ⟨y, hy, rfl⟩ := List.mem_map.mp hx
      exact cn y (hv y hy))
    simpa using this
  induction m with
  | zero =>
    intro q p e pt nd hv
    have b := bnd _ nd hv
    have stop : (nx q = none ∨ nx q = some first) → ∃ l, Wk nx first q l ∧ (p.reverse ++ l).Nodup ∧ (∀ x ∈ l, V x) ∧ p.length + l.length ≤ n := fun h =>
      ⟨[q], .stop h, by
        have := nodup_rev nd
        simpa using this, fun x hx => by rw [List.mem_singleton] at hx; subst hx; exact hv _ List.mem_cons_self, by simpa using b⟩
    cases e1 : nx q with
    | none => exact stop (.inl e1)
    | some r =>
      by_cases e2 : r = first
      · exact stop (.inr (by rw [e1, e2]))
      · exfalso
        have nr : r ∉ q :: p := fun hr => by
          obtain ⟨z, hz, e3⟩ := pt.pred hr e2
          have := inj e3 e1
          subst this
          exact (List.nodup_cons.mp nd).1 hz
        have := bnd (r :: q :: p) (List.nodup_cons.mpr ⟨nr, nd⟩) (fun x hx => by
          rcases List.mem_cons.mp hx with rfl | hx
          · exact cl (hv q List.mem_cons_self) e1
          · exact hv x hx)
        simp at this b
        omega
  | succ m ih =>
    intro q p e pt nd hv
    have b := bnd _ nd hv
    have stop : (nx q = none ∨ nx q = some first) → ∃ l, Wk nx first q l ∧ (p.reverse ++ l).Nodup ∧ (∀ x ∈ l, V x) ∧ p.length + l.length ≤ n := fun h =>
      ⟨[q], .stop h, by
        have := nodup_rev nd
        simpa using this, fun x hx => by rw [List.mem_singleton] at hx; subst hx; exact hv _ List.mem_cons_self, by simpa using b⟩
    cases e1 : nx q with
    | none => exact stop (.inl e1)
    | some r =>
      by_cases e2 : r = first
      · exact stop (.inr (by rw [e1, e2]))
      · have nr : r ∉ q :: p := fun hr => by
          obtain ⟨z, hz, e3⟩ := pt.pred hr e2
          have := inj e3 e1
          subst this
          exact (List.nodup_cons.mp nd).1 hz
        obtain ⟨l, w, d, v, hl⟩ := ih r (q :: p) (by simp; omega) (.more e1 pt) (List.nodup_cons.mpr ⟨nr, nd⟩) (fun x hx => by
          rcases List.mem_cons.mp hx with rfl | hx
          · exact cl (hv q List.mem_cons_self) e1
          · exact hv x hx)
        refine ⟨q :: l, .go e1 e2 w, by simpa using d, fun x hx => ?_, by simp at hl ⊢; omega⟩
        rcases List.mem_cons.mp hx with rfl | hx
        · exact hv x List.mem_cons_self
        · exact v x hx
end
/-! ## floors: cells, sides, arcs -/
/-- a state: a square, and the side from which one comes in -/
structure Qs where
  d : Nat
  a : Nat
  s : Nat
  deriving DecidableEq
/-- a letter: true is b -/
def oS (b : Bool) (s : Nat) : Nat := if b then (match s with
  | 0 => 1
  | 1 => 0
  | 2 => 3
  | _ => 2) else 3 - s
theorem oS_lt (b : Bool) {s : Nat} (h : s < 4) : oS b s < 4 := by
  unfold oS
  split
  · split <;> omega
  · omega
theorem oS_out (b : Bool) {s : Nat} (h : s < 4) : oS b (oS b s) = s := by
  have : s = 0 ∨ s = 1 ∨ s = 2 ∨ s = 3 := by omega
  rcases this with rfl | rfl | rfl | rfl <;> cases b <;> rfl
theorem oS_ne (b : Bool) {s : Nat} (h : s < 4) : oS b s ≠ s := by
  have : s = 0 ∨ s = 1 ∨ s = 2 ∨ s = 3 := by omega
  rcases this with rfl | rfl | rfl | rfl <;> cases b <;> decide
/-- over a side of a square, in a floor of h rows and w columns -/
def ovr (h w d a o : Nat) : Option Qs := match o with
  | 0 => if 0 < d then some ⟨d - 1, a, 2⟩ else none
  | 1 => if a + 1 < w then some ⟨d, a + 1, 3⟩ else none
  | 2 => if d + 1 < h then some ⟨d + 1, a, 0⟩ else none
  | _ => if 0 < a then some ⟨d, a - 1, 1⟩ else none
structure Fr where
  h : Nat
  w : Nat
  c : Nat → Nat → Bool
namespace Fr
variable (F : Fr)
def out (q : Qs) : Nat := oS (F.c q.d q.a) q.s
def nx (q : Qs) : Option Qs := ovr F.h F.w q.d q.a (F.out q)
def rv (q : Qs) : Qs := ⟨q.d, q.a, F.out q⟩
def V (q : Qs) : Prop := q.d < F.h ∧ q.a < F.w ∧ q.s < 4
def mark (q : Qs) : Nat := if q.s = 0 ∨ F.out q = 0 then 0 else 1
variable {F}
theorem V.out {q : Qs} (h : F.V q) : F.out q < 4 := oS_lt _ h.2.2
theorem V.rv {q : Qs} (h : F.V q) : F.V (F.rv q) := ⟨h.1, h.2.1, h.out⟩
theorem out_rv {q : Qs} (h : F.V q) : F.out (F.rv q) = q.s := oS_out _ h.2.2
theorem rv_rv {q : Qs} (h : F.V q) : F.rv (F.rv q) = q := by
  have := out_rv h
  show (⟨q.d, q.a, F.out (F.rv q)⟩ : Qs) = q
  rw [this]
theorem ovr_V {h w d a o : Nat} (hd : d < h) (ha : a < w) (ho : o < 4) {r : Qs} (e : ovr h w d a o = some r) : r.d < h ∧ r.a < w ∧ r.s < 4 := by
  have : o = 0 ∨ o = 1 ∨ o = 2 ∨ o = 3 := by omega
  rcases this with rfl | rfl | rfl | rfl <;> (unfold ovr at e; simp only at e; split at e <;> cases e; simp; omega)
theorem V.nx {q r : Qs} (h : F.V q) (e : F.nx q = some r) : F.V r := ovr_V h.1 h.2.1 h.out e
/-- back over the side -/
theorem ovr_back {h w d a o : Nat} (hd : d < h) (ha : a < w) (ho : o < 4) {r : Qs} (e : ovr h w d a o = some r) : ovr h w r.d r.a r.s = some ⟨d, a, o⟩ := by
  have : o = 0 ∨ o = 1 ∨ o = 2 ∨ o = 3 := by omega
  rcases this with rfl | rfl | rfl | rfl
  · unfold ovr at e ⊢; simp only at e; split at e <;> cases e
    simp only
    rw [if_pos (by omega)]
    congr 2; omega
  · unfold ovr at e ⊢; simp only at e; split at e <;> cases e
    simp
  · unfold ovr at e ⊢; simp only at e; split at e <;> cases e
    simp
  · unfold ovr at e ⊢; simp only at e; split at e <;> cases e
    simp only
    rw [if_pos (by omega)]
    congr 2; omega
theorem nx_rv {q r : Qs} (h : F.V q) (e : F.nx q = some r) : F.nx (F.rv r) = some (F.rv q) := by
  have hr := h.nx e
  have := ovr_back h.1 h.2.1 h.out e
  show ovr F.h F.w r.d r.a (F.out (F.rv r)) = _
  rw [out_rv hr, this]; rfl
theorem rv_inj {p q : Qs} (hp : F.V p) (hq : F.V q) (e : F.rv p = F.rv q) : p = q := by rw [← rv_rv hp, ← rv_rv hq, e]
theorem nx_inj {p q r : Qs} (hp : F.V p) (hq : F.V q) (e1 : F.nx p = some r) (e2 : F.nx q = some r) : p = q := by
  have a := nx_rv hp e1
  have b := nx_rv hq e2
  rw [a] at b
  exact rv_inj hp hq (Option.some.inj b)
theorem rv_ne {q : Qs} (h : F.V q) : F.rv q ≠ q := fun e => oS_ne (F.c q.d q.a) h.2.2 (congrArg Qs.s e)
theorem nx_ne_rv {q : Qs} (h : F.V q) : F.nx q ≠ some (F.rv q) := fun e => by
  have ho := h.out
  unfold Fr.nx ovr at e
  have : F.out q = 0 ∨ F.out q = 1 ∨ F.out q = 2 ∨ F.out q = 3 := by omega
  rcases this with z | z | z | z <;> (rw [z] at e; simp only at e; split at e <;> first | cases e | skip)
  all_goals
    injection e with e
    have e1 := congrArg Qs.d e
    have e2 := congrArg Qs.a e
    simp [rv] at e1 e2
    try omega
end Fr
/-! ## lines -/
section
variable {Q : Type} {nx : Q → Option Q}
theorem Wk.next {first : Q} : ∀ {q : Q} {l : List Q}, Wk nx first q l → ∀ {i : Nat} {x y : Q}, l[i]? = some x → l[i + 1]? = some y → nx x = some y := by
  intro q l h
  induction h with
  | stop h =>
    intro i x y _ h2
    simp at h2
  | @go q r l e ne h ih =>
    intro i x y h1 h2
    cases i with
    | zero =>
      obtain ⟨t, rfl⟩ := h.head
      simp at h1 h2
      rw [← h1, ← h2]; exact e
    | succ i => exact ih (by simpa using h1) (by simpa using h2)
theorem Wk.last {first : Q} : ∀ {q : Q} {l : List Q}, Wk nx first q l → ∃ x, l.getLast? = some x ∧ (nx x = none ∨ nx x = some first) := by
  intro q l h
  induction h with
  | @stop q h => exact ⟨q, rfl, h⟩
  | @go q r l e ne h ih =>
    obtain ⟨x, h1, h2⟩ := ih
    refine ⟨x, ?_, h2⟩
    obtain ⟨t, rfl⟩ := h.head
    rw [List.getLast?_cons_cons]; exact h1
/-- a list that is linked, without repetition -/
theorem wk_of {first : Q} : ∀ (l : List Q) (q : Q), (∀ i x y, (q :: l)[i]? = some x → (q :: l)[i + 1]? = some y → nx x = some y) → (∀ y ∈ l, y ≠ first) → (∀ x, (q :: l).getLast? = some x → nx x = none ∨ nx x = some first) → Wk nx first q (q :: l)
  | [], q, _, _, h3 => .stop (h3 q rfl)
  | r :: l, q, h1, h2, h3 => by
    refine .go (h1 0 q r rfl rfl) (h2 r List.mem_cons_self) (wk_of l r (fun i x y hx hy => h1 (i + 1) x y (by simpa using hx) (by simpa using hy)) (fun y hy => h2 y (List.mem_cons_of_mem _ hy)) fun x hx => h3 x ?_)
    rw [List.getLast?_cons_cons]; exact hx
end
namespace Fr
variable {F : Fr}
def code (F : Fr) (q : Qs) : Nat := (q.d * F.w + q.a) * 4 + q.s
theorem code_lt {q : Qs} (h : F.V q) : F.code q < F.h * F.w * 4 := by
  obtain ⟨h1, h2, h3⟩ := h
  have : (q.d + 1) * F.w ≤ F.h * F.w := Nat.mul_le_mul_right _ h1
  rw [Nat.add_mul, Nat.one_mul] at this
  unfold code
  omega
theorem code_inj {p q : Qs} (hp : F.V p) (hq : F.V q) (e : F.code p = F.code q) : p = q := by
  obtain ⟨d, a, s⟩ := p
  obtain ⟨d', a', s'⟩ := q
  obtain ⟨h1, h2, h3⟩ := hp
  obtain ⟨h1', h2', h3'⟩ := hq
  unfold code at e
  simp only at *
  have e1 : s = s' := by omega
  have e2 : d * F.w + a = d' * F.w + a' := by omega
  have e3 : (d * F.w + a) / F.w = d := by rw [Nat.mul_comm, Nat.mul_add_div (by omega), Nat.div_eq_of_lt h2]; omega
  have e4 : (d' * F.w + a') / F.w = d' := by rw [Nat.mul_comm, Nat.mul_add_div (by omega), Nat.div_eq_of_lt h2']; omega
  have e5 : d = d' := by rw [← e3, ← e4, e2]
  subst e5
  have : a = a' := by omega
  subst this e1
  rfl
open Classical in
noncomputable def nx' (F : Fr) (x : Qs) : Option Qs := if F.V x then F.nx x else none
theorem line_ex {q : Qs} (h : F.V q) : ∃ l, Ln F.nx q l ∧ l.Nodup ∧ (∀ x ∈ l, F.V x) ∧ l.length ≤ F.h * F.w * 4 := by
  have hp : 0 < F.h * F.w := Nat.mul_pos (by have := h.1; omega) (by have := h.2.1; omega)
  -- the map is one to one where it is asked
  have key := @wk_ex Qs F.nx' _ (fun {a b r} h1 h2 => by
      unfold nx' at h1 h2
      split at h1
      · split at h2
        · exact nx_inj (by assumption) (by assumption) h1 h2
        · cases h2
      · cases h1) F.V (fun {a r} ha e => by
      unfold nx' at e
      rw [if_pos ha] at e
      exact ha.nx e) F.code (F.h * F.w * 4) (fun _ h => code_lt h) (fun _ _ h1 h2 e => code_inj h1 h2 e)
  obtain ⟨l, w, nd, hv, hl⟩ := key q _ q [] rfl .one (by simp) (by simpa using h)
  refine ⟨l, ?_, by simpa using nd, hv, by simpa using hl⟩
  have : ∀ {x l}, Wk F.nx' q x l → (∀ y ∈ l, F.V y) → Wk F.nx q x l := by
    intro x l w
    induction w with
    | stop h1 =>
      intro hv
      have := hv _ List.mem_cons_self
      unfold nx' at h1
      rw [if_pos this] at h1
      exact .stop h1
    | go e ne w ih =>
      intro hv
      have := hv _ List.mem_cons_self
      unfold nx' at e
      rw [if_pos this] at e
      exact .go e ne (ih fun y hy => hv y (List.mem_cons_of_mem _ hy))
  exact this w hv
open Classical in
noncomputable def line (F : Fr) (q : Qs) : List Qs := if h : F.V q then choose (line_ex h) else []
theorem line_ln {q : Qs} (h : F.V q) : Ln F.nx q (F.line q) := by unfold line; rw [dif_pos h]; exact (Classical.choose_spec (line_ex h)).1
theorem line_nd {q : Qs} (h : F.V q) : (F.line q).Nodup := by unfold line; rw [dif_pos h]; exact (Classical.choose_spec (line_ex h)).2.1
theorem line_V {q : Qs} (h : F.V q) : ∀ x ∈ F.line q, F.V x := by unfold line; rw [dif_pos h]; exact (Classical.choose_spec (line_ex h)).2.2.1
theorem line_len {q : Qs} (h : F.V q) : (F.line q).length ≤ F.h * F.w * 4 := by unfold line; rw [dif_pos h]; exact (Classical.choose_spec (line_ex h)).2.2.2
theorem line_eq {q : Qs} {l : List Qs} (h : F.V q) (w : Ln F.nx q l) : F.line q = l := (line_ln h).uniq w
/-- no walk turns back -/
theorem no_rv {first q : Qs} {l : List Qs} (w : Wk F.nx first q l) (hv : ∀ x ∈ l, F.V x) : ∀ (n i j : Nat) (x y : Qs), j = i + n → l[i]? = some x → l[j]? = some y → y ≠ F.rv x := by
  intro n
  induction n using Nat.strongRecOn with
  | ind n ih =>
    intro i j x y e hx hy z
    have vx := hv x (List.mem_of_getElem? hx)
    have vy := hv y (List.mem_of_getElem? hy)
    match n, ih, e with
    | 0, _, e =>
      rw [e, Nat.add_zero, hx] at hy
      exact rv_ne vx (by rw [← z]; exact (Option.some.inj hy).symm)
    | 1, _, e =>
      rw [e] at hy
      have := w.next hx hy
      exact nx_ne_rv vx (by rw [this, z])
    | n + 2, ih, e =>
      have hj : j < l.length := (List.getElem?_eq_some_iff.mp hy).1
      have h1 : l[i + 1]? = some (l[i + 1]'(by omega)) := by simp
      have h2 : l[j - 1]? = some (l[j - 1]'(by omega)) := by simp
      have e1 := w.next hx h1
      have e2 := w.next h2 (by rw [show j - 1 + 1 = j by omega]; exact hy)
      have v1 := hv _ (List.mem_of_getElem? h1)
      have v2 := hv _ (List.mem_of_getElem? h2)
      have e3 := nx_rv vx e1
      rw [← z] at e3
      have := nx_inj v2 v1.rv e2 e3
      exact ih n (by omega) (i + 1) (j - 1) _ _ (by omega) h1 h2 this
theorem line_no_rv {q : Qs} (h : F.V q) {x y : Qs} (hx : x ∈ F.line q) (hy : y ∈ F.line q) : y ≠ F.rv x := by
  obtain ⟨i, hi⟩ := List.getElem?_of_mem hx
  obtain ⟨j, hj⟩ := List.getElem?_of_mem hy
  have hv := line_V h
  rcases Nat.le_total i j with z | z
  · exact no_rv (line_ln h) hv (j - i) i j x y (by omega) hi hj
  · intro e
    exact no_rv (line_ln h) hv (i - j) j i y x (by omega) hj hi (by rw [e, rv_rv (hv x hx)])
/-! ## arcs -/
def arc (F : Fr) (q : Qs) : Nat × Nat × Nat := (q.d, q.a, F.mark q)
theorem mark_rv {q : Qs} (h : F.V q) : F.mark (F.rv q) = F.mark q := by
  unfold mark
  rw [out_rv h]
  show (if F.out q = 0 ∨ q.s = 0 then 0 else 1) = _
  congr 1
  exact propext Or.comm
theorem arc_rv {q : Qs} (h : F.V q) : F.arc (F.rv q) = F.arc q := by
  unfold arc
  rw [mark_rv h]; rfl
theorem mark_sides (b : Bool) {s t : Nat} (hs : s < 4) (ht : t < 4) (e : (if s = 0 ∨ oS b s = 0 then 0 else 1) = (if t = 0 ∨ oS b t = 0 then 0 else 1)) : s = t ∨ s = oS b t := by
  have : s = 0 ∨ s = 1 ∨ s = 2 ∨ s = 3 := by omega
  have : t = 0 ∨ t = 1 ∨ t = 2 ∨ t = 3 := by omega
  rcases ‹s = 0 ∨ _› with rfl | rfl | rfl | rfl <;> rcases ‹t = 0 ∨ _› with rfl | rfl | rfl | rfl <;> cases b <;> simp_all [oS]
theorem arc_eq {p q : Qs} (hp : F.V p) (hq : F.V q) (e : F.arc p = F.arc q) : p = q ∨ p = F.rv q := by
  obtain ⟨d, a, s⟩ := p
  obtain ⟨d', a', t⟩ := q
  unfold arc at e
  simp only [Prod.mk.injEq] at e
  obtain ⟨rfl, rfl, e⟩ := e
  rcases mark_sides (F.c d a) hp.2.2 hq.2.2 e with h | h
  · exact .inl (by simp only at h; rw [h])
  · exact .inr (by unfold rv; rw [show F.out ⟨d, a, t⟩ = oS (F.c d a) t from rfl, ← h])
theorem line_arcs {q : Qs} (h : F.V q) : ((F.line q).map F.arc).Nodup :=
  nodup_map_on _ _ (fun x hx y hy e => by
    rcases arc_eq (line_V h x hx) (line_V h y hy) e with z | z
    · exact z
    · exact absurd z (line_no_rv h hy hx)) (line_nd h)
/-- the state that begins an arc: above, or below -/
def beg (d a m : Nat) : Qs := ⟨d, a, 2 * m⟩
theorem arc_beg (d a : Nat) {m : Nat} (hm : m < 2) : F.arc (beg d a m) = (d, a, m) := by
  have : m = 0 ∨ m = 1 := by omega
  rcases this with rfl | rfl
  · rfl
  · unfold arc mark Fr.out beg
    cases F.c d a <;> rfl
/-! ## ends -/
def pl (F : Fr) (e : Nat) : Qs :=
  if e < F.w then ⟨0, e, 0⟩ else if e < F.w + F.h then ⟨e - F.w, F.w - 1, 1⟩ else if e < 2 * F.w + F.h then ⟨F.h - 1, 2 * F.w + F.h - 1 - e, 2⟩ else ⟨2 * F.w + 2 * F.h - 1 - e, 0, 3⟩
def ea (F : Fr) (d a s : Nat) : Nat := if s = 0 then a else if s = 1 then F.w + d else if s = 2 then 2 * F.w + F.h - 1 - a else 2 * F.w + 2 * F.h - 1 - d
def ends (F : Fr) : Nat := 2 * (F.h + F.w)
/-- its side is at the rim -/
def rim (F : Fr) (q : Qs) : Prop := ovr F.h F.w q.d q.a q.s = none
theorem pl_V {e : Nat} (hh : 0 < F.h) (hw : 0 < F.w) (he : e < F.ends) : F.V (F.pl e) := by
  unfold ends at he
  unfold pl V
  repeat' split
  all_goals simp only
  all_goals omega
theorem pl_rim {e : Nat} (hh : 0 < F.h) (hw : 0 < F.w) (he : e < F.ends) : F.rim (F.pl e) := by
  unfold ends at he
  unfold pl rim
  repeat' split
  all_goals (unfold ovr; simp only)
  all_goals (rw [if_neg (by omega)])
theorem ea_pl {e : Nat} (he : e < F.ends) : F.ea (F.pl e).d (F.pl e).a (F.pl e).s = e := by
  unfold ends at he
  unfold pl
  repeat' split
  all_goals (unfold ea; simp)
  all_goals omega
theorem pl_ea {q : Qs} (hv : F.V q) (hr : F.rim q) : F.pl (F.ea q.d q.a q.s) = q ∧ F.ea q.d q.a q.s < F.ends := by
  obtain ⟨d, a, s⟩ := q
  obtain ⟨h1, h2, h3⟩ := hv
  simp only at h1 h2 h3
  unfold rim ovr at hr
  simp only at hr
  have : s = 0 ∨ s = 1 ∨ s = 2 ∨ s = 3 := by omega
  rcases this with rfl | rfl | rfl | rfl
  · simp only at hr
    split at hr
    · cases hr
    · unfold ea pl ends
      simp only [if_pos]
      rw [if_pos h2]
      exact ⟨by congr 1; omega, by omega⟩
  · simp only at hr
    split at hr
    · cases hr
    · have e : F.ea d a 1 = F.w + d := rfl
      rw [e]
      unfold pl ends
      rw [if_neg (by omega), if_pos (by omega)]
      exact ⟨by congr 1 <;> omega, by omega⟩
  · simp only at hr
    split at hr
    · cases hr
    · have e : F.ea d a 2 = 2 * F.w + F.h - 1 - a := rfl
      rw [e]
      unfold pl ends
      rw [if_neg (by omega), if_neg (by omega), if_pos (by omega)]
      exact ⟨by congr 1 <;> omega, by omega⟩
  · simp only at hr
    split at hr
    · cases hr
    · have e : F.ea d a 3 = 2 * F.w + 2 * F.h - 1 - d := rfl
      rw [e]
      unfold pl ends
      rw [if_neg (by omega), if_neg (by omega), if_neg (by omega)]
      exact ⟨by congr 1 <;> omega, by omega⟩
/-! ## ways -/
theorem nx_rim {p q : Qs} (hp : F.V p) (hr : F.rim q) : F.nx p ≠ some q := fun e => by
  have := ovr_back hp.1 hp.2.1 hp.out e
  rw [show ovr F.h F.w q.d q.a q.s = none from hr] at this
  cases this
theorem way_last {q : Qs} (h : F.V q) (hr : F.rim q) {x : Qs} (hx : (F.line q).getLast? = some x) : F.nx x = none := by
  obtain ⟨y, h1, h2⟩ := (line_ln h).last
  rw [hx] at h1
  cases h1
  rcases h2 with z | z
  · exact z
  · exact absurd z (nx_rim (line_V h x (List.mem_of_getLast? hx)) hr)
theorem rim_rv {x : Qs} (h : F.nx x = none) : F.rim (F.rv x) := h
/-- a way, from its other end -/
theorem way_rev {q x : Qs} (h : F.V q) (hr : F.rim q) (hx : (F.line q).getLast? = some x) : F.line (F.rv x) = (F.line q).reverse.map F.rv := by
  have vx := line_V h x (List.mem_of_getLast? hx)
  have hn := way_last h hr hx
  obtain ⟨t, e⟩ := (line_ln h).head
  have nd := line_nd h
  have hv := line_V h
  obtain ⟨m, em⟩ : ∃ m, (F.line q).reverse = x :: m := by
    obtain ⟨l', e'⟩ := List.getLast?_eq_some_iff.mp hx
    rw [e']; exact ⟨l'.reverse, by simp⟩
  have hvr : ∀ y ∈ (F.line q).reverse, F.V y := fun y hy => hv y (List.mem_reverse.mp hy)
  have ndr : ((F.line q).reverse.map F.rv).Nodup := nodup_map_on _ _ (fun a ha b hb e => rv_inj (hvr a ha) (hvr b hb) e) (nodup_rev nd)
  refine line_eq vx.rv ?_
  rw [em, List.map_cons] at ndr ⊢
  refine wk_of _ _ (fun i y z hy hz => ?_) (fun y hy e2 => ?_) fun y hy => .inl ?_
  · rw [← List.map_cons, ← em, List.getElem?_map] at hy hz
    obtain ⟨y', hy', rfl⟩ := Option.map_eq_some_iff.mp hy
    obtain ⟨z', hz', rfl⟩ := Option.map_eq_some_iff.mp hz
    have l2 := (List.getElem?_eq_some_iff.mp hz').1
    rw [List.length_reverse] at l2
    rw [List.getElem?_reverse (by omega)] at hy' hz'
    have e3 := (line_ln h).next hz' (by rw [show (F.line q).length - 1 - (i + 1) + 1 = (F.line q).length - 1 - i by omega]; exact hy')
    exact nx_rv (hv z' (List.mem_of_getElem? hz')) e3
  · exact (List.nodup_cons.mp ndr).1 (e2 ▸ hy)
  · rw [← List.map_cons, ← em, e] at hy
    simp at hy
    subst hy
    show ovr F.h F.w q.d q.a (F.out (F.rv q)) = none
    rw [out_rv h]; exact hr
/-! ## rings -/
/-- a ring, the other way round -/
theorem ring_rev {q x : Qs} (h : F.V q) (hx : (F.line q).getLast? = some x) (hn : F.nx x = some q) : ∃ t, F.line q = q :: t ∧ F.line (F.rv q) = F.rv q :: t.reverse.map F.rv := by
  obtain ⟨t, e⟩ := (line_ln h).head
  have nd := line_nd h
  have hv := line_V h
  refine ⟨t, e, line_eq h.rv ?_⟩
  have hvt : ∀ y ∈ t, F.V y := fun y hy => hv y (by rw [e]; exact List.mem_cons_of_mem _ hy)
  rw [e] at nd hx
  have nd2 := List.nodup_cons.mp nd
  have vx : F.V x := hv x (by rw [e]; exact List.mem_of_getLast? hx)
  refine wk_of _ _ (fun i y z hy hz => ?_) (fun y hy e2 => ?_) fun y hy => .inr ?_
  · cases i with
    | zero =>
      simp only [List.getElem?_cons_zero, Option.some.injEq] at hy
      subst hy
      rw [List.getElem?_cons_succ, List.getElem?_map] at hz
      obtain ⟨z', hz', rfl⟩ := Option.map_eq_some_iff.mp hz
      have l2 := (List.getElem?_eq_some_iff.mp hz').1
      rw [List.length_reverse] at l2
      rw [List.getElem?_reverse (by omega)] at hz'
      have : z' = x := by
        rw [List.getLast?_eq_getElem?] at hx
        simp only [List.length_cons, Nat.add_sub_cancel] at hx
        rw [show t.length - 1 - 0 = t.length - 1 by omega] at hz'
        rw [show t.length = (t.length - 1) + 1 by omega, List.getElem?_cons_succ, hz'] at hx
        exact Option.some.inj hx
      subst this
      exact nx_rv vx hn
    | succ i =>
      rw [List.getElem?_cons_succ, List.getElem?_map] at hy hz
      obtain ⟨y', hy', rfl⟩ := Option.map_eq_some_iff.mp hy
      obtain ⟨z', hz', rfl⟩ := Option.map_eq_some_iff.mp hz
      have l2 := (List.getElem?_eq_some_iff.mp hz').1
      rw [List.length_reverse] at l2
      rw [List.getElem?_reverse (by omega)] at hy' hz'
      have ln := line_ln h
      rw [e] at ln
      have e3 := ln.next (i := t.length - 1 - (i + 1) + 1) (x := z') (y := y') (by rw [List.getElem?_cons_succ]; exact hz') (by rw [List.getElem?_cons_succ, show t.length - 1 - (i + 1) + 1 = t.length - 1 - i by omega]; exact hy')
      exact nx_rv (hvt z' (List.mem_of_getElem? hz')) e3
  · obtain ⟨y', hy', e3⟩ := List.mem_map.mp hy
    have := rv_inj (hvt y' (List.mem_reverse.mp hy')) h (by rw [e3, e2])
    exact nd2.1 (this ▸ List.mem_reverse.mp hy')
  · cases t with
    | nil =>
      simp at hy
      subst hy
      simp at hx
      subst hx
      exact nx_rv h hn
    | cons r t =>
      have : y = F.rv r := by
        rw [List.reverse_cons, List.map_append, ← List.cons_append, List.map_singleton, List.getLast?_concat] at hy
        exact (Option.some.inj hy).symm
      subst this
      have e4 : F.nx q = some r := by
        have ln := line_ln h
        rw [e] at ln
        exact ln.next (i := 0) rfl rfl
      exact nx_rv h e4
/-- the arcs of a ring are those of its other way round -/
theorem ring_arcs {q x : Qs} (h : F.V q) (hx : (F.line q).getLast? = some x) (hn : F.nx x = some q) (z : Nat × Nat × Nat) : z ∈ (F.line (F.rv q)).map F.arc ↔ z ∈ (F.line q).map F.arc := by
  obtain ⟨t, e1, e2⟩ := ring_rev h hx hn
  have hv := line_V h
  rw [e1] at hv
  rw [e1, e2]
  simp only [List.map_cons, List.mem_cons, List.map_map, List.mem_map, List.mem_reverse, Function.comp]
  rw [arc_rv h]
  constructor
  · rintro (h1 | ⟨y, hy, rfl⟩)
    · exact .inl h1
    · exact .inr ⟨y, hy, (arc_rv (hv y (List.mem_cons_of_mem _ hy))).symm⟩
  · rintro (h1 | ⟨y, hy, rfl⟩)
    · exact .inl h1
    · exact .inr ⟨y, hy, arc_rv (hv y (List.mem_cons_of_mem _ hy))⟩
end Fr
end AF

namespace AF
/-! # middles of sides, in plain Lean -/
def sideM (d a s : Nat) : Bool × Nat × Nat := match s with
  | 0 => (false, d, a)
  | 1 => (true, d, a + 1)
  | 2 => (false, d + 1, a)
  | _ => (true, d, a)
theorem sideM_ovr {h w d a o : Nat} (ho : o < 4) {r : Qs} (e : ovr h w d a o = some r) : sideM r.d r.a r.s = sideM d a o := by
  have : o = 0 ∨ o = 1 ∨ o = 2 ∨ o = 3 := by omega
  rcases this with rfl | rfl | rfl | rfl <;> (unfold ovr at e; simp only at e; split at e <;> cases e; simp [sideM]; try omega)
theorem sideM_inj {h w d a s d' a' s' : Nat} (hd : d < h) (ha : a < w) (hs : s < 4) (hd' : d' < h) (ha' : a' < w) (hs' : s' < 4) (e : sideM d a s = sideM d' a' s') : (d = d' ∧ a = a' ∧ s = s') ∨ ovr h w d a s = some ⟨d', a', s'⟩ := by
  have : s = 0 ∨ s = 1 ∨ s = 2 ∨ s = 3 := by omega
  have : s' = 0 ∨ s' = 1 ∨ s' = 2 ∨ s' = 3 := by omega
  rcases ‹s = 0 ∨ _› with rfl | rfl | rfl | rfl <;> rcases ‹s' = 0 ∨ _› with rfl | rfl | rfl | rfl <;> simp only [sideM, Prod.mk.injEq, Bool.false_eq_true, Bool.true_eq_false, false_and, reduceCtorEq] at e
  all_goals first
    | (left; exact ⟨by omega, by omega, rfl⟩)
    | (right
       unfold ovr
       simp only
       obtain ⟨_, e1, e2⟩ := e
       subst_vars
       first
         | (rw [if_pos (by omega)]; done)
         | (rw [if_pos (by omega)]; congr 2 <;> omega)
         | simp_all)
namespace Fr
variable {F : Fr}
def side (q : Qs) : Bool × Nat × Nat := sideM q.d q.a q.s
def allA (F : Fr) : List (Nat × Nat × Nat) := (List.range F.h).flatMap fun d => (List.range F.w).flatMap fun a => [(d, a, 0), (d, a, 1)]
/-- the two middles of an arc, as the law tells them -/
def mids (F : Fr) (x : Nat × Nat × Nat) : (Bool × Nat × Nat) × (Bool × Nat × Nat) :=
  if F.c x.1 x.2.1 then (if x.2.2 = 0 then (sideM x.1 x.2.1 0, sideM x.1 x.2.1 1) else (sideM x.1 x.2.1 2, sideM x.1 x.2.1 3))
  else (if x.2.2 = 0 then (sideM x.1 x.2.1 0, sideM x.1 x.2.1 3) else (sideM x.1 x.2.1 1, sideM x.1 x.2.1 2))
def onA (F : Fr) (x : Nat × Nat × Nat) (m : Bool × Nat × Nat) : Prop := (F.mids x).1 = m ∨ (F.mids x).2 = m
instance (x m) : Decidable (F.onA x m) := by unfold onA; infer_instance
theorem mem_allA {x : Nat × Nat × Nat} : x ∈ F.allA ↔ x.1 < F.h ∧ x.2.1 < F.w ∧ x.2.2 < 2 := by
  obtain ⟨d, a, m⟩ := x
  unfold allA
  rw [List.mem_flatMap]
  constructor
  · rintro ⟨d', hd, h⟩
    obtain ⟨a', ha, h⟩ := List.mem_flatMap.mp h
    rw [List.mem_range] at hd ha
    simp at h
    rcases h with ⟨rfl, rfl, rfl⟩ | ⟨rfl, rfl, rfl⟩
    · exact ⟨hd, ha, Nat.lt_of_sub_pos (by simp)⟩
    · exact ⟨hd, ha, Nat.lt_of_sub_pos (by simp)⟩
  · rintro ⟨h1, h2, h3⟩
    refine ⟨d, List.mem_range.mpr h1, List.mem_flatMap.mpr ⟨a, List.mem_range.mpr h2, ?_⟩⟩
    have : m = 0 ∨ m = 1 := by simp only at h3; omega
    rcases this with rfl | rfl <;> simp
theorem allA_lt : F.allA.Pairwise (fun x y => x.1 < y.1 ∨ (x.1 = y.1 ∧ (x.2.1 < y.2.1 ∨ (x.2.1 = y.2.1 ∧ x.2.2 < y.2.2)))) := by
  unfold allA
  rw [List.pairwise_flatMap]
  refine ⟨fun d _ => ?_, List.pairwise_lt_range.imp fun {d d'} h x hx y hy => ?_⟩
  · rw [List.pairwise_flatMap]
    refine ⟨fun a _ => by simp, List.pairwise_lt_range.imp fun {a a'} h x hx y hy => ?_⟩
    simp at hx hy
    rcases hx with rfl | rfl <;> rcases hy with rfl | rfl <;> simp [h]
  · simp at hx hy
    obtain ⟨a, _, hx⟩ := hx
    obtain ⟨a', _, hy⟩ := hy
    left
    rcases hx with rfl | rfl <;> rcases hy with rfl | rfl <;> exact h
theorem allA_nd : F.allA.Nodup := allA_lt.imp fun {x y} h z => by subst z; omega
theorem arc_mem {q : Qs} (h : F.V q) : F.arc q ∈ F.allA := by
  rw [mem_allA]
  refine ⟨h.1, h.2.1, ?_⟩
  unfold arc mark
  simp only
  split <;> omega
/-- the middles of a state's arc -/
theorem mids_arc {q : Qs} (h : F.V q) : (F.mids (F.arc q) = (side q, side (F.rv q))) ∨ (F.mids (F.arc q) = (side (F.rv q), side q)) := by
  obtain ⟨d, a, s⟩ := q
  have hs := h.2.2
  simp only at hs
  have : s = 0 ∨ s = 1 ∨ s = 2 ∨ s = 3 := by omega
  unfold mids arc mark side rv out
  simp only
  cases F.c d a <;> rcases this with rfl | rfl | rfl | rfl <;> simp [oS]
theorem onA_arc {q : Qs} (h : F.V q) (m : Bool × Nat × Nat) : F.onA (F.arc q) m ↔ side q = m ∨ side (F.rv q) = m := by
  unfold onA
  rcases mids_arc h with e | e <;> rw [e]
  exact Or.comm
theorem arc_beg_mem {x : Nat × Nat × Nat} (h : x ∈ F.allA) : F.V (beg x.1 x.2.1 x.2.2) ∧ F.arc (beg x.1 x.2.1 x.2.2) = x := by
  obtain ⟨h1, h2, h3⟩ := mem_allA.mp h
  exact ⟨⟨h1, h2, by unfold beg; simp only; omega⟩, arc_beg _ _ h3⟩
/-- who has a middle: a state -/
theorem onA_iff {x : Nat × Nat × Nat} (hx : x ∈ F.allA) (m : Bool × Nat × Nat) : F.onA x m ↔ ∃ p, F.V p ∧ F.arc p = x ∧ side p = m := by
  obtain ⟨v, e⟩ := arc_beg_mem hx
  constructor
  · intro h
    rw [← e, onA_arc v] at h
    rcases h with h | h
    · exact ⟨_, v, e, h⟩
    · exact ⟨_, v.rv, by rw [arc_rv v, e], h⟩
  · rintro ⟨p, vp, rfl, rfl⟩
    rw [onA_arc vp]
    exact .inl rfl
theorem side_inj {p q : Qs} (hp : F.V p) (hq : F.V q) (e : side p = side q) : p = q ∨ ovr F.h F.w p.d p.a p.s = some q := by
  rcases sideM_inj hp.1 hp.2.1 hp.2.2 hq.1 hq.2.1 hq.2.2 e with ⟨h1, h2, h3⟩ | h
  · obtain ⟨d, a, s⟩ := p
    obtain ⟨d', a', s'⟩ := q
    simp only at h1 h2 h3
    subst h1 h2 h3
    exact .inl rfl
  · exact .inr h
theorem filter_one {α : Type} [DecidableEq α] {l : List α} (nd : l.Nodup) (P : α → Bool) {x : α} (hx : x ∈ l) (h : ∀ y ∈ l, P y = true ↔ y = x) : l.filter P = [x] := by
  induction l with
  | nil => cases hx
  | cons y l ih =>
    have nd := List.nodup_cons.mp nd
    rcases List.mem_cons.mp hx with rfl | hx
    · rw [List.filter_cons_of_pos ((h x List.mem_cons_self).mpr rfl)]
      congr 1
      rw [List.filter_eq_nil_iff]
      intro z hz e
      have := (h z (List.mem_cons_of_mem _ hz)).mp e
      subst this
      exact nd.1 hz
    · have : ¬ P y = true := fun e => by
        have := (h y List.mem_cons_self).mp e
        subst this
        exact nd.1 hx
      rw [List.filter_cons_of_neg this]
      exact ih nd.2 hx fun z hz => h z (List.mem_cons_of_mem _ hz)
/-- the arcs at a middle -/
def touch (F : Fr) (m : Bool × Nat × Nat) : List (Nat × Nat × Nat) := F.allA.filter fun x => decide (F.onA x m)
theorem arc_ne {p q : Qs} (hp : F.V p) (hq : F.V q) (h : F.nx p = some q) : F.arc q ≠ F.arc p := fun e => by
  rcases arc_eq hq hp e with z | z
  · subst z
    have ho := hp.out
    unfold nx ovr at h
    have : F.out q = 0 ∨ F.out q = 1 ∨ F.out q = 2 ∨ F.out q = 3 := by omega
    rcases this with z | z | z | z <;> (rw [z] at h; simp only at h; split at h <;> first | cases h | skip)
    all_goals
      injection h with h
      have e1 := congrArg Qs.d h
      have e2 := congrArg Qs.a h
      simp at e1 e2
      try omega
  · subst z; exact nx_ne_rv hp h
/-- the arcs at the far middle of an arc, but it -/
theorem touch_next {q : Qs} (h : F.V q) : (F.touch (side (F.rv q))).filter (fun x => !decide (x = F.arc q)) = match F.nx q with
    | some r => [F.arc r]
    | none => [] := by
  have key : ∀ x ∈ F.allA, (F.onA x (side (F.rv q)) ∧ x ≠ F.arc q) ↔ ∃ r, F.nx q = some r ∧ x = F.arc r := by
    intro x hx
    rw [onA_iff hx]
    constructor
    · rintro ⟨⟨p, vp, rfl, e⟩, ne⟩
      rcases side_inj h.rv vp e.symm with z | z
      · subst z; exact absurd (arc_rv h) ne
      · exact ⟨p, z, rfl⟩
    · rintro ⟨r, e, rfl⟩
      have vr := h.nx e
      refine ⟨⟨r, vr, rfl, ?_⟩, arc_ne h vr e⟩
      exact sideM_ovr h.out e
  unfold touch
  rw [List.filter_filter]
  cases e : F.nx q with
  | none =>
    rw [List.filter_eq_nil_iff]
    intro x hx z
    have z : x ≠ F.arc q ∧ F.onA x (side (F.rv q)) := by simpa using z
    obtain ⟨r, e2, _⟩ := (key x hx).mp ⟨z.2, z.1⟩
    rw [e] at e2; cases e2
  | some r =>
    have vr := h.nx e
    refine filter_one allA_nd _ (arc_mem vr) fun x hx => ?_
    have := key x hx
    rw [e] at this
    constructor
    · intro z
      have z : x ≠ F.arc q ∧ F.onA x (side (F.rv q)) := by simpa using z
      obtain ⟨r', e2, e3⟩ := this.mp ⟨z.2, z.1⟩
      cases e2
      exact e3
    · rintro rfl
      obtain ⟨a, b⟩ := this.mpr ⟨r, rfl, rfl⟩
      simpa using ⟨b, a⟩
/-- the one arc at the rim -/
theorem touch_rim {q : Qs} (h : F.V q) (hr : F.rim q) : F.touch (side q) = [F.arc q] := by
  refine filter_one allA_nd _ (arc_mem h) fun x hx => ?_
  rw [decide_eq_true_eq, onA_iff hx]
  constructor
  · rintro ⟨p, vp, rfl, e⟩
    rcases side_inj h vp e.symm with z | z
    · rw [z]
    · rw [show ovr F.h F.w q.d q.a q.s = none from hr] at z; cases z
  · rintro rfl
    exact ⟨q, h, rfl, rfl⟩
/-- middles all around -/
def rimL (F : Fr) : List (Bool × Nat × Nat) := (List.range F.w).map (fun k => (false, 0, k)) ++ (List.range F.h).map (fun k => (true, k, F.w)) ++ (List.range F.w).map (fun k => (false, F.h, F.w - 1 - k)) ++ (List.range F.h).map (fun k => (true, F.h - 1 - k, 0))
theorem rimL_len : F.rimL.length = F.ends := by
  unfold rimL ends
  simp
  omega
theorem rimL_get (hh : 0 < F.h) (hw : 0 < F.w) {e : Nat} (he : e < F.ends) : F.rimL[e]? = some (side (F.pl e)) := by
  unfold ends at he
  unfold rimL pl side
  by_cases z1 : e < F.w
  · rw [List.append_assoc, List.append_assoc, List.getElem?_append_left (by simpa using z1)]
    simp [z1, sideM]
  · by_cases z2 : e < F.w + F.h
    · rw [List.append_assoc, List.append_assoc, List.getElem?_append_right (by simp; omega), List.getElem?_append_left (by simp; omega)]
      simp [z1, z2, sideM]
      rw [List.getElem?_range (by omega)]
      simp
      omega
    · by_cases z3 : e < 2 * F.w + F.h
      · rw [List.append_assoc, List.getElem?_append_right (by simp; omega), List.getElem?_append_left (by simp; omega)]
        simp [z1, z2, z3, sideM]
        rw [List.getElem?_range (by omega)]
        simp
        omega
      · rw [List.getElem?_append_right (by simp; omega)]
        simp [z1, z2, z3, sideM]
        rw [List.getElem?_range (by omega)]
        simp
        omega
theorem rimL_eq (hh : 0 < F.h) (hw : 0 < F.w) : F.rimL = (List.range F.ends).map fun e => side (F.pl e) := by
  apply List.ext_getElem?
  intro e
  by_cases he : e < F.ends
  · rw [rimL_get hh hw he]; simp [he]
  · rw [List.getElem?_eq_none (by rw [rimL_len]; omega), List.getElem?_eq_none (by simp; omega)]
theorem pl_inj (hh : 0 < F.h) (hw : 0 < F.w) {e e' : Nat} (he : e < F.ends) (he' : e' < F.ends) (h : side (F.pl e) = side (F.pl e')) : e = e' := by
  rcases side_inj (pl_V hh hw he) (pl_V hh hw he') h with z | z
  · rw [← ea_pl he, ← ea_pl he', z]
  · have := pl_rim hh hw he
    rw [show ovr F.h F.w (F.pl e).d (F.pl e).a (F.pl e).s = none from this] at z; cases z
theorem rimL_idx (hh : 0 < F.h) (hw : 0 < F.w) {e : Nat} (he : e < F.ends) : (F.rimL.findIdx fun x => decide (x = side (F.pl e))) = e := by
  have l := rimL_len (F := F)
  have g : F.rimL[e]'(by omega) = side (F.pl e) := by
    have := rimL_get hh hw he
    rw [List.getElem?_eq_getElem (by omega)] at this
    exact Option.some.inj this
  rw [List.findIdx_eq (by omega)]
  refine ⟨by simp [g], fun j hj => ?_⟩
  have g2 : F.rimL[j]'(by omega) = side (F.pl j) := by
    have := rimL_get hh hw (e := j) (by omega)
    rw [List.getElem?_eq_getElem (by omega)] at this
    exact Option.some.inj this
  rw [g2]
  simp
  intro z
  have := pl_inj hh hw (by omega) he z
  omega
end Fr
end AF

set_option maxHeartbeats 400000
namespace AF
open PySem L2
open PyProof.Rows hiding St
/-! # the plain side: calls, loops, typed data -/
theorem callP1 {cf : CallF} {id : Nat} {a d : PyData} (h : cf id [.im a] = .ok d [.un]) (ρ : En) : callR cf id [.d a] ρ = .ok d ρ := by
  unfold callR
  simp [refsA, argsS, h, giveBack]
theorem callP2 {cf : CallF} {id : Nat} {a b d : PyData} (h : cf id [.im a, .im b] = .ok d [.un, .un]) (ρ : En) : callR cf id [.d a, .d b] ρ = .ok d ρ := by
  unfold callR
  simp [refsA, argsS, h, giveBack]
theorem callP3 {cf : CallF} {id : Nat} {a b c d : PyData} (h : cf id [.im a, .im b, .im c] = .ok d [.un, .un, .un]) (ρ : En) : callR cf id [.d a, .d b, .d c] ρ = .ok d ρ := by
  unfold callR
  simp [refsA, argsS, h, giveBack]
theorem callP4 {cf : CallF} {id : Nat} {a b c e d : PyData} (h : cf id [.im a, .im b, .im c, .im e] = .ok d [.un, .un, .un, .un]) (ρ : En) : callR cf id [.d a, .d b, .d c, .d e] ρ = .ok d ρ := by
  unfold callR
  simp [refsA, argsS, h, giveBack]
/-- the draw of a floor -/
theorem callFl {ns : List Int} {t t' : Nat} {b : Int} {cf : CallF} {d : PyData} (h : cf 17 [.sc ns, .rf (.l (zs t)), .im (.int b)] = .ok d [.un, .rf (.l (zs t')), .un]) {ρ : En} {i j : Nat} (hi : getS ρ i = some ns) (hj : getM ρ j = some (.l (zs t))) :
    callR cf 17 [.s i, .r j, .d (.int b)] ρ = (R.of (putM ρ j (.l (zs t'))) ρ).bind fun ρ' _ => .ok d ρ' := by
  unfold callR
  simp [refsA, argsS, hi, hj, h, giveBack]
@[simp] theorem ite_bool (p : Prop) [Decidable p] (ρ : En) : (if p then R.ok (PyData.bool true) ρ else R.ok (PyData.bool false) ρ) = R.ok (PyData.bool (decide p)) ρ := by split <;> simp_all
@[simp] theorem item_l (xs : List PyData) (i : Int) : itemD (.list xs) (.int i) = atI xs i := rfl
@[simp] theorem item_t (xs : List PyData) (i : Int) : itemD (.tuple xs) (.int i) = atI xs i := rfl
@[simp] theorem at0 {α : Type} (x : α) (xs : List α) : atI (x :: xs) 0 = some x := atI_0 x xs
@[simp] theorem at1 {α : Type} (x y : α) (xs : List α) : atI (x :: y :: xs) 1 = some y := atI_1 x y xs
@[simp] theorem at2 {α : Type} (x y z : α) (xs : List α) : atI (x :: y :: z :: xs) 2 = some z := by
  have := atI_nat (x :: y :: z :: xs) 2 (by simp)
  simpa using this
@[simp] theorem at3 {α : Type} (x y z u : α) (xs : List α) : atI (x :: y :: z :: u :: xs) 3 = some u := by
  have := atI_nat (x :: y :: z :: u :: xs) 3 (by simp)
  simpa using this
@[simp] theorem row_i (d : List (List Int)) (i : Int) : rowD d (.int i) = atI d i := rfl
@[simp] theorem col_i (r : List Int) (i : Int) : colD r (.int i) = (atI r i).map .int := rfl
@[simp] theorem isd_i (i : Int) : isD .int (.int i) = some true := rfl
@[simp] theorem isd_bi (i : Int) : isD .bool (.int i) = some false := rfl
@[simp] theorem isd_tt (xs : List PyData) : isD .tuple (.tuple xs) = some true := rfl
@[simp] theorem isd_ll (xs : List PyData) : isD .list (.list xs) = some true := rfl
@[simp] theorem isd_ss (x : Str) : isD .str (.str x) = some true := rfl
@[simp] theorem len_t (xs : List PyData) : biD .len (.tuple xs) = some (.int xs.length) := rfl
@[simp] theorem len_l (xs : List PyData) : biD .len (.list xs) = some (.int xs.length) := rfl
@[simp] theorem cmp_eqi (i j : Int) : cmpD .Eq (.int i) (.int j) = some (decide (i = j)) := eq_ii i j
@[simp] theorem cmp_nei (i j : Int) : cmpD .NotEq (.int i) (.int j) = some (!decide (i = j)) := ne_ii i j
@[simp] theorem cmp_eqc (b : Bool) : cmpD .Eq (chD b) (.str (Str.ofString "a")) = some (!b) := eq_ch b
/-! ## loops -/
theorem for_pre {β : Type} {f : PyData → En → R Fl} {w : En → En} (d : β → PyData) (emb : List β → En) : ∀ (xs pre : List β), (∀ p x q, pre ++ xs = p ++ x :: q → pre.length ≤ p.length → turnR (f (d x) (emb p)) w = .ok .nx (emb (p ++ [x]))) →
    forLoop f w (xs.map d) (emb pre) = .ok .nx (emb (pre ++ xs))
  | [], pre, _ => by simp [forLoop]
  | x :: xs, pre, h => by
    have e := h pre x xs rfl (Nat.le_refl _)
    rw [List.map_cons, for_turn e, for_pre d emb xs (pre ++ [x]) (fun p y q e2 hl => h p y q (by rw [← e2]; simp) (by simp at hl; omega))]
    simp
/-- a loop: emb tells the slots behind each part of the items -/
theorem for_all {β : Type} {f : PyData → En → R Fl} {w : En → En} (d : β → PyData) (emb : List β → En) (xs : List β) (h : ∀ p x q, xs = p ++ x :: q → turnR (f (d x) (emb p)) w = .ok .nx (emb (p ++ [x]))) :
    forLoop f w (xs.map d) (emb []) = .ok .nx (emb xs) := by
  have := for_pre d emb xs [] (fun p x q e _ => h p x q e)
  simpa using this
/-- a loop that carries a state -/
theorem for_st {β σ : Type} {f : PyData → En → R Fl} {w : En → En} (d : β → PyData) (emb : σ → En) (g : σ → β → σ) : ∀ (xs : List β) (s : σ), (∀ x ∈ xs, ∀ s, turnR (f (d x) (emb s)) w = .ok .nx (emb (g s x))) → forLoop f w (xs.map d) (emb s) = .ok .nx (emb (xs.foldl g s))
  | [], s, _ => rfl
  | x :: xs, s, h => by
    rw [List.map_cons, for_turn (h x List.mem_cons_self s), for_st d emb g xs _ fun y hy => h y (List.mem_cons_of_mem _ hy)]
    rfl
/-- a loop over an invariant: some state follows -/
theorem for_inv {β : Type} {f : PyData → En → R Fl} {w : En → En} (d : β → PyData) (I : List β → En → Prop) : ∀ (xs pre : List β) (ρ : En), I pre ρ → (∀ p x q ρ, pre ++ xs = p ++ x :: q → I p ρ → ∃ ρ', turnR (f (d x) ρ) w = .ok .nx ρ' ∧ I (p ++ [x]) ρ') →
    ∃ ρ', forLoop f w (xs.map d) ρ = .ok .nx ρ' ∧ I (pre ++ xs) ρ'
  | [], pre, ρ, i, _ => ⟨ρ, rfl, by simpa using i⟩
  | x :: xs, pre, ρ, i, h => by
    obtain ⟨ρ1, e, i1⟩ := h pre x xs ρ rfl i
    obtain ⟨ρ2, e2, i2⟩ := for_inv d I xs (pre ++ [x]) ρ1 i1 (fun p y q ρ e2 => h p y q ρ (by rw [← e2]; simp))
    exact ⟨ρ2, by rw [List.map_cons, for_turn e, e2], by simpa using i2⟩
theorem lc_fm {β : Type} {f : PyData → En → R (Option PyData)} {w : En → En} {ρ0 : En} (d : β → PyData) (g : β → Option PyData) : ∀ (xs : List β), (∀ x ∈ xs, turnR (f (d x) ρ0) w = .ok (g x) ρ0) → ∀ acc, lcLoop f w (xs.map d) acc ρ0 = .ok (acc ++ xs.filterMap g) ρ0
  | [], _, acc => by simp [lcLoop]
  | x :: xs, h, acc => by
    have e := h x List.mem_cons_self
    rw [List.map_cons, lcLoop]
    unfold turnR at e
    cases e1 : f (d x) ρ0 with
    | st => rw [e1] at e; cases e
    | ex _ _ _ => rw [e1] at e; cases e
    | ok o ρx =>
      rw [e1, R.bind_ok] at e
      injection e with e2 e3
      rw [R.bind_ok, e2, e3, lc_fm d g xs (fun y hy => h y (List.mem_cons_of_mem _ hy))]
      cases hg : g x <;> simp [hg]
theorem lc_mp {β : Type} {f : PyData → En → R (Option PyData)} {w : En → En} {ρ0 : En} (d : β → PyData) (g : β → PyData) (xs : List β) (h : ∀ x ∈ xs, turnR (f (d x) ρ0) w = .ok (some (g x)) ρ0) : lcLoop f w (xs.map d) [] ρ0 = .ok (xs.map g) ρ0 := by
  rw [lc_fm d (fun x => some (g x)) xs h, List.nil_append]
  congr 1
  induction xs with
  | nil => rfl
  | cons x xs ih => simp [List.filterMap_cons]
theorem lc_ft {β : Type} {f : PyData → En → R (Option PyData)} {w : En → En} {ρ0 : En} (d : β → PyData) (g : β → PyData) (p : β → Bool) (xs : List β) (h : ∀ x ∈ xs, turnR (f (d x) ρ0) w = .ok (if p x then some (g x) else none) ρ0) : lcLoop f w (xs.map d) [] ρ0 = .ok ((xs.filter p).map g) ρ0 := by
  rw [lc_fm d (fun x => if p x then some (g x) else none) xs h, List.nil_append]
  congr 1
  clear h
  induction xs with
  | nil => rfl
  | cons x xs ih => cases hp : p x <;> simp [List.filterMap_cons, List.filter_cons, hp, ih]
/-- a comprehension -/
theorem ev_lcx (cf : CallF) (e : E) (t : Tg) (it : It) (cs : Es) (own : List Nat) (ρ : En) {xs ys : List PyData} (hi : evIt cf it ρ = .ok xs ρ) (hc : cleanAt ρ own = true) (hl : lcLoop (lcF cf e t cs) (forget own) xs [] (forget own ρ) = .ok ys (forget own ρ)) (hr : restore own ρ (forget own ρ) = ρ) :
    ev cf (.lc e t it cs own) ρ = .ok (.list ys) ρ := by
  rw [ev_lc, hi, R.bind_ok, if_pos hc, hl]
  simp [hr]
theorem lcF_t (cf : CallF) (e : E) (t : Tg) (cs : Es) (x : PyData) (ρ2 : En) : lcF cf e t cs x ρ2 = (R.of (bindT t x ρ2) ρ2).bind fun ρ3 _ => (evAnd cf cs ρ3).bind fun b ρ4 => tstD b ((ev cf e ρ4).bind fun y ρ5 => .ok (some y) ρ5) (.ok none ρ4) := (rfl)
/-! ## typed data -/
structure EncOk {α : Type} (e : α → PyData) (k : Nat) : Prop where
  sh : ∀ a n, k ≤ n → AF.sh n (e a) = true
  eq : ∀ a b, PyData.eqv (e a) (e b) = true ↔ a = b
section
variable {α β : Type} {e : α → PyData} {k : Nat}
theorem EncOk.eqd [DecidableEq α] (h : EncOk e k) (a b : α) : PyData.eqv (e a) (e b) = decide (a = b) := by
  rw [Bool.eq_iff_iff, h.eq]
  simp
theorem EncOk.cmpEq [DecidableEq α] (h : EncOk e k) (hk : k ≤ 8) (a b : α) : cmpD .Eq (e a) (e b) = some (decide (a = b)) := by
  show (if AF.sh 8 (e a) && AF.sh 8 (e b) then some (PyData.eqv (e a) (e b)) else none) = _
  rw [h.sh a 8 hk, h.sh b 8 hk, h.eqd]; rfl
theorem EncOk.cmpNe [DecidableEq α] (h : EncOk e k) (hk : k ≤ 8) (a b : α) : cmpD .NotEq (e a) (e b) = some (!decide (a = b)) := by
  show (if AF.sh 8 (e a) && AF.sh 8 (e b) then some (!PyData.eqv (e a) (e b)) else none) = _
  rw [h.sh a 8 hk, h.sh b 8 hk, h.eqd]; rfl
theorem EncOk.all (h : EncOk e k) {n : Nat} (hk : k ≤ n) (l : List α) : (l.map e).all (AF.sh n) = true := by
  rw [List.all_eq_true]
  intro x hx
  obtain ⟨a, _, rfl⟩ := List.mem_map.mp hx
  exact h.sh a n hk
theorem EncOk.any [DecidableEq α] (h : EncOk e k) (l : List α) (a : α) : (l.map e).any (fun y => PyData.eqv y (e a)) = decide (a ∈ l) := by
  induction l with
  | nil => simp
  | cons x l ih =>
    rw [List.map_cons, List.any_cons, ih, h.eqd]
    by_cases z : x = a
    · simp [z]
    · have : ¬ a = x := fun y => z y.symm
      simp [z, this]
theorem EncOk.inL [DecidableEq α] (h : EncOk e k) (hk : k ≤ 7) (a : α) (l : List α) : inD (e a) (.list (l.map e)) = some (decide (a ∈ l)) := by
  show (if AF.sh 7 (e a) && (l.map e).all (AF.sh 7) then some ((l.map e).any fun y => PyData.eqv y (e a)) else none) = _
  rw [h.sh a 7 hk, h.all hk, h.any]; rfl
theorem EncOk.inT [DecidableEq α] (h : EncOk e k) (hk : k ≤ 7) (a : α) (l : List α) : inD (e a) (.tuple (l.map e)) = some (decide (a ∈ l)) := by
  show (if AF.sh 7 (e a) && (l.map e).all (AF.sh 7) then some ((l.map e).any fun y => PyData.eqv y (e a)) else none) = _
  rw [h.sh a 7 hk, h.all hk, h.any]; rfl
theorem EncOk.idx [DecidableEq α] (h : EncOk e k) (hk : k ≤ 7) (a : α) (l : List α) (ha : a ∈ l) : indexD (.list (l.map e)) (e a) = some (.int ((l.findIdx fun x => decide (x = a) : Nat) : Int)) := by
  show (if AF.sh 7 (e a) && (l.map e).all (AF.sh 7) && (l.map e).any (fun x => PyData.eqv x (e a)) then some (PyData.int (((l.map e).findIdx fun x => PyData.eqv x (e a) : Nat) : Int)) else none) = _
  rw [h.sh a 7 hk, h.all hk, h.any, decide_eq_true ha, List.findIdx_map]
  have : ((fun x => PyData.eqv x (e a)) ∘ e) = fun x => decide (x = a) := by funext x; simp [h.eqd]
  rw [this]; rfl
theorem eqvAll_map (h : EncOk e k) : ∀ (l m : List α), PyData.eqvAll (l.map e) (m.map e) = true ↔ l = m
  | [], [] => by simp [PyData.eqvAll]
  | [], _ :: _ => by simp [PyData.eqvAll]
  | _ :: _, [] => by simp [PyData.eqvAll]
  | x :: l, y :: m => by
    rw [List.map_cons, List.map_cons, PyData.eqvAll, Bool.and_eq_true, h.eq, eqvAll_map h l m]
    simp
theorem EncOk.lst (h : EncOk e k) : EncOk (fun l : List α => PyData.list (l.map e)) (k + 1) := by
  refine ⟨fun l n hn => ?_, fun l m => ?_⟩
  · obtain ⟨n, rfl⟩ : ∃ m, n = m + 1 := ⟨n - 1, by omega⟩
    rw [AF.sh]
    exact h.all (by omega) l
  · rw [PyData.eqv]; exact eqvAll_map h l m
theorem EncOk.tupl (h : EncOk e k) : EncOk (fun l : List α => PyData.tuple (l.map e)) (k + 1) := by
  refine ⟨fun l n hn => ?_, fun l m => ?_⟩
  · obtain ⟨n, rfl⟩ : ∃ m, n = m + 1 := ⟨n - 1, by omega⟩
    rw [AF.sh]
    exact h.all (by omega) l
  · rw [PyData.eqv]; exact eqvAll_map h l m
theorem EncOk.tup2 {e2 : β → PyData} (h : EncOk e k) (h2 : EncOk e2 k) : EncOk (fun p : α × β => PyData.tuple [e p.1, e2 p.2]) (k + 1) := by
  refine ⟨fun p n hn => ?_, fun p q => ?_⟩
  · obtain ⟨n, rfl⟩ : ∃ m, n = m + 1 := ⟨n - 1, by omega⟩
    rw [AF.sh]
    simp [h.sh p.1 n (by omega), h2.sh p.2 n (by omega)]
  · simp [PyData.eqv, PyData.eqvAll, h.eq, h2.eq, Prod.ext_iff]
theorem EncOk.up (h : EncOk e k) {m : Nat} (hm : k ≤ m) : EncOk e m := ⟨fun a n hn => h.sh a n (by omega), h.eq⟩
end
theorem enc_int : EncOk PyData.int 0 := ⟨fun a n _ => by cases n <;> rfl, fun a b => by rw [evq_ii]; simp⟩
theorem enc_nat : EncOk (fun n : Nat => PyData.int (n : Int)) 0 := ⟨fun a n _ => by cases n <;> rfl, fun a b => by rw [evq_ii]; simp; omega⟩
theorem enc_bool : EncOk PyData.bool 0 := ⟨fun a n _ => by cases n <;> rfl, fun a b => by simp [PyData.eqv]⟩
theorem enc_sq : EncOk sqD 1 := by
  have := enc_nat.tup2 enc_nat
  exact ⟨this.sh, this.eq⟩
def arcD (x : Nat × Nat × Nat) : PyData := .tuple [.int x.1, .int x.2.1, .int x.2.2]
theorem enc_arc : EncOk arcD 1 := by
  refine ⟨fun p n hn => ?_, fun p q => ?_⟩
  · obtain ⟨n, rfl⟩ : ∃ m, n = m + 1 := ⟨n - 1, by omega⟩
    show ([PyData.int p.1, .int p.2.1, .int p.2.2]).all (AF.sh n) = true
    simp [enc_int.sh]
  · show PyData.eqv (.tuple [.int p.1, .int p.2.1, .int p.2.2]) (.tuple [.int q.1, .int q.2.1, .int q.2.2]) = true ↔ _
    simp [PyData.eqv, PyData.eqvAll, evq_ii, Prod.ext_iff]
    omega
/-- a middle of a side: h (false) or v (true) -/
def hvD (b : Bool) : PyData := .str (Str.ofString (if b then "v" else "h"))
def midD (x : Bool × Nat × Nat) : PyData := .tuple [hvD x.1, .int x.2.1, .int x.2.2]
theorem enc_hv : EncOk hvD 0 := ⟨fun a n _ => by cases a <;> cases n <;> (show PyData.strOk _ = true; decide +kernel), fun a b => by cases a <;> cases b <;> decide +kernel⟩
theorem enc_mid : EncOk midD 1 := by
  refine ⟨fun p n hn => ?_, fun p q => ?_⟩
  · obtain ⟨n, rfl⟩ : ∃ m, n = m + 1 := ⟨n - 1, by omega⟩
    show ([hvD p.1, .int p.2.1, .int p.2.2]).all (AF.sh n) = true
    simp [enc_int.sh, enc_hv.sh]
  · show PyData.eqv (.tuple [hvD p.1, .int p.2.1, .int p.2.2]) (.tuple [hvD q.1, .int q.2.1, .int q.2.2]) = true ↔ _
    simp [PyData.eqv, PyData.eqvAll, evq_ii, enc_hv.eq, Prod.ext_iff]
    omega
/-! ## typed dicts -/
section
variable {α β : Type} [DecidableEq α] {e : α → PyData} {k : Nat} {f : β → PyData}
def lk (kvs : List (α × β)) (a : α) : Option β := (kvs.find? fun p => decide (p.1 = a)).map (·.2)
def pt (kvs : List (α × β)) (a : α) (v : β) : List (α × β) := if kvs.any (fun p => decide (p.1 = a)) then kvs.map (fun p => if p.1 = a then (p.1, v) else p) else kvs ++ [(a, v)]
def dicE (e : α → PyData) (f : β → PyData) (kvs : List (α × β)) : List (PyData × PyData) := kvs.map fun p => (e p.1, f p.2)
theorem lookD_enc (h : EncOk e k) (kvs : List (α × β)) (a : α) : lookD (dicE e f kvs) (e a) = (lk kvs a).map f := by
  unfold lookD lk dicE
  rw [List.find?_map]
  have : ((fun p : PyData × PyData => PyData.eqv p.1 (e a)) ∘ fun p : α × β => (e p.1, f p.2)) = fun p => decide (p.1 = a) := by funext p; simp [h.eqd]
  rw [this]
  cases kvs.find? fun p => decide (p.1 = a) <;> rfl
theorem putD_enc (h : EncOk e k) (kvs : List (α × β)) (a : α) (v : β) : putD (dicE e f kvs) (e a) (f v) = dicE e f (pt kvs a v) := by
  unfold putD pt dicE
  rw [List.any_map]
  have : ((fun p : PyData × PyData => PyData.eqv p.1 (e a)) ∘ fun p : α × β => (e p.1, f p.2)) = fun p => decide (p.1 = a) := by funext p; simp [h.eqd]
  rw [this]
  split
  · rw [List.map_map, List.map_map]
    apply List.map_congr_left
    intro p _
    simp only [Function.comp, h.eqd]
    by_cases z : p.1 = a <;> simp [z]
  · simp
theorem dicE_len (kvs : List (α × β)) : (dicE e f kvs).length = kvs.length := by unfold dicE; simp
theorem dicE_nil : dicE e f ([] : List (α × β)) = [] := rfl
theorem lk_pt (kvs : List (α × β)) (a b : α) (v : β) : lk (pt kvs a v) b = if b = a then some v else lk kvs b := by
  unfold lk pt
  split
  · rename_i h
    rw [List.find?_map]
    by_cases z : b = a
    · subst z
      rw [if_pos rfl]
      have : ((fun p : α × β => decide (p.1 = b)) ∘ fun p => if p.1 = b then (p.1, v) else p) = fun p => decide (p.1 = b) := by funext p; simp only [Function.comp]; split <;> simp_all
      rw [this]
      cases hf : kvs.find? fun p => decide (p.1 = b) with
      | none =>
        rw [List.find?_eq_none] at hf
        rw [List.any_eq_true] at h
        obtain ⟨x, hx, e⟩ := h
        exact absurd e (hf x hx)
      | some p =>
        have := List.find?_some hf
        simp at this
        simp [this]
    · rw [if_neg z]
      have : ((fun p : α × β => decide (p.1 = b)) ∘ fun p => if p.1 = a then (p.1, v) else p) = fun p => decide (p.1 = b) := by funext p; simp only [Function.comp]; split <;> simp_all
      rw [this]
      cases hf : kvs.find? fun p => decide (p.1 = b) with
      | none => rfl
      | some p =>
        have := List.find?_some hf
        simp at this
        have h2 : ¬ p.1 = a := by rw [this]; exact z
        simp [h2]
  · rename_i h
    rw [List.find?_append]
    by_cases z : b = a
    · subst z
      have : (kvs.find? fun p => decide (p.1 = b)) = none := by
        rw [List.find?_eq_none]
        intro x hx e
        exact h (List.any_eq_true.mpr ⟨x, hx, e⟩)
      rw [this]
      simp
    · have z2 : ¬ a = b := fun y => z y.symm
      cases hf : kvs.find? fun p => decide (p.1 = b) <;> simp [z, z2]
theorem pt_len (kvs : List (α × β)) (a : α) (v : β) : (pt kvs a v).length ≤ kvs.length + 1 := by
  unfold pt
  split <;> simp
theorem pt_keys (kvs : List (α × β)) (a : α) (v : β) : (pt kvs a v).map (·.1) = if a ∈ kvs.map (·.1) then kvs.map (·.1) else kvs.map (·.1) ++ [a] := by
  unfold pt
  by_cases h : a ∈ kvs.map (·.1)
  · have : kvs.any (fun p => decide (p.1 = a)) = true := by
      obtain ⟨p, hp, e⟩ := List.mem_map.mp h
      exact List.any_eq_true.mpr ⟨p, hp, by simp [e]⟩
    rw [if_pos this, if_pos h, List.map_map]
    apply List.map_congr_left
    intro p _
    simp only [Function.comp]
    split <;> rfl
  · have : ¬ (kvs.any (fun p => decide (p.1 = a)) = true) := fun z => by
      obtain ⟨p, hp, e⟩ := List.any_eq_true.mp z
      simp at e
      exact h (List.mem_map.mpr ⟨p, hp, e⟩)
    rw [if_neg this, if_neg h, List.map_append]
    rfl
theorem lk_isSome (kvs : List (α × β)) (a : α) : (lk kvs a).isSome = decide (a ∈ kvs.map (·.1)) := by
  unfold lk
  rw [Option.isSome_map, Bool.eq_iff_iff, List.find?_isSome]
  simp
end
/-! ## sorting -/
theorem sort_enc {α : Type} {e : α → PyData} {lt : α → α → Prop} (hlt : ∀ a b, PySem.W.dataLt (e a) (e b) = true ↔ lt a b) (tr : ∀ a b c, lt a b → lt b c → lt a c) (ir : ∀ a, ¬ lt a a) (tot : ∀ a b, lt a b ∨ a = b ∨ lt b a) (l m : List α) (hp : l.Perm m) (hs : m.Pairwise lt) :
    sortD (l.map e) = m.map e := by
  have le1 : ∀ a b, leD (e a) (e b) = true ↔ ¬ lt b a := fun a b => by
    unfold leD
    rw [Bool.not_eq_true', ← hlt b a]
    simp
  have hm : (m.map e).Pairwise (fun a b => leD a b = true) := by
    rw [List.pairwise_map]
    exact hs.imp fun {a b} h => (le1 a b).mpr fun z => ir a (tr a b a h z)
  have step : (l.map e).mergeSort leD = (l.mergeSort (fun a b => leD (e a) (e b))).map e := by
    rw [List.map_mergeSort]
    intro a _ b _
    rfl
  unfold sortD
  rw [step]
  congr 1
  have asym : ∀ a b, lt a b → ¬ lt b a := fun a b h z => ir a (tr a b a h z)
  have s1 := List.pairwise_mergeSort (le := fun a b => leD (e a) (e b)) (fun a b c h1 h2 => by
    rw [le1] at h1 h2 ⊢
    intro z
    rcases tot b c with y | y | y
    · exact h1 (tr b c a y z)
    · subst y; exact h1 z
    · exact h2 y) (fun a b => by
    rw [Bool.or_eq_true, le1, le1]
    rcases tot a b with y | y | y
    · exact .inl (asym a b y)
    · subst y; exact .inl (ir a)
    · exact .inr (asym b a y)) l
  refine List.Perm.eq_of_pairwise (le := fun a b => leD (e a) (e b) = true) (fun a b _ _ h1 h2 => ?_) s1 ?_ ((List.mergeSort_perm l _).trans hp)
  · rw [le1] at h1 h2
    rcases tot a b with y | y | y
    · exact absurd y h2
    · exact y
    · exact absurd y h1
  · exact hs.imp fun {a b} h => (le1 a b).mpr (asym a b h)
end AF

set_option maxHeartbeats 400000
namespace AF
open PySem L2
open PyProof.Rows hiding St
/-! # the program's lines -/
def fr (rows : List (List Bool)) : Fr := ⟨rows.length, wd rows, cellB rows⟩
structure Flo (rows : List (List Bool)) : Prop where
  h1 : 1 ≤ rows.length
  h2 : rows.length ≤ 6
  w1 : 1 ≤ wd rows
  w2 : wd rows ≤ 6
  hr : ∀ r ∈ rows, r.length = wd rows
theorem Flo.of {b : Nat} (hb : b ≤ 6) {rows : List (List Bool)} (h : FlOk b rows) : Flo rows := by
  obtain ⟨h1, h2, w, w1, w2, hr⟩ := h
  have e : wd rows = w := by
    cases rows with
    | nil => simp at h1
    | cons r rest => exact hr r List.mem_cons_self
  exact ⟨h1, by omega, by omega, by omega, fun r hr' => by rw [e]; exact hr r hr'⟩
theorem Flo.ok {rows : List (List Bool)} (f : Flo rows) : FlOk 6 rows := ⟨f.h1, f.h2, wd rows, f.w1, f.w2, f.hr⟩
theorem Flo.sh {rows : List (List Bool)} (f : Flo rows) : Sh rows.length (wd rows) rows := ⟨rfl, f.hr⟩
def sqI (d a : Int) : PyData := .tuple [.int d, .int a]
theorem sq_I (s : Nat × Nat) : sqD s = sqI s.1 s.2 := rfl
section
variable {rows : List (List Bool)} (f : Flo rows)
include f
theorem fl_len : biD .len (flD rows) = some (.int (rows.length : Int)) := by
  show some (PyData.int ((rows.map fun r => PyData.str (rowS r)).length : Int)) = _
  simp
theorem fl_row0 : ∃ r, itemD (flD rows) (.int 0) = some (.str (rowS r)) ∧ r.length = wd rows := by
  have := f.h1
  cases rows with
  | nil => simp at this
  | cons r rest => exact ⟨r, by simp [flD, itemD, atI_0], rfl⟩
theorem row_len (r : List Bool) (h : r.length = wd rows) : biD .len (.str (rowS r)) = some (.int (wd rows : Int)) := by
  have := f.w2
  show (if (rowS r).length ≤ lim then some (PyData.int ((rowS r).length : Int)) else none) = _
  rw [rowS_len, if_pos (by unfold lim; omega), h]
theorem sp_whole2 (n : Nat) (i lo hi : Int) : evF tbl (n + 1) 0 [.im (.int i), .im (.int lo), .im (.int hi)] = .ok (.bool (decide (lo ≤ i) && decide (i ≤ hi))) [.un, .un, .un] := by
  rw [un0]
  by_cases h : lo ≤ i <;> simp [df0, h]
theorem sp_is_sq (n : Nat) (d a : Int) : evF tbl (n + 3) 5 [.im (flD rows), .im (sqI d a)] = .ok (.bool (decide (0 ≤ d ∧ d < rows.length ∧ 0 ≤ a ∧ a < wd rows))) [.un, .un] := by
  obtain ⟨r, e1, e2⟩ := fl_row0 f
  have e3 := row_len f r e2
  have e4 := fl_len f
  have w1 := callP3 (sp_whole2 f n d 0 ((rows.length : Int) - 1))
  have w2 := callP3 (sp_whole2 f n a 0 ((wd rows : Int) - 1))
  have p : evF tbl (n + 2) 4 [.im (sqI d a), .im (.int rows.length), .im (.int (wd rows))] = .ok (.bool (decide (0 ≤ d ∧ d < rows.length ∧ 0 ≤ a ∧ a < wd rows))) [.un, .un, .un] := by
    rw [un4]
    simp [df4, sqI, w1]
    by_cases h : 0 ≤ d ∧ d ≤ (rows.length : Int) - 1
    · have h2 : d < rows.length := by omega
      simp [h, h2, w2]
      rw [Bool.eq_iff_iff]
      simp
      omega
    · rw [if_neg (by simpa using h)]
      simp
      omega
  have c := callP3 p
  rw [un5]
  simp [df5, e1, e3, e4, c]
theorem sp_at2 (n : Nat) {d a : Nat} (hd : d < rows.length) (ha : a < wd rows) : evF tbl (n + 1) 7 [.im (flD rows), .im (sqD (d, a))] = .ok (chD (cellB rows d a)) [.un, .un] := by
  have hl : rows[d].length = wd rows := f.hr _ (List.getElem_mem hd)
  have := f.w2
  have e := sp_at n hd (a := a) (by omega) (by omega)
  rw [e]
  unfold cellB
  simp [hd, hl, ha]
theorem sp_ends (n : Nat) : evF tbl (n + 1) 25 [.im (flD rows)] = .ok (.int ((fr rows).ends : Int)) [.un] := by
  obtain ⟨r, e1, e2⟩ := fl_row0 f
  have e3 := row_len f r e2
  have e4 := fl_len f
  rw [un25]
  simp [df25, e1, e3, e4, small, Fr.ends, fr]
theorem sp_need_end (n : Nat) {e : Nat} (he : e < (fr rows).ends) : evF tbl (n + 2) 26 [.im (flD rows), .im (.int e)] = .ok .none [.un, .un] := by
  have c := callP1 (sp_ends f n)
  have w := callP3 (sp_whole2 f n (e : Int) 0 (((fr rows).ends : Int) - 1))
  have e2 : (decide ((0 : Int) ≤ e) && decide ((e : Int) ≤ ((fr rows).ends : Int) - 1)) = true := by
    simp; omega
  rw [un26]
  simp only [Int.natCast_nonneg, decide_true, Bool.true_and, decide_eq_true_eq] at e2
  simp [df26, c, w, e2]
end
theorem sp_out (n : Nat) (b : Bool) {s : Nat} (hs : s < 4) : evF tbl (n + 1) 29 [.im (chD b), .im (.int s)] = .ok (.int (oS b s : Nat)) [.un, .un] := by
  have : s = 0 ∨ s = 1 ∨ s = 2 ∨ s = 3 := by omega
  rw [un29]
  simp only [df29]
  rcases this with rfl | rfl | rfl | rfl <;> cases b <;> simp [oS, small]
theorem sp_mark (n : Nat) (b : Bool) {s : Nat} (hs : s < 4) : evF tbl (n + 2) 30 [.im (chD b), .im (.int s)] = .ok (.int ((if s = 0 ∨ oS b s = 0 then 0 else 1 : Nat) : Int)) [.un, .un] := by
  have c := callP2 (sp_out n b hs)
  rw [un30]
  simp only [df30]
  by_cases h : s = 0
  · simp [h]
  · have h1 : ¬ ((s : Int) = 0) := by omega
    by_cases h2 : oS b s = 0
    · simp [h, h1, c, h2]
    · have h3 : ¬ ((oS b s : Int) = 0) := by omega
      simp [h, h1, c, h2, h3]
def dyS : Nat → Int
  | 0 => -1
  | 2 => 1
  | _ => 0
def dxS : Nat → Int
  | 1 => 1
  | 0 => 0
  | 2 => 0
  | _ => -1
theorem sp_step (n : Nat) (d a : Int) {s : Nat} (hs : s < 4) : evF tbl (n + 1) 31 [.im (sqI d a), .im (.int s)] = .ok (.tuple [sqI (d + dyS s) (a + dxS s), .int ((s + 2) % 4 : Nat)]) [.un, .un] := by
  have : s = 0 ∨ s = 1 ∨ s = 2 ∨ s = 3 := by omega
  rw [un31]
  simp only [df31, sqI]
  rcases this with rfl | rfl | rfl | rfl <;> (simp [dyS, dxS] <;> try rfl)
theorem step_ovr {h w d a o : Nat} (hd : d < h) (ha : a < w) (ho : o < 4) : match ovr h w d a o with
    | some q => sqI ((d : Int) + dyS o) ((a : Int) + dxS o) = sqD (q.d, q.a) ∧ (o + 2) % 4 = q.s ∧ (0 ≤ (d : Int) + dyS o ∧ (d : Int) + dyS o < h ∧ 0 ≤ (a : Int) + dxS o ∧ (a : Int) + dxS o < w)
    | none => ¬ (0 ≤ (d : Int) + dyS o ∧ (d : Int) + dyS o < h ∧ 0 ≤ (a : Int) + dxS o ∧ (a : Int) + dxS o < w) := by
  have : o = 0 ∨ o = 1 ∨ o = 2 ∨ o = 3 := by omega
  rcases this with rfl | rfl | rfl | rfl
  · unfold ovr
    by_cases z : 0 < d
    · simp only [if_pos z, dyS, dxS, sqI, sqD]
      refine ⟨by simp; omega, trivial, by omega⟩
    · simp only [if_neg z, dyS, dxS]; omega
  · unfold ovr
    by_cases z : a + 1 < w
    · simp only [if_pos z, dyS, dxS, sqI, sqD]
      refine ⟨by simp, trivial, by omega⟩
    · simp only [if_neg z, dyS, dxS]; omega
  · unfold ovr
    by_cases z : d + 1 < h
    · simp only [if_pos z, dyS, dxS, sqI, sqD]
      refine ⟨by simp, trivial, by omega⟩
    · simp only [if_neg z, dyS, dxS]; omega
  · unfold ovr
    by_cases z : 0 < a
    · simp only [if_pos z, dyS, dxS, sqI, sqD]
      refine ⟨by simp; omega, trivial, by omega⟩
    · simp only [if_neg z, dyS, dxS]; omega
def walkB : Ss := .cons (.app 3 (.tup (.cons (.ix (.v 1) (.k (.int 0))) (.cons (.ix (.v 1) (.k (.int 1))) (.cons (.call 30 (.e (.call 7 (.e (.v 0) (.e (.v 1) .nil))) (.e (.v 2) .nil))) .nil)))))
  (.cons (.as false 5 (.call 29 (.e (.call 7 (.e (.v 0) (.e (.v 1) .nil))) (.e (.v 2) .nil)))) (.cons (.unp (.t (.cons (.n 6) (.cons (.n 7) .nil))) (.call 31 (.e (.v 1) (.e (.v 5) .nil))))
  (.cons (.ite (.or (.not (.call 5 (.e (.v 0) (.e (.v 6) .nil)))) (.cons (.cmp .Eq (.tup (.cons (.v 6) (.cons (.v 7) .nil))) (.v 4)) .nil)) (.cons (.frz 3) (.cons (.ret (.tup (.cons (.v 3) (.cons (.v 1) (.cons (.v 5) .nil))))) .nil)) .nil)
  (.cons (.par (.cons false 1 (.v 6) (.cons false 2 (.v 7) .nil))) .nil))))
theorem df32_body : df32.body = .cons (.par (.cons true 3 (.lst .nil) (.cons false 4 (.tup (.cons (.v 1) (.cons (.v 2) .nil))) .nil))) (.cons (.whl 6000 (.k (.bool true)) walkB [5, 6, 7]) .nil) := rfl
/-- a square with a side -/
def qsD (q : Qs) : PyData := .tuple [sqD (q.d, q.a), .int q.s]
theorem enc_qs : EncOk qsD 2 := by
  have h := enc_sq.tup2 (enc_nat.up (Nat.zero_le 1))
  refine ⟨fun q n hn => h.sh ((q.d, q.a), q.s) n hn, fun p q => ?_⟩
  have := h.eq ((p.d, p.a), p.s) ((q.d, q.a), q.s)
  show PyData.eqv (.tuple [sqD (p.d, p.a), .int p.s]) (.tuple [sqD (q.d, q.a), .int q.s]) = true ↔ _
  rw [this]
  obtain ⟨d, a, s⟩ := p
  obtain ⟨d', a', s'⟩ := q
  simp [and_assoc]
section
variable {rows : List (List Bool)} (f : Flo rows)
include f
/-- the end of a walk: the last square, the side out -/
def walkR (rows : List (List Bool)) (l : List Qs) (x : Qs) : PyData := .tuple [.list (l.map fun q => arcD ((fr rows).arc q)), sqD (x.d, x.a), .int ((fr rows).out x)]
theorem walk_turn (n : Nat) (first q : Qs) (acc : List (Nat × Nat × Nat)) (vq : (fr rows).V q) (hl : acc.length < 900000) :
    evSs (evF tbl (n + 3)) walkB [.im (flD rows), .im (sqD (q.d, q.a)), .im (.int q.s), .mu (.l (acc.map arcD)), .im (qsD first), .un, .un, .un] =
      match (fr rows).nx q with
      | none => .ok (.rt (.tuple [.list ((acc ++ [(fr rows).arc q]).map arcD), sqD (q.d, q.a), .int ((fr rows).out q)])) [.im (flD rows), .im (sqD (q.d, q.a)), .im (.int q.s), .im (.list ((acc ++ [(fr rows).arc q]).map arcD)), .im (qsD first), .im (.int ((fr rows).out q)), .im (sqI ((q.d : Int) + dyS ((fr rows).out q)) ((q.a : Int) + dxS ((fr rows).out q))), .im (.int (((fr rows).out q + 2) % 4 : Nat))]
      | some r => if r = first then .ok (.rt (.tuple [.list ((acc ++ [(fr rows).arc q]).map arcD), sqD (q.d, q.a), .int ((fr rows).out q)])) [.im (flD rows), .im (sqD (q.d, q.a)), .im (.int q.s), .im (.list ((acc ++ [(fr rows).arc q]).map arcD)), .im (qsD first), .im (.int ((fr rows).out q)), .im (sqD (r.d, r.a)), .im (.int r.s)]
        else .ok .nx [.im (flD rows), .im (sqD (r.d, r.a)), .im (.int r.s), .mu (.l ((acc ++ [(fr rows).arc q]).map arcD)), .im (qsD first), .im (.int ((fr rows).out q)), .im (sqD (r.d, r.a)), .im (.int r.s)] := by
  have at_ := callP2 (sp_at2 f (n + 2) vq.1 vq.2.1)
  have mk := callP2 (sp_mark (n + 1) (cellB rows q.d q.a) vq.2.2)
  have ot := callP2 (sp_out (n + 2) (cellB rows q.d q.a) vq.2.2)
  have st := callP2 (sp_step (n + 2) q.d q.a vq.out)
  have sq := callP2 (sp_is_sq f n ((q.d : Int) + dyS ((fr rows).out q)) ((q.a : Int) + dxS ((fr rows).out q)))
  have so := step_ovr vq.1 vq.2.1 vq.out
  have hl : acc.length < lim := by unfold lim; omega
  have he : (fr rows).out q = oS (cellB rows q.d q.a) q.s := rfl
  have i0 : itemD (sqD (q.d, q.a)) (.int 0) = some (.int q.d) := rfl
  have i1 : itemD (sqD (q.d, q.a)) (.int 1) = some (.int q.a) := rfl
  have eI : sqD (q.d, q.a) = sqI q.d q.a := rfl
  have ea : PyData.tuple [.int q.d, .int q.a, .int ((if q.s = 0 ∨ oS (cellB rows q.d q.a) q.s = 0 then 0 else 1 : Nat) : Int)] = arcD ((fr rows).arc q) := rfl
  rw [← he] at mk ot ea
  unfold walkB Fr.nx
  cases hn : ovr (fr rows).h (fr rows).w q.d q.a ((fr rows).out q) with
  | none =>
    rw [hn] at so
    have so2 : ¬ (0 ≤ (q.d : Int) + dyS ((fr rows).out q) ∧ (q.d : Int) + dyS ((fr rows).out q) < rows.length ∧ 0 ≤ (q.a : Int) + dxS ((fr rows).out q) ∧ (q.a : Int) + dxS ((fr rows).out q) < wd rows) := so
    rw [decide_eq_false so2] at sq
    rw [← eI] at st
    simp [i0, i1, at_, mk, ot, ea, hl, st, sq, M.toD]
  | some r =>
    rw [hn] at so
    obtain ⟨s1, s2, s3⟩ := so
    have so2 : (0 ≤ (q.d : Int) + dyS ((fr rows).out q) ∧ (q.d : Int) + dyS ((fr rows).out q) < rows.length ∧ 0 ≤ (q.a : Int) + dxS ((fr rows).out q) ∧ (q.a : Int) + dxS ((fr rows).out q) < wd rows) := s3
    rw [s1] at sq st
    rw [s2] at st
    have ef : PyData.tuple [sqD (r.d, r.a), .int r.s] = qsD r := rfl
    have ceq := enc_qs.cmpEq (by decide) r first
    rw [← ef] at ceq
    rw [decide_eq_true so2] at sq
    rw [← eI] at st
    by_cases z : r = first
    · rw [decide_eq_true z] at ceq
      simp only [if_pos z]
      simp [i0, i1, at_, mk, ot, ea, hl, st, sq, ceq, M.toD]
    · rw [decide_eq_false z] at ceq
      simp [i0, i1, at_, mk, ot, ea, hl, st, sq, ceq, z, setAll]
theorem walk_loop (n : Nat) (first : Qs) : ∀ (q : Qs) (l : List Qs), Wk (fr rows).nx first q l → (∀ x ∈ l, (fr rows).V x) → ∀ (m : Nat) (acc : List (Nat × Nat × Nat)), l.length ≤ m → acc.length + l.length ≤ 5000 → ∃ x, l.getLast? = some x ∧ ∃ ρ', outE 3 ρ' = [.un, .un, .un] ∧
    whlLoop (whT (evF tbl (n + 3)) (.k (.bool true))) (evSs (evF tbl (n + 3)) walkB) (forget [5, 6, 7]) m [.im (flD rows), .im (sqD (q.d, q.a)), .im (.int q.s), .mu (.l (acc.map arcD)), .im (qsD first), .un, .un, .un] =
      .ok (.rt (.tuple [.list ((acc ++ l.map (fr rows).arc).map arcD), sqD (x.d, x.a), .int ((fr rows).out x)])) ρ' := by
  intro q l w
  induction w with
  | @stop q h =>
    intro hv m acc hm ha
    have vq := hv q List.mem_cons_self
    obtain ⟨m, rfl⟩ : ∃ k, m = k + 1 := ⟨m - 1, by simp at hm; omega⟩
    refine ⟨q, rfl, ?_⟩
    have tn := walk_turn f n first q acc vq (by simp at ha; omega)
    rcases h with h | h
    · rw [h] at tn
      obtain ⟨ρ', t1, t2⟩ : ∃ ρ', evSs (evF tbl (n + 3)) walkB [.im (flD rows), .im (sqD (q.d, q.a)), .im (.int q.s), .mu (.l (acc.map arcD)), .im (qsD first), .un, .un, .un] = .ok (.rt (.tuple [.list ((acc ++ [(fr rows).arc q]).map arcD), sqD (q.d, q.a), .int ((fr rows).out q)])) ρ' ∧ outE 3 ρ' = [.un, .un, .un] := ⟨_, tn, rfl⟩
      refine ⟨ρ', t2, ?_⟩
      rw [whlLoop]
      simp only [whT, ev_k, R.bind_ok, asBool, R.of_some, if_true, t1]
      simp
    · rw [h] at tn
      simp only [if_true] at tn
      obtain ⟨ρ', t1, t2⟩ : ∃ ρ', evSs (evF tbl (n + 3)) walkB [.im (flD rows), .im (sqD (q.d, q.a)), .im (.int q.s), .mu (.l (acc.map arcD)), .im (qsD first), .un, .un, .un] = .ok (.rt (.tuple [.list ((acc ++ [(fr rows).arc q]).map arcD), sqD (q.d, q.a), .int ((fr rows).out q)])) ρ' ∧ outE 3 ρ' = [.un, .un, .un] := ⟨_, tn, rfl⟩
      refine ⟨ρ', t2, ?_⟩
      rw [whlLoop]
      simp only [whT, ev_k, R.bind_ok, asBool, R.of_some, if_true, t1]
      simp
  | @go q r l e ne w ih =>
    intro hv m acc hm ha
    have vq := hv q List.mem_cons_self
    obtain ⟨m, rfl⟩ : ∃ k, m = k + 1 := ⟨m - 1, by simp at hm; omega⟩
    have tn := walk_turn f n first q acc vq (by simp at ha; omega)
    rw [e] at tn
    simp only [if_neg ne] at tn
    obtain ⟨x, hx, ρ', h1, h2⟩ := ih (fun y hy => hv y (List.mem_cons_of_mem _ hy)) m (acc ++ [(fr rows).arc q]) (by simp at hm; omega) (by simp at ha ⊢; omega)
    obtain ⟨t, rfl⟩ := w.head
    refine ⟨x, by rw [List.getLast?_cons_cons]; exact hx, ρ', h1, ?_⟩
    rw [whlLoop]
    simp only [whT, ev_k, R.bind_ok, asBool, R.of_some, if_true, tn]
    rw [show forget [5, 6, 7] [.im (flD rows), .im (sqD (r.d, r.a)), .im (.int r.s), .mu (.l ((acc ++ [(fr rows).arc q]).map arcD)), .im (qsD first), .im (.int ((fr rows).out q)), .im (sqD (r.d, r.a)), .im (.int r.s)] = [.im (flD rows), .im (sqD (r.d, r.a)), .im (.int r.s), .mu (.l ((acc ++ [(fr rows).arc q]).map arcD)), .im (qsD first), .un, .un, .un] from rfl, h2]
    simp
/-- the arcs of a line -/
noncomputable def lnA (rows : List (List Bool)) (q : Qs) : List (Nat × Nat × Nat) := ((fr rows).line q).map (fr rows).arc
theorem line_small {q : Qs} (vq : (fr rows).V q) : ((fr rows).line q).length ≤ 144 := by
  have h := (Fr.line_len vq)
  have : (fr rows).h * (fr rows).w ≤ 6 * 6 := Nat.mul_le_mul f.h2 f.w2
  omega
theorem sp_walk (n : Nat) {q : Qs} (vq : (fr rows).V q) : ∃ x, ((fr rows).line q).getLast? = some x ∧ evF tbl (n + 4) 32 [.im (flD rows), .im (sqD (q.d, q.a)), .im (.int q.s)] = .ok (.tuple [.list ((lnA rows q).map arcD), sqD (x.d, x.a), .int ((fr rows).out x)]) [.un, .un, .un] := by
  have hl := line_small f vq
  obtain ⟨x, hx, ρ', h1, h2⟩ := walk_loop f n q q _ (Fr.line_ln vq) (Fr.line_V vq) 6000 [] (by omega) (by simp; omega)
  refine ⟨x, hx, ?_⟩
  rw [un32, df32_body]
  have e : PyData.tuple [sqD (q.d, q.a), .int q.s] = qsD q := rfl
  simp only [List.map_nil, List.nil_append] at h2
  simp [setAll, ownD, e, h2, h1, lnA]
theorem sp_place (n : Nat) {e : Nat} (he : e < (fr rows).ends) : evF tbl (n + 1) 27 [.im (flD rows), .im (.int e)] = .ok (.tuple [sqD (((fr rows).pl e).d, ((fr rows).pl e).a), .int ((fr rows).pl e).s]) [.un, .un] := by
  obtain ⟨r, e1, e2⟩ := fl_row0 f
  have e3 := row_len f r e2
  have e4 := fl_len f
  have h1 := f.h1
  have w1 := f.w1
  rw [un27]
  simp [df27, e1, e3, e4, setAll]
  unfold Fr.ends fr at he
  simp only at he
  unfold Fr.pl fr
  simp only
  by_cases z1 : e < wd rows
  · have : (e : Int) < wd rows := by omega
    simp [z1, sqD]
  · have y1 : ¬ ((e : Int) < wd rows) := by omega
    by_cases z2 : e < wd rows + rows.length
    · have y2 : (e : Int) < (wd rows : Int) + rows.length := by omega
      simp [z1, z2, y2, sqD]
      omega
    · have y2 : ¬ ((e : Int) < (wd rows : Int) + rows.length) := by omega
      by_cases z3 : e < 2 * wd rows + rows.length
      · have y3 : (e : Int) < 2 * (wd rows : Int) + rows.length := by omega
        simp [z1, z2, z3, y2, y3, small, sqD]
        omega
      · have y3 : ¬ ((e : Int) < 2 * (wd rows : Int) + rows.length) := by omega
        simp [z1, z2, z3, y2, y3, small, sqD]
        omega
theorem sp_end_at (n : Nat) {d a s : Nat} (hd : d < rows.length) (ha : a < wd rows) (hs : s < 4) : evF tbl (n + 1) 28 [.im (flD rows), .im (sqD (d, a)), .im (.int s)] = .ok (.int ((fr rows).ea d a s : Nat)) [.un, .un, .un] := by
  obtain ⟨r, e1, e2⟩ := fl_row0 f
  have e3 := row_len f r e2
  have e4 := fl_len f
  have i0 : itemD (sqD (d, a)) (.int 0) = some (.int d) := rfl
  have i1 : itemD (sqD (d, a)) (.int 1) = some (.int a) := rfl
  rw [un28]
  have : s = 0 ∨ s = 1 ∨ s = 2 ∨ s = 3 := by omega
  rcases this with rfl | rfl | rfl | rfl
  · simp [df28, e1, e3, e4, setAll, i0, i1, Fr.ea]
  · simp [df28, e1, e3, e4, setAll, i0, i1, Fr.ea, fr]
  · simp [df28, e1, e3, e4, setAll, i0, i1, Fr.ea, fr, small]; omega
  · simp [df28, e1, e3, e4, setAll, i0, i1, Fr.ea, fr, small]; omega
/-- the way of an end: its arcs, its other end -/
noncomputable def wayA (rows : List (List Bool)) (e : Nat) : List (Nat × Nat × Nat) := lnA rows ((fr rows).pl e)
noncomputable def lastQ (rows : List (List Bool)) (q : Qs) : Qs := (((fr rows).line q).getLast?).getD q
noncomputable def prt (rows : List (List Bool)) (e : Nat) : Nat := (fr rows).ea (lastQ rows ((fr rows).pl e)).d (lastQ rows ((fr rows).pl e)).a ((fr rows).out (lastQ rows ((fr rows).pl e)))
theorem last_of {q x : Qs} (h : ((fr rows).line q).getLast? = some x) : lastQ rows q = x := by unfold lastQ; rw [h]; rfl
theorem sp_way_of (n : Nat) {e : Nat} (he : e < (fr rows).ends) : evF tbl (n + 5) 33 [.im (flD rows), .im (.int e)] = .ok (.tuple [.list ((wayA rows e).map arcD), .int (prt rows e : Nat)]) [.un, .un] := by
  have vq : (fr rows).V ((fr rows).pl e) := Fr.pl_V (by have := f.h1; exact this) (by have := f.w1; exact this) he
  obtain ⟨x, hx, sw⟩ := sp_walk f n vq
  have vx := Fr.line_V vq x (List.mem_of_getLast? hx)
  have c1 := callP2 (sp_place f (n + 3) he)
  have c2 := callP3 sw
  have c3 := callP3 (sp_end_at f (n + 3) vx.1 vx.2.1 vx.out)
  rw [un33]
  simp [df33, c1, c2, c3, wayA, prt, last_of f hx]
theorem cl_need (n : Nat) (ρ : En) : callR (evF tbl (n + 3)) 3 [.d (flD rows)] ρ = .ok .none ρ := callP1 (sp_need n f.ok) ρ
theorem sp_partner (n : Nat) {e : Nat} (he : e < (fr rows).ends) : evF tbl (n + 6) 34 [.im (flD rows), .im (.int e)] = .ok (.int (prt rows e : Nat)) [.un, .un] := by
  have c1 := cl_need f (n + 2)
  have c2 := callP2 (sp_need_end f (n + 3) he)
  have c3 := callP2 (sp_way_of f n he)
  rw [un34]
  simp [df34, c1, c2, c3]
theorem sp_way (n : Nat) {e : Nat} (he : e < (fr rows).ends) : evF tbl (n + 6) 35 [.im (flD rows), .im (.int e)] = .ok (.list ((wayA rows e).map arcD)) [.un, .un] := by
  have c1 := cl_need f (n + 2)
  have c2 := callP2 (sp_need_end f (n + 3) he)
  have c3 := callP2 (sp_way_of f n he)
  rw [un35]
  simp [df35, c1, c2, c3]
theorem ends_small : (fr rows).ends ≤ 24 := by
  have := f.h2
  have := f.w2
  unfold Fr.ends fr
  simp only
  omega
theorem rng_nat (m : Nat) : rangeD 0 m = (List.range m).map fun i : Nat => PyData.int (i : Int) := by
  unfold rangeD
  apply List.map_congr_left
  intro i _
  simp
theorem sp_partners_of (n : Nat) : evF tbl (n + 6) 36 [.im (flD rows)] = .ok (.list ((List.range (fr rows).ends).map fun e => .int (prt rows e : Nat))) [.un] := by
  have es := ends_small f
  have c1 := callP1 (sp_ends f (n + 4))
  have lc := lc_mp (f := lcF (evF tbl (n + 5)) (.ix (.call 33 (.e (.v 0) (.e (.v 1) .nil))) (.k (.int 1))) (.n 1) .nil) (w := forget [1]) (ρ0 := [.im (flD rows), .un]) (fun i : Nat => PyData.int (i : Int)) (fun e => .int (prt rows e : Nat)) (List.range (fr rows).ends) (fun e he => by
    have c3 := callP2 (sp_way_of f n (List.mem_range.mp he))
    simp [turnR, lcF_eq, c3])
  rw [un36]
  unfold df36
  have hb : ((fr rows).ends : Int) ≤ 1000000 ∧ -1000000 ≤ ((fr rows).ends : Int) := by omega
  have lx := ev_lcx (evF tbl (n + 5)) (.ix (.call 33 (.e (.v 0) (.e (.v 1) .nil))) (.k (.int 1))) (.n 1) (.rng1 (.call 25 (.e (.v 0) .nil))) .nil [1] [.im (flD rows), .un] (xs := (List.range (fr rows).ends).map fun i : Nat => PyData.int (i : Int)) (by
    simp [c1, hb, rng_nat f]) rfl lc rfl
  simp only [evSs_cons, evS_ret, lx]
  simp
theorem sp_partners (n : Nat) : evF tbl (n + 7) 37 [.im (flD rows)] = .ok (.list ((List.range (fr rows).ends).map fun e => .int (prt rows e : Nat))) [.un] := by
  have c1 := cl_need f (n + 3)
  have c2 := callP1 (sp_partners_of f n)
  rw [un37]
  simp [df37, c1, c2]
end
end AF

set_option maxHeartbeats 400000
namespace AF
open PySem L2
open PyProof.Rows hiding St
/-! # the law's lines -/
abbrev Mid := Bool × Nat × Nat
abbrev Arc := Nat × Nat × Nat
theorem sp_sides (n : Nat) (d a : Nat) : evF tbl (n + 1) 39 [.im (.int d), .im (.int a)] = .ok (.list [midD (sideM d a 0), midD (sideM d a 1), midD (sideM d a 2), midD (sideM d a 3)]) [.un, .un] := by
  rw [un39]
  simp [df39, midD, sideM, hvD]
def midsD (p : Mid × Mid) : PyData := .tuple [midD p.1, midD p.2]
theorem enc_mids : EncOk midsD 2 := by
  have h := enc_mid.tup2 enc_mid
  exact ⟨h.sh, h.eq⟩
def arcsK (rows : List (List Bool)) (xs : List Arc) : List (Arc × (Mid × Mid)) := xs.map fun x => (x, (fr rows).mids x)
def arcsE (rows : List (List Bool)) (xs : List Arc) : List (PyData × PyData) := dicE arcD midsD (arcsK rows xs)
theorem key_arc (x : Arc) : isKey (arcD x) = true := rfl
theorem key_mid (x : Mid) : isKey (midD x) = true := rfl
theorem pt_new {α β : Type} [DecidableEq α] (kvs : List (α × β)) (a : α) (v : β) (h : a ∉ kvs.map (·.1)) : pt kvs a v = kvs ++ [(a, v)] := by
  unfold pt
  rw [if_neg]
  intro z
  obtain ⟨p, hp, e⟩ := List.any_eq_true.mp z
  simp at e
  exact h (List.mem_map.mpr ⟨p, hp, e⟩)
theorem arcs_keys (rows : List (List Bool)) (xs : List Arc) : (arcsK rows xs).map (·.1) = xs := by
  unfold arcsK
  rw [List.map_map]
  exact List.map_id xs
theorem arcs_put (rows : List (List Bool)) (xs : List Arc) (x : Arc) (h : x ∉ xs) : putD (arcsE rows xs) (arcD x) (midsD ((fr rows).mids x)) = arcsE rows (xs ++ [x]) := by
  unfold arcsE
  rw [putD_enc enc_arc, pt_new _ _ _ (by rw [arcs_keys]; exact h)]
  congr 1
  unfold arcsK
  simp
def two (s : Nat × Nat) : List Arc := [(s.1, s.2, 0), (s.1, s.2, 1)]
theorem two_mem {s : Nat × Nat} {x : Arc} : x ∈ two s ↔ (x.1, x.2.1) = s ∧ x.2.2 < 2 := by
  obtain ⟨d, a⟩ := s
  obtain ⟨d', a', m⟩ := x
  unfold two
  simp
  omega
theorem allA_eq (rows : List (List Bool)) : (fr rows).allA = (sqs rows.length (wd rows)).flatMap two := by
  unfold Fr.allA sqs two fr
  rw [List.flatMap_assoc]
  congr 1
  funext d
  rw [List.flatMap_map]
section
variable {rows : List (List Bool)} (f : Flo rows)
include f
theorem cl_squares (n : Nat) (ρ : En) : callR (evF tbl (n + 1)) 18 [.d (flD rows)] ρ = .ok (.list ((sqs rows.length (wd rows)).map sqD)) ρ := callP1 (sp_squares n f.ok) ρ
theorem sqs_len : (sqs rows.length (wd rows)).length ≤ 36 := by
  have e : (sqs rows.length (wd rows)).length = rows.length * wd rows := by
    unfold sqs
    rw [List.length_flatMap]
    have : ∀ n w : Nat, ((List.range n).map fun (_ : Nat) => w).sum = n * w := by
      intro n w
      induction n with
      | zero => simp
      | succ n ih => rw [List.range_succ, List.map_append, List.sum_append, ih]; simp [Nat.add_mul]
    simp
    exact this _ _
  rw [e]
  exact Nat.mul_le_mul f.h2 f.w2
def arcB : Ss := .cons (.as false 4 (.call 39 (.e (.v 2) (.e (.v 3) .nil)))) (.cons (.ite (.cmp .Eq (.ix (.ix (.v 0) (.v 2)) (.v 3)) (.k (.str (Str.ofString "a")))) (.cons (.mset [.s 1 (.tup (.cons (.v 2) (.cons (.v 3) (.cons (.k (.int 0)) .nil)))), .s 1 (.tup (.cons (.v 2) (.cons (.v 3) (.cons (.k (.int 1)) .nil))))] (.cons (.tup (.cons (.ix (.v 4) (.k (.int 0))) (.cons (.ix (.v 4) (.k (.int 3))) .nil))) (.cons (.tup (.cons (.ix (.v 4) (.k (.int 1))) (.cons (.ix (.v 4) (.k (.int 2))) .nil))) .nil))) .nil) (.cons (.mset [.s 1 (.tup (.cons (.v 2) (.cons (.v 3) (.cons (.k (.int 0)) .nil)))), .s 1 (.tup (.cons (.v 2) (.cons (.v 3) (.cons (.k (.int 1)) .nil))))] (.cons (.tup (.cons (.ix (.v 4) (.k (.int 0))) (.cons (.ix (.v 4) (.k (.int 1))) .nil))) (.cons (.tup (.cons (.ix (.v 4) (.k (.int 2))) (.cons (.ix (.v 4) (.k (.int 3))) .nil))) .nil))) .nil)) .nil)
omit f in
theorem df40_body : df40.body = .cons (.as true 1 .dic0) (.cons (.for_ (.t (.cons (.n 2) (.cons (.n 3) .nil))) (.ex (.call 18 (.e (.v 0) .nil))) arcB [2, 3, 4]) (.cons (.frz 1) (.cons (.ret (.v 1)) .nil))) := rfl
theorem fl_item2 {d : Nat} (hd : d < rows.length) : ∃ r, itemD (flD rows) (.int (d : Int)) = some (.str (rowS r)) ∧ r.length = wd rows ∧ ∀ a, a < wd rows → itemD (.str (rowS r)) (.int (a : Int)) = some (chD (cellB rows d a)) := by
  have hl : rows[d].length = wd rows := f.hr _ (List.getElem_mem hd)
  have := f.w2
  refine ⟨rows[d], fl_item rows d hd, hl, fun a ha => ?_⟩
  rw [row_item _ a (by omega) (by omega)]
  unfold cellB
  simp [hd, hl, ha]
theorem sp_arcs (n : Nat) : evF tbl (n + 2) 40 [.im (flD rows)] = .ok (.dict (arcsE rows (fr rows).allA)) [.un] := by
  have c1 := cl_squares f n
  have sl := sqs_len f
  have lp := for_all (f := forF (evF tbl (n + 1)) (.t (.cons (.n 2) (.cons (.n 3) .nil))) arcB) (w := forget [2, 3, 4]) sqD (fun p => [.im (flD rows), .mu (.d (arcsE rows (p.flatMap two))), .un, .un, .un]) (sqs rows.length (wd rows)) (fun p s q e => by
    obtain ⟨d, a⟩ := s
    have hin : InB rows.length (wd rows) (d, a) := sqs_in (by rw [e]; simp)
    obtain ⟨r, i1, _, i2⟩ := fl_item2 f hin.1
    have i2 := i2 a hin.2
    have sd := callP2 (sp_sides n d a)
    have nd := pair_nodup (sqs_pair rows.length (wd rows))
    rw [e] at nd
    have lp' : p.length < 36 := by
      have : (p ++ (d, a) :: q).length ≤ 36 := by rw [← e]; exact sl
      simp at this; omega
    have hnp : (d, a) ∉ p := fun z => by
      have := (List.nodup_append.mp nd).2.2 _ z _ List.mem_cons_self
      exact this rfl
    have k0 : ((d, a, 0) : Arc) ∉ p.flatMap two := fun z => by
      obtain ⟨s, hs, hz⟩ := List.mem_flatMap.mp z
      obtain ⟨e2, _⟩ := two_mem.mp hz
      exact hnp (e2 ▸ hs)
    have k1 : ((d, a, 1) : Arc) ∉ p.flatMap two ++ [(d, a, 0)] := fun z => by
      rcases List.mem_append.mp z with z | z
      · obtain ⟨s, hs, hz⟩ := List.mem_flatMap.mp z
        obtain ⟨e2, _⟩ := two_mem.mp hz
        exact hnp (e2 ▸ hs)
      · simp at z
    have p0 := arcs_put rows _ _ k0
    have p1 := arcs_put rows _ _ k1
    have len2 : (p.flatMap two).length = 2 * p.length := by
      clear e nd hnp k0 k1 p0 p1 lp'
      induction p with
      | nil => rfl
      | cons x p ih => simp [two] at ih ⊢; omega
    have l0 : (arcsE rows (p.flatMap two)).length < lim := by
      unfold arcsE; rw [dicE_len]; unfold arcsK; rw [List.length_map, len2]; unfold lim; omega
    have l1 : (arcsE rows (p.flatMap two ++ [(d, a, 0)])).length < lim := by
      unfold arcsE; rw [dicE_len]; unfold arcsK; rw [List.length_map, List.length_append, len2]; unfold lim; simp; omega
    have fin : (p ++ [(d, a)]).flatMap two = p.flatMap two ++ [(d, a, 0)] ++ [(d, a, 1)] := by simp [two]
    have a0 : PyData.tuple [.int d, .int a, .int 0] = arcD (d, a, 0) := rfl
    have a1 : PyData.tuple [.int d, .int a, .int 1] = arcD (d, a, 1) := rfl
    rw [fin]
    unfold turnR
    rw [forF_eq]
    unfold Fr.mids at p0 p1
    simp only [fr] at p0 p1
    cases hb : cellB rows d a with
    | false =>
      rw [hb] at i2
      simp only [hb, Bool.false_eq_true, if_false, if_true] at p0 p1
      simp [midsD, arcD] at p0 p1
      simp [sqD, arcB, sd, i1, i2, setM, isKey, keyOf?, l0, p0, l1, p1]
    | true =>
      rw [hb] at i2
      simp only [hb, if_true] at p0 p1
      simp [midsD, arcD] at p0 p1
      simp [sqD, arcB, sd, i1, i2, setM, isKey, keyOf?, l0, p0, l1, p1])
  have e0 : arcsE rows (([] : List (Nat × Nat)).flatMap two) = [] := rfl
  rw [e0] at lp
  rw [un40, df40_body]
  simp [ownD, c1, itemsD, lp, M.toD, allA_eq]
theorem sp_rim (n : Nat) : evF tbl (n + 1) 41 [.im (flD rows)] = .ok (.list ((fr rows).rimL.map midD)) [.un] := by
  obtain ⟨r, e1, e2⟩ := fl_row0 f
  have e3 := row_len f r e2
  have e4 := fl_len f
  have h2 := f.h2
  have w2 := f.w2
  have bh : (rows.length : Int) ≤ 1000000 ∧ -1000000 ≤ (rows.length : Int) := by omega
  have bw : (wd rows : Int) ≤ 1000000 ∧ -1000000 ≤ (wd rows : Int) := by omega
  have lc : ∀ (s3 : S) (e : E) (i : Nat) (m : Nat) (g : Nat → Mid), (i = 1 ∨ i = 2) → ((i = 1 → m = rows.length) ∧ (i = 2 → m = wd rows)) → (∀ k < m, ev (evF tbl n) e [.im (flD rows), .im (.int rows.length), .im (.int (wd rows)), s3, .im (.int k)] = .ok (midD (g k)) [.im (flD rows), .im (.int rows.length), .im (.int (wd rows)), s3, .im (.int k)]) →
      ev (evF tbl n) (.lc e (.n 4) (.rng1 (.v i)) .nil [4]) [.im (flD rows), .im (.int rows.length), .im (.int (wd rows)), s3, .un] = .ok (.list (((List.range m).map g).map midD)) [.im (flD rows), .im (.int rows.length), .im (.int (wd rows)), s3, .un] := by
    intro s3 e i m g hi hm he
    refine ev_lcx _ _ _ _ _ _ _ (xs := (List.range m).map fun i : Nat => PyData.int (i : Int)) ?_ rfl ?_ rfl
    · rcases hi with rfl | rfl
      · rw [hm.1 rfl]; simp [bh, rng_nat f]
      · rw [hm.2 rfl]; simp [bw, rng_nat f]
    · rw [List.map_map]
      exact lc_mp _ _ _ fun k hk => by
        have := he k (List.mem_range.mp hk)
        simp [turnR, lcF_eq, this]
  have l1 := lc .un (.tup (.cons (.k (.str (Str.ofString "h"))) (.cons (.k (.int 0)) (.cons (.v 4) .nil)))) 2 (wd rows) (fun k => (false, 0, k)) (.inr rfl) ⟨fun z => absurd z (by decide), fun _ => rfl⟩ (fun k hk => by simp [midD, hvD])
  have l2 := lc .un (.tup (.cons (.k (.str (Str.ofString "v"))) (.cons (.v 4) (.cons (.v 2) .nil)))) 1 rows.length (fun k => (true, k, wd rows)) (.inl rfl) ⟨fun _ => rfl, fun z => absurd z (by decide)⟩ (fun k hk => by simp [midD, hvD])
  have l3 := fun s3 => lc s3 (.tup (.cons (.k (.str (Str.ofString "h"))) (.cons (.v 1) (.cons (.bin .Sub (.bin .Sub (.v 2) (.k (.int 1))) (.v 4)) .nil)))) 2 (wd rows) (fun k => (false, rows.length, wd rows - 1 - k)) (.inr rfl) ⟨fun z => absurd z (by decide), fun _ => rfl⟩ (fun k hk => by simp [midD, hvD]; omega)
  have l4 := fun s3 => lc s3 (.tup (.cons (.k (.str (Str.ofString "v"))) (.cons (.bin .Sub (.bin .Sub (.v 1) (.k (.int 1))) (.v 4)) (.cons (.k (.int 0)) .nil)))) 1 rows.length (fun k => (true, rows.length - 1 - k, 0)) (.inl rfl) ⟨fun _ => rfl, fun z => absurd z (by decide)⟩ (fun k hk => by simp [midD, hvD]; omega)
  have la : ∀ (a b : List PyData), a.length + b.length ≤ lim → binD .Add (.list a) (.list b) = some (.list (a ++ b)) := fun a b h => by rw [add_ll, if_pos h]
  have b1 := la (((List.range (wd rows)).map fun k => ((false, 0, k) : Mid)).map midD) (((List.range rows.length).map fun k => ((true, k, wd rows) : Mid)).map midD) (by simp; unfold lim; omega)
  have b2 := la ((((List.range (wd rows)).map fun k => ((false, 0, k) : Mid)).map midD) ++ (((List.range rows.length).map fun k => ((true, k, wd rows) : Mid)).map midD)) (((List.range (wd rows)).map fun k => ((false, rows.length, wd rows - 1 - k) : Mid)).map midD) (by simp; unfold lim; omega)
  have b3 := la ((((List.range (wd rows)).map fun k => ((false, 0, k) : Mid)).map midD) ++ (((List.range rows.length).map fun k => ((true, k, wd rows) : Mid)).map midD) ++ (((List.range (wd rows)).map fun k => ((false, rows.length, wd rows - 1 - k) : Mid)).map midD)) (((List.range rows.length).map fun k => ((true, rows.length - 1 - k, 0) : Mid)).map midD) (by simp; unfold lim; omega)
  rw [un41]
  show finR 1 (evSs (evF tbl n) (.cons (.par (.cons false 1 (.bi .len (.v 0)) (.cons false 2 (.bi .len (.ix (.v 0) (.k (.int 0)))) .nil))) (.cons (.as false 3 (.bin .Add (.lc (.tup (.cons (.k (.str (Str.ofString "h"))) (.cons (.k (.int 0)) (.cons (.v 4) .nil)))) (.n 4) (.rng1 (.v 2)) .nil [4]) (.lc (.tup (.cons (.k (.str (Str.ofString "v"))) (.cons (.v 4) (.cons (.v 2) .nil)))) (.n 4) (.rng1 (.v 1)) .nil [4])))
    (.cons (.ret (.bin .Add (.bin .Add (.v 3) (.lc (.tup (.cons (.k (.str (Str.ofString "h"))) (.cons (.v 1) (.cons (.bin .Sub (.bin .Sub (.v 2) (.k (.int 1))) (.v 4)) .nil)))) (.n 4) (.rng1 (.v 2)) .nil [4])) (.lc (.tup (.cons (.k (.str (Str.ofString "v"))) (.cons (.bin .Sub (.bin .Sub (.v 1) (.k (.int 1))) (.v 4)) (.cons (.k (.int 0)) .nil)))) (.n 4) (.rng1 (.v 1)) .nil [4]))) .nil))) _) = _
  rw [seq_nx _ _ _ _ [.im (flD rows), .im (.int rows.length), .im (.int (wd rows)), .un, .un] (by simp [e1, e3, e4, setAll]),
    seq_nx _ _ _ _ [.im (flD rows), .im (.int rows.length), .im (.int (wd rows)), .im (.list ((((List.range (wd rows)).map fun k => ((false, 0, k) : Mid)).map midD) ++ (((List.range rows.length).map fun k => ((true, k, wd rows) : Mid)).map midD))), .un] (by rw [evS_as, ev_bin, l1, R.bind_ok, l2, R.bind_ok, b1]; simp)]
  simp only [evSs_cons, evS_ret, ev_bin, ev_v, getI_s, getI_0, R.of_some, R.bind_ok, l3, l4, b2, b3]
  simp [Fr.rimL, fr]
end
end AF

set_option maxHeartbeats 400000
namespace AF
open PySem L2
open PyProof.Rows hiding St
/-! ## sorting arcs -/
def ltA (x y : Arc) : Prop := x.1 < y.1 ∨ (x.1 = y.1 ∧ (x.2.1 < y.2.1 ∨ (x.2.1 = y.2.1 ∧ x.2.2 < y.2.2)))
theorem lt_arc (x y : Arc) : PySem.W.dataLt (arcD x) (arcD y) = true ↔ ltA x y := by
  have e : PySem.W.dataLt (arcD x) (arcD y) = decide (([(x.1 : Int), x.2.1, x.2.2] : List Int) < [(y.1 : Int), y.2.1, y.2.2]) := by
    rw [← PySem.W.dataLt_ints]
    exact PySem.W.dataLt_tuple _ _
  rw [e, decide_eq_true_eq]
  unfold ltA
  simp only [List.cons_lt_cons_iff]
  have : ¬ (([] : List Int) < []) := by simp
  simp only [this, and_false, or_false]
  omega
theorem alike_arc (x y : Arc) : PySem.W.alike (arcD x) (arcD y) = true := by
  unfold arcD
  simp [PySem.W.alike, PySem.W.alikeAll]
theorem sortOk_arc (l : List Arc) (h : l.length ≤ lim) : sortOk (l.map arcD) = true := by
  unfold sortOk
  have h1 := enc_arc.all (n := 7) (by decide) l
  have h2 : ((l.map arcD).all fun x => (l.map arcD).all (PySem.W.alike x)) = true := by
    simp only [List.all_eq_true, List.mem_map]
    rintro _ ⟨x, _, rfl⟩ _ ⟨y, _, rfl⟩
    exact alike_arc x y
  have h3 : ((l.map arcD).all fun | .tuple (_ :: _) => true | _ => false) = true := by
    simp only [List.all_eq_true, List.mem_map]
    rintro _ ⟨x, _, rfl⟩
    rfl
  rw [h1, h2]
  simp only [Bool.true_and, Bool.and_eq_true, Bool.or_eq_true, decide_eq_true_eq, List.length_map]
  exact ⟨.inl h3, h⟩
theorem snoc_ex {α : Type} {l : List α} (h : l ≠ []) : ∃ l' x, l = l' ++ [x] := ⟨l.dropLast, l.getLast h, (List.dropLast_concat_getLast h).symm⟩
theorem ltA_tr (a b c : Arc) (h : ltA a b) (g : ltA b c) : ltA a c := by unfold ltA at *; omega
theorem ltA_ir (a : Arc) : ¬ ltA a a := by unfold ltA; omega
theorem ltA_tot (a b : Arc) : ltA a b ∨ a = b ∨ ltA b a := by
  obtain ⟨a1, a2, a3⟩ := a
  obtain ⟨b1, b2, b3⟩ := b
  unfold ltA
  simp only [Prod.mk.injEq]
  omega
theorem sorted_arcs (l m : List Arc) (h : l.length ≤ lim) (hp : l.Perm m) (hs : m.Pairwise ltA) : biD .sorted (.list (l.map arcD)) = some (.list (m.map arcD)) := by
  show (if sortOk (l.map arcD) then some (PyData.list (sortD (l.map arcD))) else none) = _
  rw [sortOk_arc l h, sort_enc lt_arc ltA_tr ltA_ir ltA_tot l m hp hs]
  rfl
theorem allA_srt (F : Fr) : F.allA.Pairwise ltA := Fr.allA_lt
/-! ## the arcs at each middle -/
def arcsL (l : List Arc) : PyData := .list (l.map arcD)
theorem enc_arcsL : EncOk arcsL 2 := enc_arc.lst
def stp (kvs : List (Mid × List Arc)) (x : Arc) (m : Mid) : List (Mid × List Arc) := pt kvs m ((lk kvs m).getD [] ++ [x])
def tch (F : Fr) (l : List Arc) : List (Mid × List Arc) := l.foldl (fun kvs x => stp (stp kvs x (F.mids x).1) x (F.mids x).2) []
theorem mids_ne (F : Fr) (x : Arc) : (F.mids x).1 ≠ (F.mids x).2 := by
  unfold Fr.mids
  split <;> split <;> simp [sideM]
theorem lk_stp (kvs : List (Mid × List Arc)) (x : Arc) (m m' : Mid) : lk (stp kvs x m) m' = if m' = m then some ((lk kvs m).getD [] ++ [x]) else lk kvs m' := lk_pt _ _ _ _
theorem tch_snoc (F : Fr) (l : List Arc) (x : Arc) : tch F (l ++ [x]) = stp (stp (tch F l) x (F.mids x).1) x (F.mids x).2 := by
  unfold tch
  rw [List.foldl_append]
  rfl
theorem lk_tch (F : Fr) (m : Mid) : ∀ (n : Nat) (l : List Arc), l.length = n → lk (tch F l) m = (if l.filter (fun x => decide (F.onA x m)) = [] then none else some (l.filter fun x => decide (F.onA x m))) := by
  intro n
  induction n with
  | zero =>
    intro l h
    cases l with
    | nil => rfl
    | cons _ _ => simp at h
  | succ n ih =>
    intro l h
    have hne : l ≠ [] := by intro z; subst z; simp at h
    obtain ⟨l', x, rfl⟩ : ∃ l' x, l = l' ++ [x] := snoc_ex hne
    have ih := ih l' (by simpa using h)
    have ne := mids_ne F x
    rw [tch_snoc, lk_stp, lk_stp, lk_stp, List.filter_append]
    have ih' : (lk (tch F l') m).getD [] = l'.filter (fun x => decide (F.onA x m)) := by
      rw [ih]; split <;> simp_all
    unfold Fr.onA at *
    by_cases h2 : (F.mids x).2 = m
    · have h1 : ¬ (F.mids x).1 = m := fun z => ne (by rw [z, h2])
      have h1' : ¬ m = (F.mids x).1 := fun z => h1 z.symm
      rw [if_pos h2.symm, h2, if_neg h1', ih']
      simp [h2]
    · have h2' : ¬ m = (F.mids x).2 := fun z => h2 z.symm
      rw [if_neg h2']
      by_cases h1 : (F.mids x).1 = m
      · rw [if_pos h1.symm, h1, ih']
        simp [h1]
      · have h1' : ¬ m = (F.mids x).1 := fun z => h1 z.symm
        rw [if_neg h1', ih, show List.filter (fun x => decide ((F.mids x).1 = m ∨ (F.mids x).2 = m)) [x] = [] from by simp [List.filter, h1, h2], List.append_nil]
theorem stp_len (kvs : List (Mid × List Arc)) (x : Arc) (m : Mid) : (stp kvs x m).length ≤ kvs.length + 1 := pt_len _ _ _
theorem tch_len (F : Fr) : ∀ (n : Nat) (l : List Arc), l.length = n → (tch F l).length ≤ 2 * l.length := by
  intro n
  induction n with
  | zero => intro l h; cases l with
    | nil => exact Nat.le_refl _
    | cons _ _ => simp at h
  | succ n ih =>
    intro l h
    have hne : l ≠ [] := by intro z; subst z; simp at h
    obtain ⟨l', x, rfl⟩ : ∃ l' x, l = l' ++ [x] := snoc_ex hne
    have ih := ih l' (by simpa using h)
    rw [tch_snoc]
    have a := stp_len (stp (tch F l') x (F.mids x).1) x (F.mids x).2
    have b := stp_len (tch F l') x (F.mids x).1
    simp
    omega
/-- what a middle's list is -/
theorem lk_touch (F : Fr) (m : Mid) : lk (tch F F.allA) m = (if F.touch m = [] then none else some (F.touch m)) := lk_tch F m _ _ rfl
def tchE (F : Fr) (l : List Arc) : List (PyData × PyData) := dicE midD arcsL (tch F l)
theorem lk_arcs (rows : List (List Bool)) {x : Arc} {l : List Arc} (hx : x ∈ l) : lk (arcsK rows l) x = some ((fr rows).mids x) := by
  unfold lk arcsK
  rw [List.find?_map]
  cases hf : l.find? ((fun p : Arc × (Mid × Mid) => decide (p.1 = x)) ∘ fun x => (x, (fr rows).mids x)) with
  | none =>
    rw [List.find?_eq_none] at hf
    exact absurd (by simp) (hf x hx)
  | some y =>
    have := List.find?_some hf
    simp at this
    simp [this]
theorem arcs_item (rows : List (List Bool)) {x : Arc} {l : List Arc} (hx : x ∈ l) : itemD (.dict (arcsE rows l)) (arcD x) = some (midsD ((fr rows).mids x)) := by
  show (if isKey (arcD x) then lookD (arcsE rows l) (arcD x) else none) = _
  rw [if_pos (key_arc x)]
  unfold arcsE
  rw [lookD_enc enc_arc, lk_arcs rows hx]
  rfl
theorem touch_item (F : Fr) {m : Mid} (h : F.touch m ≠ []) : itemD (.dict (tchE F F.allA)) (midD m) = some (arcsL (F.touch m)) := by
  show (if isKey (midD m) then lookD (tchE F F.allA) (midD m) else none) = _
  rw [if_pos (key_mid m)]
  unfold tchE
  rw [lookD_enc enc_mid, lk_touch, if_neg h]
  rfl
theorem arcs_list (rows : List (List Bool)) (l : List Arc) : biD .list (.dict (arcsE rows l)) = some (.list (l.map arcD)) := by
  show some (PyData.list ((arcsE rows l).map (·.1))) = _
  unfold arcsE dicE arcsK
  rw [List.map_map, List.map_map]
  rfl
def midB : Ss := .cons (.set 1 (.v 3) (.bin .Add (.getM 1 (.v 3) (.lst .nil)) (.lst (.cons (.v 2) .nil)))) .nil
theorem df42_body : df42.body = .cons (.as true 1 .dic0) (.cons (.for_ (.n 2) (.ex (.bi .sorted (.bi .list (.v 0)))) (.cons (.for_ (.n 3) (.ex (.ix (.v 0) (.v 2))) midB [3]) .nil) [2, 3]) (.cons (.frz 1) (.cons (.ret (.v 1)) .nil))) := rfl
theorem mid_turn (cf : CallF) (s0 : S) (x : Arc) (m : Mid) (kvs : List (Mid × List Arc)) (hl : kvs.length < 900000) (hv : ∀ l, lk kvs m = some l → l.length < 900000) :
    turnR (forF cf (.n 3) midB (midD m) [s0, .mu (.d (dicE midD arcsL kvs)), .im (arcD x), .un]) (forget [3]) = .ok .nx [s0, .mu (.d (dicE midD arcsL (stp kvs x m))), .im (arcD x), .un] := by
  have g : get2D (.dict (dicE midD arcsL kvs)) (midD m) (.list []) = some (arcsL ((lk kvs m).getD [])) := by
    show (if isKey (midD m) then some ((lookD (dicE midD arcsL kvs) (midD m)).getD (.list [])) else none) = _
    rw [if_pos (key_mid m), lookD_enc enc_mid]
    cases lk kvs m <;> rfl
  have b : binD .Add (arcsL ((lk kvs m).getD [])) (.list [arcD x]) = some (arcsL ((lk kvs m).getD [] ++ [x])) := by
    unfold arcsL
    rw [add_ll, if_pos]
    · simp
    · cases h : lk kvs m with
      | none => simp [lim]
      | some l => have := hv l h; simp [lim]; omega
  have p : putD (dicE midD arcsL kvs) (midD m) (arcsL ((lk kvs m).getD [] ++ [x])) = dicE midD arcsL (stp kvs x m) := putD_enc enc_mid _ _ _
  have hl2 : (dicE midD arcsL kvs).length < lim := by rw [dicE_len]; unfold lim; omega
  unfold turnR
  rw [forF_eq]
  simp [midB, g, b, setM, key_mid, hl2, p]
theorem sp_at_middle (n : Nat) (rows : List (List Bool)) (hl : (fr rows).allA.length ≤ 1000) : evF tbl (n + 1) 42 [.im (.dict (arcsE rows (fr rows).allA))] = .ok (.dict (tchE (fr rows) (fr rows).allA)) [.un] := by
  have so := sorted_arcs (fr rows).allA _ (by unfold lim; omega) (List.Perm.refl _) (allA_srt _)
  have bnd : ∀ (l : List Arc) (m : Mid) (k : List Arc), l.length ≤ 1000 → lk (tch (fr rows) l) m = some k → k.length ≤ 1000 := fun l m k h e => by
    rw [lk_tch _ _ _ l rfl] at e
    split at e
    · cases e
    · cases e
      exact Nat.le_trans (List.length_filter_le _ _) h
  have lp := for_all (f := forF (evF tbl n) (.n 2) (.cons (.for_ (.n 3) (.ex (.ix (.v 0) (.v 2))) midB [3]) .nil)) (w := forget [2, 3]) arcD (fun p => [.im (.dict (arcsE rows (fr rows).allA)), .mu (.d (tchE (fr rows) p)), .un, .un]) (fr rows).allA (fun p x q e => by
    have hx : x ∈ (fr rows).allA := by rw [e]; simp
    have hp : p.length ≤ 1000 := by
      have : (p ++ x :: q).length ≤ 1000 := by rw [← e]; exact hl
      simp at this; omega
    have it := arcs_item rows hx
    have lp := tch_len (fr rows) _ p rfl
    have t1 := mid_turn (evF tbl n) (.im (.dict (arcsE rows (fr rows).allA))) x ((fr rows).mids x).1 (tch (fr rows) p) (by omega) (fun l h => by have := bnd p _ l hp h; omega)
    have s1 := stp_len (tch (fr rows) p) x ((fr rows).mids x).1
    have t2 := mid_turn (evF tbl n) (.im (.dict (arcsE rows (fr rows).allA))) x ((fr rows).mids x).2 (stp (tch (fr rows) p) x ((fr rows).mids x).1) (by omega) (fun l h => by
      rw [lk_stp, if_neg (fun z => mids_ne (fr rows) x z.symm)] at h
      have := bnd p _ l hp h; omega)
    unfold turnR
    rw [forF_eq]
    have im : itemsD (midsD ((fr rows).mids x)) = some [midD ((fr rows).mids x).1, midD ((fr rows).mids x).2] := rfl
    have fin : tchE (fr rows) (p ++ [x]) = dicE midD arcsL (stp (stp (tch (fr rows) p) x ((fr rows).mids x).1) x ((fr rows).mids x).2) := by unfold tchE; rw [tch_snoc]
    have st : tchE (fr rows) p = dicE midD arcsL (tch (fr rows) p) := rfl
    rw [fin, st]
    simp [it, im]
    rw [for_turn t1, for_turn t2]
    rfl)
  have e0 : tchE (fr rows) [] = [] := rfl
  rw [e0] at lp
  rw [un42, df42_body]
  simp [ownD, arcs_list, so, itemsD, lp, M.toD]
end AF

set_option maxHeartbeats 400000
namespace AF
open PySem L2
open PyProof.Rows hiding St
/-! ## the law's walk -/
def nxL (F : Fr) (q : Qs) : List Arc := (F.nx q).toList.map F.arc
def nxO (F : Fr) (q : Qs) : Arc := ((F.nx q).map F.arc).getD (F.arc q)
theorem touch_nxL {F : Fr} {q : Qs} (h : F.V q) : (F.touch (Fr.side (F.rv q))).filter (fun x => !decide (x = F.arc q)) = nxL F q := by
  rw [Fr.touch_next h]
  unfold nxL
  cases F.nx q <;> rfl
def lwB : Ss := .cons (.app 4 (.v 3)) (.cons (.as false 2 (.ix (.lc (.v 6) (.n 6) (.ex (.ix (.v 0) (.v 3))) (.cons (.cmp .NotEq (.v 6) (.v 2)) .nil) [6]) (.k (.int 0)))) (.cons (.as false 5 (.lc (.v 6) (.n 6) (.ex (.ix (.v 1) (.v 2))) (.cons (.cmp .NotEq (.v 6) (.v 3)) .nil) [6])) (.cons (.as false 3 (.ite (.cmp .NotEq (.v 5) (.lst .nil)) (.ix (.v 5) (.k (.int 0))) (.v 3))) .nil)))
theorem df43_body : df43.body = .cons (.as true 4 (.lst .nil)) (.cons (.whl 6000 (.inM true (.v 3) 4) lwB [5]) (.cons (.frz 4) (.cons (.ret (.tup (.cons (.v 4) (.cons (.v 2) .nil)))) .nil))) := rfl
section
variable {rows : List (List Bool)} (f : Flo rows)
include f
theorem allA_len : (fr rows).allA.length ≤ 72 := by
  rw [allA_eq]
  have h := sqs_len f
  have : ∀ l : List (Nat × Nat), (l.flatMap two).length = 2 * l.length := by
    intro l
    induction l with
    | nil => rfl
    | cons x l ih => simp [two] at ih ⊢; omega
  rw [this]; omega
abbrev arcsD (rows : List (List Bool)) : PyData := .dict (arcsE rows (fr rows).allA)
abbrev tchD (rows : List (List Bool)) : PyData := .dict (tchE (fr rows) (fr rows).allA)
theorem lw_turn (n : Nat) {q : Qs} (vq : (fr rows).V q) (acc : List Arc) (hl : acc.length < 900000) :
    evSs (evF tbl n) lwB [.im (arcsD rows), .im (tchD rows), .im (midD (Fr.side q)), .im (arcD ((fr rows).arc q)), .mu (.l (acc.map arcD)), .un, .un] =
      .ok .nx [.im (arcsD rows), .im (tchD rows), .im (midD (Fr.side ((fr rows).rv q))), .im (arcD (nxO (fr rows) q)), .mu (.l ((acc ++ [(fr rows).arc q]).map arcD)), .im (arcsL (nxL (fr rows) q)), .un] := by
  have hl : acc.length < lim := by unfold lim; omega
  have mem := Fr.arc_mem vq
  have it := arcs_item rows mem
  have tn := touch_nxL vq
  have tne : (fr rows).touch (Fr.side ((fr rows).rv q)) ≠ [] := fun z => by
    have : (fr rows).arc q ∈ (fr rows).touch (Fr.side ((fr rows).rv q)) := List.mem_filter.mpr ⟨mem, by rw [decide_eq_true_eq, Fr.onA_arc vq]; exact .inr rfl⟩
    rw [z] at this; cases this
  have tt := touch_item (fr rows) tne
  have sne : Fr.side q ≠ Fr.side ((fr rows).rv q) := fun z => by
    have := mids_ne (fr rows) ((fr rows).arc q)
    rcases Fr.mids_arc vq with e | e
    · rw [e] at this; exact this z
    · rw [e] at this; exact this z.symm
  -- the other middle
  have l1 : ev (evF tbl n) (.lc (.v 6) (.n 6) (.ex (.ix (.v 0) (.v 3))) (.cons (.cmp .NotEq (.v 6) (.v 2)) .nil) [6]) [.im (arcsD rows), .im (tchD rows), .im (midD (Fr.side q)), .im (arcD ((fr rows).arc q)), .mu (.l ((acc ++ [(fr rows).arc q]).map arcD)), .un, .un] =
      .ok (.list [midD (Fr.side ((fr rows).rv q))]) [.im (arcsD rows), .im (tchD rows), .im (midD (Fr.side q)), .im (arcD ((fr rows).arc q)), .mu (.l ((acc ++ [(fr rows).arc q]).map arcD)), .un, .un] := by
    refine ev_lcx _ _ _ _ _ _ _ (xs := [((fr rows).mids ((fr rows).arc q)).1, ((fr rows).mids ((fr rows).arc q)).2].map midD) ?_ rfl ?_ rfl
    · simp [it]
      rfl
    · have ft := lc_ft (f := lcF (evF tbl n) (.v 6) (.n 6) (.cons (.cmp .NotEq (.v 6) (.v 2)) .nil)) (w := forget [6]) (ρ0 := [.im (arcsD rows), .im (tchD rows), .im (midD (Fr.side q)), .im (arcD ((fr rows).arc q)), .mu (.l ((acc ++ [(fr rows).arc q]).map arcD)), .un, .un]) midD midD (fun m => !decide (m = Fr.side q)) [((fr rows).mids ((fr rows).arc q)).1, ((fr rows).mids ((fr rows).arc q)).2] (fun m _ => by
        have ce := enc_mid.cmpNe (by decide) m (Fr.side q)
        unfold turnR
        rw [lcF_t]
        simp [ce]
        split <;> simp)
      rw [show (forget [6] [.im (arcsD rows), .im (tchD rows), .im (midD (Fr.side q)), .im (arcD ((fr rows).arc q)), .mu (.l ((acc ++ [(fr rows).arc q]).map arcD)), S.un, S.un]) = [.im (arcsD rows), .im (tchD rows), .im (midD (Fr.side q)), .im (arcD ((fr rows).arc q)), .mu (.l ((acc ++ [(fr rows).arc q]).map arcD)), .un, .un] from rfl, ft]
      congr 1
      rcases Fr.mids_arc vq with e | e
      · rw [e]
        have : ¬ Fr.side ((fr rows).rv q) = Fr.side q := fun z => sne z.symm
        simp [this]
      · rw [e]
        have : ¬ Fr.side ((fr rows).rv q) = Fr.side q := fun z => sne z.symm
        simp [this]
  have l2 : ev (evF tbl n) (.lc (.v 6) (.n 6) (.ex (.ix (.v 1) (.v 2))) (.cons (.cmp .NotEq (.v 6) (.v 3)) .nil) [6]) [.im (arcsD rows), .im (tchD rows), .im (midD (Fr.side ((fr rows).rv q))), .im (arcD ((fr rows).arc q)), .mu (.l ((acc ++ [(fr rows).arc q]).map arcD)), .un, .un] =
      .ok (arcsL (nxL (fr rows) q)) [.im (arcsD rows), .im (tchD rows), .im (midD (Fr.side ((fr rows).rv q))), .im (arcD ((fr rows).arc q)), .mu (.l ((acc ++ [(fr rows).arc q]).map arcD)), .un, .un] := by
    rw [← tn]
    refine ev_lcx _ _ _ _ _ _ _ (xs := ((fr rows).touch (Fr.side ((fr rows).rv q))).map arcD) ?_ rfl ?_ rfl
    · simp [tt]
      rfl
    · exact lc_ft (f := lcF (evF tbl n) (.v 6) (.n 6) (.cons (.cmp .NotEq (.v 6) (.v 3)) .nil)) (w := forget [6]) (ρ0 := [.im (arcsD rows), .im (tchD rows), .im (midD (Fr.side ((fr rows).rv q))), .im (arcD ((fr rows).arc q)), .mu (.l ((acc ++ [(fr rows).arc q]).map arcD)), .un, .un]) arcD arcD (fun x => !decide (x = (fr rows).arc q)) _ (fun m _ => by
        have ce := enc_arc.cmpNe (by decide) m ((fr rows).arc q)
        unfold turnR
        rw [lcF_t]
        simp [ce]
        split <;> simp)
  unfold lwB
  rw [seq_nx _ _ _ _ [.im (arcsD rows), .im (tchD rows), .im (midD (Fr.side q)), .im (arcD ((fr rows).arc q)), .mu (.l ((acc ++ [(fr rows).arc q]).map arcD)), .un, .un] (by simp [hl]),
    seq_nx _ _ _ _ [.im (arcsD rows), .im (tchD rows), .im (midD (Fr.side ((fr rows).rv q))), .im (arcD ((fr rows).arc q)), .mu (.l ((acc ++ [(fr rows).arc q]).map arcD)), .un, .un] (by rw [evS_as, ev_ix, l1]; simp),
    seq_nx _ _ _ _ [.im (arcsD rows), .im (tchD rows), .im (midD (Fr.side ((fr rows).rv q))), .im (arcD ((fr rows).arc q)), .mu (.l ((acc ++ [(fr rows).arc q]).map arcD)), .im (arcsL (nxL (fr rows) q)), .un] (by rw [evS_as, l2]; simp)]
  have ce : ∀ l : List Arc, cmpD .NotEq (arcsL l) (.list []) = some (!decide (l = [])) := fun l => enc_arcsL.cmpNe (by decide) l []
  unfold nxL nxO
  cases (fr rows).nx q with
  | none => simp [ce]
  | some r =>
    simp [ce]
    simp [arcsL]
theorem lw_loop (n : Nat) (first : Qs) : ∀ (q : Qs) (l : List Qs), Wk (fr rows).nx first q l → (∀ x ∈ l, (fr rows).V x) → ∀ (m : Nat) (acc : List Arc), l.length < m → acc.length + l.length ≤ 5000 → (acc ++ l.map (fr rows).arc).Nodup → (first = q ∨ (fr rows).arc first ∈ acc) →
    ∃ x y, l.getLast? = some x ∧ whlLoop (whT (evF tbl n) (.inM true (.v 3) 4)) (evSs (evF tbl n) lwB) (forget [5]) m [.im (arcsD rows), .im (tchD rows), .im (midD (Fr.side q)), .im (arcD ((fr rows).arc q)), .mu (.l (acc.map arcD)), .un, .un] =
      .ok .nx [.im (arcsD rows), .im (tchD rows), .im (midD (Fr.side ((fr rows).rv x))), .im y, .mu (.l ((acc ++ l.map (fr rows).arc).map arcD)), .un, .un] := by
  intro q l w
  have cond : ∀ (acc : List Arc) (a : Arc) (s2 : S), whT (evF tbl n) (.inM true (.v 3) 4) [.im (arcsD rows), .im (tchD rows), s2, .im (arcD a), .mu (.l (acc.map arcD)), .un, .un] = .ok (!decide (a ∈ acc)) [.im (arcsD rows), .im (tchD rows), s2, .im (arcD a), .mu (.l (acc.map arcD)), .un, .un] := fun acc a s2 => by
    have := enc_arc.inL (by decide) a acc
    simp [whT, inM, this, asBool]
  have fgt : ∀ s2 s3 s4 s5 : S, forget [5] [.im (arcsD rows), .im (tchD rows), s2, s3, s4, s5, .un] = [.im (arcsD rows), .im (tchD rows), s2, s3, s4, .un, .un] := fun _ _ _ _ => rfl
  induction w with
  | @stop q h =>
    intro hv m acc hm ha nd hf
    have vq := hv q List.mem_cons_self
    obtain ⟨m, rfl⟩ : ∃ k, m = k + 1 + 1 := ⟨m - 2, by simp at hm; omega⟩
    have nin : (fr rows).arc q ∉ acc := fun z => (List.nodup_append.mp nd).2.2 _ z _ (by simp) rfl
    have tn := lw_turn f n vq acc (by simp at ha; omega)
    refine ⟨q, arcD (nxO (fr rows) q), rfl, ?_⟩
    rw [whlLoop, cond]
    simp only [nin, decide_false, Bool.not_false, R.bind_ok, if_true, tn, fgt]
    rw [whlLoop, cond]
    have : (nxO (fr rows) q) ∈ acc ++ [(fr rows).arc q] := by
      unfold nxO
      rcases h with h | h
      · rw [h]; simp
      · rw [h]
        rcases hf with hf | hf
        · rw [hf]; simp
        · exact List.mem_append_left _ hf
    simp only [this, decide_true, Bool.not_true, R.bind_ok]
    rfl
  | @go q r l e ne w ih =>
    intro hv m acc hm ha nd hf
    have vq := hv q List.mem_cons_self
    obtain ⟨m, rfl⟩ : ∃ k, m = k + 1 := ⟨m - 1, by simp at hm; omega⟩
    have nin : (fr rows).arc q ∉ acc := fun z => (List.nodup_append.mp nd).2.2 _ z _ (by simp) rfl
    have tn := lw_turn f n vq acc (by simp at ha; omega)
    have eo : nxO (fr rows) q = (fr rows).arc r := by unfold nxO; rw [e]; rfl
    rw [eo] at tn
    obtain ⟨x, y, hx, h2⟩ := ih (fun y hy => hv y (List.mem_cons_of_mem _ hy)) m (acc ++ [(fr rows).arc q]) (by simp at hm; omega) (by simp at ha ⊢; omega) (by simpa using nd) (by
      right
      rcases hf with hf | hf
      · rw [hf]; simp
      · exact List.mem_append_left _ hf)
    obtain ⟨t, rfl⟩ := w.head
    refine ⟨x, y, by rw [List.getLast?_cons_cons]; exact hx, ?_⟩
    have sd : Fr.side ((fr rows).rv q) = Fr.side r := (sideM_ovr vq.out e).symm
    rw [whlLoop, cond]
    simp only [nin, decide_false, Bool.not_false, R.bind_ok, if_true, tn, fgt, sd]
    rw [h2]
    simp
theorem sp_lwalk (n : Nat) {q : Qs} (vq : (fr rows).V q) : ∃ x, ((fr rows).line q).getLast? = some x ∧ evF tbl (n + 1) 43 [.im (arcsD rows), .im (tchD rows), .im (midD (Fr.side q)), .im (arcD ((fr rows).arc q))] = .ok (.tuple [.list ((lnA rows q).map arcD), midD (Fr.side ((fr rows).rv x))]) [.un, .un, .un, .un] := by
  have hl := line_small f vq
  obtain ⟨x, y, hx, h2⟩ := lw_loop f n q q _ (Fr.line_ln vq) (Fr.line_V vq) 6000 [] (by omega) (by simp; omega) (by simpa using Fr.line_arcs vq) (.inl rfl)
  refine ⟨x, hx, ?_⟩
  rw [un43, df43_body]
  simp only [List.map_nil, List.nil_append] at h2
  simp [ownD, h2, M.toD, lnA]
/-- what the law finds of the ways -/
noncomputable def wayP (rows : List (List Bool)) (e : Nat) : List Arc × Nat := (wayA rows e, prt rows e)
def wayPD (p : List Arc × Nat) : PyData := .tuple [arcsL p.1, .int p.2]
theorem enc_wayP : EncOk wayPD 3 := by
  have h := enc_arcsL.tup2 (enc_nat.up (m := 2) (by decide))
  exact ⟨h.sh, h.eq⟩
noncomputable def ways (rows : List (List Bool)) : List (List Arc × Nat) := (List.range (fr rows).ends).map (wayP rows)
theorem pl_v {e : Nat} (he : e < (fr rows).ends) : (fr rows).V ((fr rows).pl e) := Fr.pl_V (by have := f.h1; exact this) (by have := f.w1; exact this) he
theorem pl_r {e : Nat} (he : e < (fr rows).ends) : (fr rows).rim ((fr rows).pl e) := Fr.pl_rim (by have := f.h1; exact this) (by have := f.w1; exact this) he
/-- the other end: its place -/
theorem prt_pl {e : Nat} (he : e < (fr rows).ends) : prt rows e < (fr rows).ends ∧ ∃ x, ((fr rows).line ((fr rows).pl e)).getLast? = some x ∧ (fr rows).pl (prt rows e) = (fr rows).rv x ∧ (fr rows).V x := by
  have vq := pl_v f he
  obtain ⟨x, hx, _⟩ := (Fr.line_ln vq).last
  have vx := Fr.line_V vq x (List.mem_of_getLast? hx)
  have hn := Fr.way_last vq (pl_r f he) hx
  have := Fr.pl_ea vx.rv (Fr.rim_rv hn)
  have e2 : prt rows e = (fr rows).ea ((fr rows).rv x).d ((fr rows).rv x).a ((fr rows).rv x).s := by unfold prt; rw [last_of f hx]; rfl
  rw [e2]
  exact ⟨this.2, x, hx, this.1, vx⟩
omit f in
theorem df44_body : df44.body = .cons (.par (.cons false 1 (.call 40 (.e (.v 0) .nil)) (.cons false 2 (.call 41 (.e (.v 0) .nil)) .nil))) (.cons (.par (.cons false 3 (.call 42 (.e (.v 1) .nil)) (.cons true 4 (.lst .nil) .nil))) (.cons (.for_ (.n 5) (.ex (.v 2)) (.cons (.unp (.t (.cons (.n 6) (.cons (.n 7) .nil))) (.call 43 (.e (.v 1) (.e (.v 3) (.e (.v 5) (.e (.ix (.ix (.v 3) (.v 5)) (.k (.int 0))) .nil)))))) (.cons (.app 4 (.tup (.cons (.v 6) (.cons (.me .index (.v 2) (.v 7)) .nil)))) .nil)) [5, 6, 7]) (.cons (.frz 4) (.cons (.ret (.v 4)) .nil)))) := rfl
theorem sp_lways (n : Nat) : evF tbl (n + 3) 44 [.im (flD rows)] = .ok (.list ((ways rows).map wayPD)) [.un] := by
  have hh : 0 < (fr rows).h := f.h1
  have hw : 0 < (fr rows).w := f.w1
  have es := ends_small f
  have c1 := callP1 (sp_arcs f n)
  have c2 := callP1 (sp_rim f (n + 1))
  have c3 := callP1 (sp_at_middle (n + 1) rows (by have := allA_len f; omega))
  have rl := Fr.rimL_eq hh hw
  have lp := for_all (f := forF (evF tbl (n + 2)) (.n 5) (.cons (.unp (.t (.cons (.n 6) (.cons (.n 7) .nil))) (.call 43 (.e (.v 1) (.e (.v 3) (.e (.v 5) (.e (.ix (.ix (.v 3) (.v 5)) (.k (.int 0))) .nil)))))) (.cons (.app 4 (.tup (.cons (.v 6) (.cons (.me .index (.v 2) (.v 7)) .nil)))) .nil))) (w := forget [5, 6, 7])
    (fun e => midD (Fr.side ((fr rows).pl e))) (fun p => [.im (flD rows), .im (arcsD rows), .im (.list ((fr rows).rimL.map midD)), .im (tchD rows), .mu (.l ((p.map (wayP rows)).map wayPD)), .un, .un, .un]) (List.range (fr rows).ends) (fun p e q eq => by
    have he : e < (fr rows).ends := List.mem_range.mp (by rw [eq]; simp)
    have vq := pl_v f he
    have rq := pl_r f he
    have hp : p.length < lim := by
      have : (p ++ e :: q).length = (fr rows).ends := by rw [← eq]; simp
      simp at this; unfold lim; omega
    obtain ⟨pe, x, hx, ex, vx⟩ := prt_pl f he
    obtain ⟨x', hx', sw⟩ := sp_lwalk f (n + 1) vq
    rw [hx] at hx'
    cases hx'
    have c4 := callP4 sw
    have tr := Fr.touch_rim vq rq
    have tt := touch_item (fr rows) (m := Fr.side ((fr rows).pl e)) (by rw [tr]; simp)
    rw [tr] at tt
    have mem : Fr.side ((fr rows).rv x) ∈ (fr rows).rimL := by
      rw [rl]
      exact List.mem_map.mpr ⟨_, List.mem_range.mpr pe, by rw [ex]⟩
    have ix := enc_mid.idx (by decide) _ _ mem
    have ri := Fr.rimL_idx hh hw pe
    rw [ex] at ri
    rw [ri] at ix
    have fin : wayPD (wayP rows e) = .tuple [.list ((lnA rows ((fr rows).pl e)).map arcD), .int (prt rows e)] := rfl
    unfold turnR
    rw [forF_eq, List.map_append, List.map_append, List.map_singleton, List.map_singleton, fin]
    simp [tt, arcsL, c4, meT, meD, ix, hp])
  rw [un44, df44_body]
  have it : ((fr rows).rimL.map midD) = (List.range (fr rows).ends).map fun e => midD (Fr.side ((fr rows).pl e)) := by rw [rl, List.map_map]; rfl
  rw [← it] at lp
  simp only [List.map_nil, arcsD, tchD] at lp
  simp [c1, c2, c3, setAll, ownD, itemsD, lp, M.toD, ways]
theorem sp_same_number (n : Nat) (i : Int) (j : Int) : evF tbl (n + 1) 38 [.im (.int i), .im (.int j)] = .ok (.bool (decide (i = j))) [.un, .un] := by
  rw [un38]
  simp [df38]
/-- there and back -/
theorem prt_prt {e : Nat} (he : e < (fr rows).ends) : prt rows (prt rows e) = e ∧ wayA rows (prt rows e) = (wayA rows e).reverse := by
  obtain ⟨pe, x, hx, ex, vx⟩ := prt_pl f he
  have vq := pl_v f he
  have rq := pl_r f he
  have wr := Fr.way_rev vq rq hx
  have hv := Fr.line_V vq
  obtain ⟨t, et⟩ := (Fr.line_ln vq).head
  have lastr : ((fr rows).line ((fr rows).rv x)).getLast? = some ((fr rows).rv ((fr rows).pl e)) := by
    rw [wr, et]
    simp
  constructor
  · show (fr rows).ea (lastQ rows ((fr rows).pl (prt rows e))).d (lastQ rows ((fr rows).pl (prt rows e))).a ((fr rows).out (lastQ rows ((fr rows).pl (prt rows e)))) = e
    rw [ex, last_of f lastr, Fr.out_rv vq]
    exact Fr.ea_pl he
  · show lnA rows ((fr rows).pl (prt rows e)) = _
    rw [ex]
    unfold wayA lnA
    rw [wr, List.map_map, ← List.map_reverse]
    apply List.map_congr_left
    intro y hy
    exact Fr.arc_rv (hv y (List.mem_reverse.mp hy))
end
theorem enum_range {g : Nat → PyData} (m : Nat) : enumD 0 ((List.range m).map g) = (List.range m).map fun i => .tuple [.int (i : Int), g i] := by
  apply List.ext_getElem?
  intro i
  rw [enumD_get]
  by_cases h : i < m
  · simp [h]
  · have h2 : m ≤ i := by omega
    simp [h2]
def k02T : E := .cmp .NotEq (.call 37 (.e (.v 2) .nil)) (.lc (.v 6) (.t (.cons (.n 5) (.cons (.n 6) .nil))) (.ex (.v 3)) .nil [5, 6])
def k02B : Ss := .cons (.ite (.or (.cmp .NotEq (.call 35 (.e (.v 2) (.e (.v 4) .nil))) (.v 5)) (.cons (.not (.call 38 (.e (.call 34 (.e (.v 2) (.e (.v 4) .nil))) (.e (.v 6) .nil)))) .nil)) (.cons (.ret (.k (.bool false))) .nil) .nil)
  (.cons (.ite (.or (.cmp .NotEq (.call 35 (.e (.v 2) (.e (.v 6) .nil))) (.rev (.v 5))) (.cons (.cmp .NotEq (.call 34 (.e (.v 2) (.e (.v 6) .nil))) (.v 4)) .nil)) (.cons (.ret (.k (.bool false))) .nil) .nil) .nil)
theorem df45_body : df45.body = .cons (.as true 1 (.lst .nil)) (.cons (.as false 2 (.call 17 (.s 0 (.r 1 (.e (.k (.int 5)) .nil))))) (.cons (.as false 3 (.call 44 (.e (.v 2) .nil))) (.cons (.ite k02T (.cons (.ret (.k (.bool false))) .nil) .nil)
  (.cons (.for_ (.t (.cons (.n 4) (.cons (.t (.cons (.n 5) (.cons (.n 6) .nil))) .nil))) (.enm (.v 3)) k02B [4, 5, 6]) (.cons (.ret (.k (.bool true))) .nil))))) := rfl
theorem arcs_ne (l : List Arc) : cmpD .NotEq (.list (l.map arcD)) (.list (l.map arcD)) = some false := by
  have := (enc_arc.lst).cmpNe (by decide) l l
  rw [decide_eq_true rfl] at this
  exact this
theorem k02_law (ns : List Int) (hn : ns.length ≤ 63) (n : Nat) : ∃ ρ, evF tbl (n + 10) 45 [.sc ns] = .ok (.bool true) ρ := by
  obtain ⟨rows, t1, _, ht1, fo, fl⟩ := ex_floor hn 0 (by omega) 5 (by decide) (by decide)
  have f := Flo.of (by decide) fo
  have es := ends_small f
  have c17 := fun ρ hi hj => callFl (cf := evF tbl (n + 9)) (by have := fl (n + 5); simpa using this) (ρ := ρ) (i := 0) (j := 1) hi hj
  have c44 := callP1 (sp_lways f (n + 6))
  have c37 := callP1 (sp_partners f (n + 2))
  have wlen : (ways rows).length = (fr rows).ends := by unfold ways; simp
  refine ⟨[.un], ?_⟩
  rw [un45]
  have l1 : ev (evF tbl (n + 9)) (.lc (.v 6) (.t (.cons (.n 5) (.cons (.n 6) .nil))) (.ex (.v 3)) .nil [5, 6]) [.sc ns, .mu (.l (zs t1)), .im (flD rows), .im (.list ((ways rows).map wayPD)), .un, .un, .un] = .ok (.list ((List.range (fr rows).ends).map fun e => .int (prt rows e : Nat))) [.sc ns, .mu (.l (zs t1)), .im (flD rows), .im (.list ((ways rows).map wayPD)), .un, .un, .un] := by
    refine ev_lcx _ _ _ _ _ _ _ (xs := (ways rows).map wayPD) (by simp [itemsD]) rfl ?_ rfl
    have := lc_mp (f := lcF (evF tbl (n + 9)) (.v 6) (.t (.cons (.n 5) (.cons (.n 6) .nil))) .nil) (w := forget [5, 6]) (ρ0 := [.sc ns, .mu (.l (zs t1)), .im (flD rows), .im (.list ((ways rows).map wayPD)), .un, .un, .un]) wayPD (fun p => .int (p.2 : Nat)) (ways rows) (fun p _ => by
      unfold turnR
      rw [lcF_t]
      simp [wayPD])
    rw [show forget [5, 6] [S.sc ns, .mu (.l (zs t1)), .im (flD rows), .im (.list ((ways rows).map wayPD)), .un, .un, .un] = [.sc ns, .mu (.l (zs t1)), .im (flD rows), .im (.list ((ways rows).map wayPD)), .un, .un, .un] from rfl, this]
    unfold ways
    rw [List.map_map]
    rfl
  have ce : cmpD .NotEq (.list ((List.range (fr rows).ends).map fun e => .int (prt rows e : Nat))) (.list ((List.range (fr rows).ends).map fun e => .int (prt rows e : Nat))) = some false := by
    have := (enc_nat.lst).cmpNe (by decide) ((List.range (fr rows).ends).map (prt rows)) ((List.range (fr rows).ends).map (prt rows))
    rw [List.map_map, decide_eq_true rfl] at this
    exact this
  have lp := for_all (f := forF (evF tbl (n + 9)) (.t (.cons (.n 4) (.cons (.t (.cons (.n 5) (.cons (.n 6) .nil))) .nil))) k02B) (w := forget [4, 5, 6]) (fun e : Nat => .tuple [.int (e : Int), wayPD (wayP rows e)]) (fun p => [.sc ns, .mu (.l (zs t1)), .im (flD rows), .im (.list ((ways rows).map wayPD)), .un, .un, .un]) (List.range (fr rows).ends) (fun p e q eq => by
    have he : e < (fr rows).ends := List.mem_range.mp (by rw [eq]; simp)
    obtain ⟨pe, _⟩ := prt_pl f he
    obtain ⟨pp, rv⟩ := prt_prt f he
    have w1 := callP2 (sp_way f (n + 3) he)
    have w2 := callP2 (sp_way f (n + 3) pe)
    have p1 := callP2 (sp_partner f (n + 3) he)
    have p2 := callP2 (sp_partner f (n + 3) pe)
    have sn := callP2 (sp_same_number f (n + 8) (prt rows e) (prt rows e))
    rw [pp] at p2
    rw [rv] at w2
    have a1 := arcs_ne (wayA rows e)
    have a2 := arcs_ne (wayA rows e).reverse
    rw [List.map_reverse] at w2 a2
    unfold turnR
    rw [forF_eq]
    simp [wayPD, wayP, arcsL, k02B, w1, w2, p1, p2, sn, a1, a2, revD])
  have en : enumD 0 ((ways rows).map wayPD) = (List.range (fr rows).ends).map (fun e : Nat => .tuple [.int (e : Int), wayPD (wayP rows e)]) := by
    have := enum_range (g := fun e => wayPD (wayP rows e)) (fr rows).ends
    unfold ways
    rw [List.map_map]
    exact this
  rw [← en] at lp
  have z0 : ([] : List PyData) = zs 0 := rfl
  rw [df45_body, seq_nx _ _ _ _ [.sc ns, .mu (.l (zs 0)), .un, .un, .un, .un, .un] (by simp [ownD]; rfl),
    seq_nx _ _ _ _ [.sc ns, .mu (.l (zs t1)), .im (flD rows), .un, .un, .un, .un] (by simp [c17]),
    seq_nx _ _ _ _ [.sc ns, .mu (.l (zs t1)), .im (flD rows), .im (.list ((ways rows).map wayPD)), .un, .un, .un] (by simp [c44]),
    seq_nx _ _ _ _ [.sc ns, .mu (.l (zs t1)), .im (flD rows), .im (.list ((ways rows).map wayPD)), .un, .un, .un] (by unfold k02T; simp [-ev_lc, c37, l1, ce]),
    seq_nx _ _ _ _ [.sc ns, .mu (.l (zs t1)), .im (flD rows), .im (.list ((ways rows).map wayPD)), .un, .un, .un] (by simp [lp])]
  simp
end AF

namespace AF
/-! # rings, in plain Lean -/
/-- those of l that are new behind those of S -/
def addS {α : Type} [DecidableEq α] (S l : List α) : List α := l.foldl (fun S x => if x ∈ S then S else S ++ [x]) S
theorem mem_addS {α : Type} [DecidableEq α] {x : α} : ∀ {l S : List α}, x ∈ addS S l ↔ x ∈ S ∨ x ∈ l
  | [], S => by simp [addS]
  | y :: l, S => by
    unfold addS
    rw [List.foldl_cons]
    have := mem_addS (x := x) (l := l) (S := if y ∈ S then S else S ++ [y])
    unfold addS at this
    rw [this]
    split
    · rename_i h
      constructor
      · rintro (h1 | h1)
        · exact .inl h1
        · exact .inr (List.mem_cons_of_mem _ h1)
      · rintro (h1 | h1)
        · exact .inl h1
        · rcases List.mem_cons.mp h1 with rfl | h1
          · exact .inl h
          · exact .inr h1
    · simp [or_assoc]
theorem nd_addS {α : Type} [DecidableEq α] : ∀ {l S : List α}, S.Nodup → (addS S l).Nodup
  | [], S, h => h
  | y :: l, S, h => by
    unfold addS
    rw [List.foldl_cons]
    refine nd_addS (l := l) ?_
    split
    · exact h
    · rename_i hy
      rw [List.nodup_append]
      exact ⟨h, by simp, fun a ha b hb e => by rw [List.mem_singleton.mp hb] at e; exact hy (e ▸ ha)⟩
theorem addS_len {α : Type} [DecidableEq α] : ∀ (l S : List α), (addS S l).length ≤ S.length + l.length
  | [], S => Nat.le_refl _
  | y :: l, S => by
    unfold addS
    rw [List.foldl_cons]
    have := addS_len l (if y ∈ S then S else S ++ [y])
    unfold addS at this
    refine Nat.le_trans this ?_
    split <;> simp <;> omega
theorem addS_new {α : Type} [DecidableEq α] : ∀ (l S : List α), (S ++ l).Nodup → addS S l = S ++ l
  | [], S, _ => by simp [addS]
  | y :: l, S, h => by
    unfold addS
    rw [List.foldl_cons]
    have hy : y ∉ S := fun z => (List.nodup_append.mp h).2.2 _ z _ List.mem_cons_self rfl
    rw [if_neg hy]
    have := addS_new l (S ++ [y]) (by simpa using h)
    unfold addS at this
    rw [this]
    simp
namespace Fr
variable {F : Fr}
/-- of a way, what follows is in it -/
theorem way_closed {q y z : Qs} (h : F.V q) (hr : F.rim q) (hy : y ∈ F.line q) (e : F.nx y = some z) : z ∈ F.line q := by
  obtain ⟨i, hi⟩ := List.getElem?_of_mem hy
  have ln := line_ln h
  cases hz : (F.line q)[i + 1]? with
  | some w =>
    have := ln.next hi hz
    rw [e] at this
    cases this
    exact List.mem_of_getElem? hz
  | none =>
    have l1 := (List.getElem?_eq_some_iff.mp hi).1
    have l2 : (F.line q).length ≤ i + 1 := by simpa using hz
    have last : (F.line q).getLast? = some y := by
      rw [List.getLast?_eq_getElem?, show (F.line q).length - 1 = i by omega]; exact hi
    rw [way_last h hr last] at e
    cases e
/-- a line that ends at the rim is part of a way -/
theorem open_way {q x : Qs} (hh : 0 < F.h) (hw : 0 < F.w) (h : F.V q) (hx : (F.line q).getLast? = some x) (hn : F.nx x = none) : ∃ e, e < F.ends ∧ F.rv q ∈ F.line (F.pl e) := by
  have hv := line_V h
  have vx := hv x (List.mem_of_getLast? hx)
  obtain ⟨e1, e2⟩ := pl_ea vx.rv (rim_rv hn)
  refine ⟨_, e2, ?_⟩
  rw [e1]
  have v1 := vx.rv
  have r1 : F.rim (F.rv x) := rim_rv hn
  obtain ⟨t, et⟩ := (line_ln v1).head
  have hd : F.rv x ∈ F.line (F.rv x) := by rw [et]; exact List.mem_cons_self
  -- back along the line
  have key : ∀ (n i : Nat) (y : Qs), i + n + 1 = (F.line q).length → (F.line q)[i]? = some y → F.rv y ∈ F.line (F.rv x) := by
    intro n
    induction n with
    | zero =>
      intro i y hi hy
      have : y = x := by
        rw [List.getLast?_eq_getElem?, show (F.line q).length - 1 = i by omega, hy] at hx
        exact Option.some.inj hx
      rw [this]; exact hd
    | succ n ih =>
      intro i y hi hy
      have h2 : (F.line q)[i + 1]? = some ((F.line q)[i + 1]'(by omega)) := by simp
      have nx := (line_ln h).next hy h2
      have := ih (i + 1) _ (by omega) h2
      exact way_closed v1 r1 this (nx_rv (hv y (List.mem_of_getElem? hy)) nx)
  obtain ⟨t', e'⟩ := (line_ln h).head
  exact key ((F.line q).length - 1) 0 q (by rw [e']; simp) (by rw [e']; rfl)
/-- the arcs of all ways -/
def inWay (F : Fr) (x : Nat × Nat × Nat) : Prop := ∃ e, e < F.ends ∧ x ∈ (F.line (F.pl e)).map F.arc
theorem not_way {q : Qs} (hh : 0 < F.h) (hw : 0 < F.w) (h : F.V q) (n : ¬ F.inWay (F.arc q)) : ∃ x, (F.line q).getLast? = some x ∧ F.nx x = some q := by
  obtain ⟨x, hx, hn⟩ := (line_ln h).last
  refine ⟨x, hx, ?_⟩
  rcases hn with hn | hn
  · obtain ⟨e, he, hm⟩ := open_way hh hw h hx hn
    exact absurd ⟨e, he, List.mem_map.mpr ⟨_, hm, arc_rv h⟩⟩ n
  · exact hn
/-- a ring's arcs do not depend on the side from which it is walked -/
theorem ring_side {p q : Qs} (hh : 0 < F.h) (hw : 0 < F.w) (hp : F.V p) (hq : F.V q) (e : F.arc p = F.arc q) (n : ¬ F.inWay (F.arc q)) (z : Nat × Nat × Nat) : z ∈ (F.line p).map F.arc ↔ z ∈ (F.line q).map F.arc := by
  rcases arc_eq hp hq e with rfl | rfl
  · exact Iff.rfl
  · obtain ⟨x, hx, hn⟩ := not_way hh hw hq n
    exact ring_arcs hq hx hn z
/-! ## all rings, one after the other -/
noncomputable def lnA (F : Fr) (q : Qs) : List (Nat × Nat × Nat) := (F.line q).map F.arc
noncomputable def srt (F : Fr) (l : List (Nat × Nat × Nat)) : List (Nat × Nat × Nat) := F.allA.filter fun x => decide (x ∈ l)
noncomputable def stR (F : Fr) (st : Nat × Nat × Nat → Qs) (s : List (Nat × Nat × Nat) × List (List (Nat × Nat × Nat))) (x : Nat × Nat × Nat) : List (Nat × Nat × Nat) × List (List (Nat × Nat × Nat)) :=
  if x ∈ s.1 then s else (addS s.1 (F.lnA (st x)), s.2 ++ [F.srt (F.lnA (st x))])
def bgA (x : Nat × Nat × Nat) : Qs := beg x.1 x.2.1 x.2.2
theorem bgA_V {x : Nat × Nat × Nat} (h : x ∈ F.allA) : F.V (bgA x) ∧ F.arc (bgA x) = x := arc_beg_mem h
theorem lnA_sub {q : Qs} (h : F.V q) : ∀ x ∈ F.lnA q, x ∈ F.allA := fun x hx => by
  obtain ⟨y, hy, rfl⟩ := List.mem_map.mp hx
  exact arc_mem (line_V h y hy)
theorem lnA_nd {q : Qs} (h : F.V q) : (F.lnA q).Nodup := line_arcs h
theorem srt_perm {q : Qs} (h : F.V q) : (F.lnA q).Perm (F.srt (F.lnA q)) := by
  refine (List.perm_ext_iff_of_nodup (lnA_nd h) (allA_nd.filter _)).mpr fun x => ?_
  rw [List.mem_filter]
  constructor
  · intro hx; exact ⟨lnA_sub h x hx, by simpa using hx⟩
  · rintro ⟨_, hx⟩; simpa using hx
theorem srt_congr {l m : List (Nat × Nat × Nat)} (h : ∀ z, z ∈ l ↔ z ∈ m) : F.srt l = F.srt m := by
  unfold srt
  congr 1
  funext x
  rw [decide_eq_decide]
  exact h x
/-- two ways to find the rings -/
theorem rings_same (hh : 0 < F.h) (hw : 0 < F.w) (st : Nat × Nat × Nat → Qs) (hst : ∀ x ∈ F.allA, F.V (st x) ∧ F.arc (st x) = x) : ∀ (xs : List (Nat × Nat × Nat)) (S S' : List (Nat × Nat × Nat)) (M : List (List (Nat × Nat × Nat))), (∀ x ∈ xs, x ∈ F.allA) →
    (∀ z, z ∈ S ↔ z ∈ S') → (∀ z, F.inWay z → z ∈ S) → (xs.foldl (F.stR st) (S, M)).2 = (xs.foldl (F.stR bgA) (S', M)).2
  | [], _, _, _, _, _, _ => rfl
  | x :: xs, S, S', M, hx, hS, hW => by
    rw [List.foldl_cons, List.foldl_cons]
    have hx0 := hx x List.mem_cons_self
    have hxs := fun y hy => hx y (List.mem_cons_of_mem _ hy)
    by_cases hm : x ∈ S
    · have hm' := (hS x).mp hm
      have e1 : F.stR st (S, M) x = (S, M) := if_pos hm
      have e2 : F.stR bgA (S', M) x = (S', M) := if_pos hm'
      rw [e1, e2]
      exact rings_same hh hw st hst xs S S' M hxs hS hW
    · have hm' : x ∉ S' := fun z => hm ((hS x).mpr z)
      obtain ⟨v1, a1⟩ := hst x hx0
      obtain ⟨v2, a2⟩ := bgA_V hx0
      have same := ring_side hh hw v1 v2 (by rw [a1, a2]) (by rw [a2]; exact fun z => hm (hW x z))
      have e1 : F.stR st (S, M) x = (addS S (F.lnA (st x)), M ++ [F.srt (F.lnA (st x))]) := if_neg hm
      have e2 : F.stR bgA (S', M) x = (addS S' (F.lnA (bgA x)), M ++ [F.srt (F.lnA (bgA x))]) := if_neg hm'
      rw [e1, e2, srt_congr (F := F) (l := F.lnA (st x)) (m := F.lnA (bgA x)) same]
      refine rings_same hh hw st hst xs _ _ _ hxs (fun z => ?_) fun z hz => ?_
      · rw [mem_addS, mem_addS, hS z]
        exact or_congr Iff.rfl (same z)
      · rw [mem_addS]; exact .inl (hW z hz)
end Fr
end AF

set_option maxHeartbeats 400000
namespace AF
open PySem L2
open PyProof.Rows hiding St
/-! ## a loop that carries a state and an invariant -/
theorem for_sti {β σ : Type} {f : PyData → En → R Fl} {w : En → En} (d : β → PyData) (emb : σ → En) (g : σ → β → σ) (I : σ → Prop) : ∀ (xs : List β) (s : σ), I s → (∀ x ∈ xs, ∀ s, I s → turnR (f (d x) (emb s)) w = .ok .nx (emb (g s x)) ∧ I (g s x)) → forLoop f w (xs.map d) (emb s) = .ok .nx (emb (xs.foldl g s)) ∧ I (xs.foldl g s)
  | [], s, i, _ => ⟨rfl, i⟩
  | x :: xs, s, i, h => by
    obtain ⟨h1, h2⟩ := h x List.mem_cons_self s i
    obtain ⟨h3, h4⟩ := for_sti d emb g I xs _ h2 fun y hy => h y (List.mem_cons_of_mem _ hy)
    exact ⟨by rw [List.map_cons, for_turn h1, h3]; rfl, h4⟩
/-! ## what was seen -/
def seenE (S : List Arc) : List (PyData × PyData) := dicE arcD PyData.bool (S.map fun x => (x, true))
theorem seen_len (S : List Arc) : (seenE S).length = S.length := by unfold seenE; rw [dicE_len, List.length_map]
theorem seen_put (S : List Arc) (x : Arc) : putD (seenE S) (arcD x) (.bool true) = seenE (addS S [x]) := by
  unfold seenE
  rw [putD_enc enc_arc]
  congr 1
  unfold addS
  rw [List.foldl_cons, List.foldl_nil]
  unfold pt
  by_cases h : x ∈ S
  · rw [if_pos h, if_pos (List.any_eq_true.mpr ⟨(x, true), List.mem_map.mpr ⟨x, h, rfl⟩, by simp⟩), List.map_map]
    apply List.map_congr_left
    intro y _
    simp only [Function.comp]
    split <;> rfl
  · rw [if_neg h, if_neg, List.map_append]
    · rfl
    · intro z
      obtain ⟨p, hp, e⟩ := List.any_eq_true.mp z
      obtain ⟨y, hy, rfl⟩ := List.mem_map.mp hp
      simp at e
      exact h (e ▸ hy)
theorem seen_fold : ∀ (l S : List Arc), (seenE l).foldl (fun acc p => putD acc p.1 p.2) (seenE S) = seenE (addS S l)
  | [], S => rfl
  | x :: l, S => by
    show (seenE l).foldl _ (putD (seenE S) (arcD x) (.bool true)) = _
    rw [seen_put, seen_fold l]
    rfl
def seenP (x : Arc) : PyData := .tuple [arcD x, .bool true]
theorem pairs_seen : ∀ (l : List Arc), pairsD (l.map seenP) = some (seenE l)
  | [] => rfl
  | x :: l => by
    show (pairsD (l.map seenP)).map ((arcD x, PyData.bool true) :: ·) = _
    rw [pairs_seen l]
    rfl
theorem dict_seen {l : List Arc} (nd : l.Nodup) (hl : l.length ≤ lim) : biD .dict (.list (l.map seenP)) = some (.dict (seenE l)) := by
  show ((pairsD (l.map seenP)).bind fun ps => if ps.all (fun p => isKey p.1) && decide (ps.length ≤ lim) then some (PyData.dict (dictOf ps)) else none) = _
  rw [pairs_seen, Option.bind_some]
  have h1 : ((seenE l).all fun p => isKey p.1) = true := by
    rw [List.all_eq_true]
    intro p hp
    unfold seenE dicE at hp
    rw [List.map_map] at hp
    obtain ⟨x, _, rfl⟩ := List.mem_map.mp hp
    exact key_arc x
  rw [h1, seen_len, if_pos (by simpa using hl)]
  have : dictOf (seenE l) = seenE (addS [] l) := seen_fold l []
  rw [this, show addS [] l = l from addS_new l [] (by simpa using nd)]
theorem in_seen (S : List Arc) (x : Arc) : inM (arcD x) (.d (seenE S)) = some (decide (x ∈ S)) := by
  show inD (arcD x) (.dict (seenE S)) = _
  show (if isKey (arcD x) then some (lookD (seenE S) (arcD x)).isSome else none) = _
  rw [if_pos (key_arc x)]
  unfold seenE
  rw [lookD_enc enc_arc, Option.isSome_map, lk_isSome, List.map_map]
  simp [Function.comp]
def arcI (x : Arc) : List Int := [(x.1 : Int), (x.2.1 : Int), (x.2.2 : Int)]
def all66 : List Arc := (List.range 6).flatMap fun d => (List.range 6).flatMap fun a => [(d, a, 0), (d, a, 1)]
def lit66 : List Nat := [6020875023874018452, 3765273034071374279, 15238817907663240716, 8639388727551865665, 9506777459788558992, 13725344206023819586, 4632661766308067606, 17647943278512064456, 241453927172423779, 12773827585031573070, 5366784799486638674, 4419363258458754057, 15678294471067948704, 5892146413122555972, 1514896372422378423, 11500385139781618426, 6389012065902869809, 6626269446301127040, 198022636232284208, 9588125421713108523, 16995168207258042919, 10112171882215667580, 15024204246680568926, 5238056188735176194, 11488266417114560942, 15706833163349821536, 18075301119249714960, 14599620281934127677, 7914604490209348423, 5100677021994648426, 3992005417721103553, 9023276094482893296, 15708291886207672550, 16966629514976170087, 10834176192727181164, 13044030442487925217, 6890806934851977647, 16676954992797370379, 2968207862363732777, 12754355920309125509, 16732089441565043326, 1850773382349085661, 13574364003718905887, 4736261319786068356, 2670781465758866039, 12456929523704258771, 1251817606729378830, 8534330451216013901, 11080834988805365409, 1934446523398631440, 15954950682285856795, 2939669170081859945, 15206497017258564712, 8671709617956541669, 10332381323778073326, 546233265832680594, 14254980396266318196, 4327882427647810791, 11734925213192745187, 1280356299011251662, 1423415541611435157, 11591865970592561692, 2499183530876809712, 6717750277112070306, 12029571682966608267, 985709829237388582, 16903687376447099653, 3888405864243102803, 2796609927481676450, 15811891439685673300, 2077505765998814935, 10937775746205181914]
def toN : Int → Nat
  | .ofNat n => 2 * n
  | .negSucc n => 2 * n + 1
def keyN (x : Arc) : Nat := toN (hashI (arcI x))
def ndB : List Nat → Bool
  | [] => true
  | x :: l => l.all (fun y => !Nat.beq x y) && ndB l
theorem ndB_nd : ∀ {l : List Nat}, ndB l = true → l.Nodup
  | [], _ => List.nodup_nil
  | x :: l, h => by
    have h : (l.all (fun y => !Nat.beq x y) && ndB l) = true := h
    rw [Bool.and_eq_true, List.all_eq_true] at h
    rw [List.nodup_cons]
    refine ⟨fun z => ?_, ndB_nd h.2⟩
    have := h.1 x z
    rw [Nat.beq_refl] at this
    cases this
theorem hash_lit : all66.map keyN = lit66 := by decide +kernel
theorem lit_nd : ndB lit66 = true := by decide +kernel
theorem hash66 : (all66.map keyN).Nodup := by rw [hash_lit]; exact ndB_nd lit_nd
theorem mapM_keys : ∀ l : List Arc, (seenE l).mapM (fun p => keyInts? p.1) = some (l.map arcI)
  | [] => rfl
  | x :: l => by
    show ((arcD x, PyData.bool true) :: seenE l).mapM (fun p => keyInts? p.1) = _
    rw [List.mapM_cons, mapM_keys l]
    rfl
theorem nodup_inj {α β : Type} {g : α → β} : ∀ {l : List α}, (l.map g).Nodup → ∀ x ∈ l, ∀ y ∈ l, g x = g y → x = y
  | [], _, x, hx, _, _, _ => by cases hx
  | z :: l, h, x, hx, y, hy, e => by
    obtain ⟨h1, h2⟩ := List.nodup_cons.mp h
    rcases List.mem_cons.mp hx with hx | hx <;> rcases List.mem_cons.mp hy with hy | hy
    · rw [hx, hy]
    · exact absurd (List.mem_map.mpr ⟨y, hy, by rw [← e, hx]⟩) h1
    · exact absurd (List.mem_map.mpr ⟨x, hx, by rw [e, hy]⟩) h1
    · exact nodup_inj h2 x hx y hy e
theorem hash_seen {l : List Arc} (nd : l.Nodup) (hs : ∀ x ∈ l, x ∈ all66) : hashOk (seenE l) = true := by
  unfold hashOk
  rw [mapM_keys]
  simp only [decide_eq_true_eq]
  rw [List.map_map, List.nodup_iff_pairwise_ne, List.pairwise_map]
  refine (List.nodup_iff_pairwise_ne.mp nd).imp_of_mem fun {x y} hx hy ne e => ne ?_
  rw [Function.comp_apply, Function.comp_apply] at e
  exact nodup_inj hash66 x (hs x hx) y (hs y hy) (by unfold keyN; rw [e])
theorem addS_mono {α : Type} [DecidableEq α] : ∀ (l S : List α), S.length ≤ (addS S l).length
  | [], S => Nat.le_refl _
  | y :: l, S => by
    have := addS_mono l (if y ∈ S then S else S ++ [y])
    show _ ≤ (addS (if y ∈ S then S else S ++ [y]) l).length
    split at this
    · rename_i h; rw [if_pos h]; exact this
    · rename_i h; rw [if_neg h]; simp at this; omega
theorem addS_gt {α : Type} [DecidableEq α] {x : α} : ∀ (l S : List α), x ∈ l → x ∉ S → S.length < (addS S l).length
  | [], S, h, _ => by cases h
  | y :: l, S, h, n => by
    show _ < (addS (if y ∈ S then S else S ++ [y]) l).length
    by_cases hy : y ∈ S
    · rw [if_pos hy]
      rcases List.mem_cons.mp h with rfl | h
      · exact absurd hy n
      · exact addS_gt l S h n
    · rw [if_neg hy]
      have := addS_mono l (S ++ [y])
      simp at this; omega
theorem sub_len {S A : List Arc} (nd : S.Nodup) (na : A.Nodup) (h : ∀ x ∈ S, x ∈ A) : S.length ≤ A.length := by
  have p : S.Perm (A.filter fun x => decide (x ∈ S)) := by
    refine (List.perm_ext_iff_of_nodup nd (na.filter _)).mpr fun x => ?_
    rw [List.mem_filter]
    constructor
    · intro hx; exact ⟨h x hx, by simpa using hx⟩
    · rintro ⟨_, hx⟩; simpa using hx
  rw [p.length_eq]
  exact List.length_filter_le _ _
/-! ## sorted ints, the greatest -/
theorem alike_int (x y : Int) : PySem.W.alike (.int x) (.int y) = true := by simp [PySem.W.alike]
theorem sort_ints (l : List Int) (h : l.length ≤ lim) : ∃ m : List Int, m.length = l.length ∧ biD .sorted (.list (l.map .int)) = some (.list (m.map .int)) := by
  refine ⟨l.mergeSort (fun a b => leD (.int a) (.int b)), by rw [List.length_mergeSort], ?_⟩
  show (if sortOk (l.map .int) then some (PyData.list (sortD (l.map .int))) else none) = _
  have so : sortOk (l.map PyData.int) = true := by
    unfold sortOk
    have h1 := enc_int.all (n := 7) (by decide) l
    have h2 : ((l.map PyData.int).all fun x => (l.map PyData.int).all (PySem.W.alike x)) = true := by
      simp only [List.all_eq_true, List.mem_map]
      rintro _ ⟨x, _, rfl⟩ _ ⟨y, _, rfl⟩
      exact alike_int x y
    have h3 : ((l.map PyData.int).all fun | .int _ => true | _ => false) = true := by
      simp only [List.all_eq_true, List.mem_map]
      rintro _ ⟨x, _, rfl⟩
      rfl
    rw [h1, h2]
    simp only [Bool.true_and, Bool.and_eq_true, Bool.or_eq_true, decide_eq_true_eq, List.length_map]
    exact ⟨.inr h3, h⟩
  rw [so, if_pos rfl]
  congr 2
  unfold sortD
  rw [List.map_mergeSort]
  intro a _ b _
  rfl
theorem ints_map : ∀ l : List Int, intsD (l.map .int) = some l
  | [] => rfl
  | x :: l => by
    show (intsD (l.map .int)).map (x :: ·) = _
    rw [ints_map l]; rfl
theorem maxF : ∀ (l : List Int) (m : Int), (l.foldl (fun a b => if a < b then b else a) m ∈ m :: l) ∧ ∀ x ∈ m :: l, x ≤ l.foldl (fun a b => if a < b then b else a) m
  | [], m => ⟨List.mem_cons_self, fun x hx => by simp at hx; rw [hx]; exact Int.le_refl _⟩
  | y :: l, m => by
    rw [List.foldl_cons]
    obtain ⟨h1, h2⟩ := maxF l (if m < y then y else m)
    refine ⟨?_, fun x hx => ?_⟩
    · rcases List.mem_cons.mp h1 with h1 | h1
      · rw [h1]; split <;> simp
      · exact List.mem_cons_of_mem _ (List.mem_cons_of_mem _ h1)
    · have h3 := h2 _ List.mem_cons_self
      rcases List.mem_cons.mp hx with rfl | hx
      · refine Int.le_trans ?_ h3; split <;> omega
      · rcases List.mem_cons.mp hx with rfl | hx
        · refine Int.le_trans ?_ h3; split <;> omega
        · exact h2 x (List.mem_cons_of_mem _ hx)
theorem max_spec {l : List Int} {m : Int} (h : maxL l = some m) : m ∈ l ∧ ∀ x ∈ l, x ≤ m := by
  cases l with
  | nil => cases h
  | cons a l => cases h; exact maxF l a
theorem max_some {l : List Int} (h : l ≠ []) : ∃ m, maxL l = some m := by
  cases l with
  | nil => exact absurd rfl h
  | cons a l => exact ⟨_, rfl⟩
theorem max_congr {l k : List Int} (h : ∀ x, x ∈ l ↔ x ∈ k) {m m' : Int} (e : maxL l = some m) (e' : maxL k = some m') : m = m' := by
  obtain ⟨a, b⟩ := max_spec e
  obtain ⟨c, d⟩ := max_spec e'
  have := b _ ((h _).mpr c)
  have := d _ ((h _).mp a)
  omega
theorem max_ints (l : List Int) : biD .max (.list (l.map .int)) = (maxL l).map PyData.int := by
  show ((intsD (l.map .int)).bind fun ns => (maxL ns).map PyData.int) = _
  rw [ints_map]; rfl
/-! ## rings: the program's -/
theorem sp_sqs_of (n : Nat) {rows : List (List Bool)} (h : FlOk 6 rows) : evF tbl (n + 1) 46 [.im (flD rows)] = .ok (.list ((sqs rows.length (wd rows)).map sqD)) [.un] := by
  have := sp_squares n h
  rw [un18] at this
  rw [un46]
  exact this
def rgS (rows : List (List Bool)) (S : List Arc) : Prop := S.Nodup ∧ ∀ x ∈ S, x ∈ (fr rows).allA
section
variable {rows : List (List Bool)} (f : Flo rows)
include f
theorem rgS_len {S : List Arc} (h : rgS rows S) : S.length ≤ 72 := Nat.le_trans (sub_len h.1 Fr.allA_nd h.2) (allA_len f)
theorem in66 {x : Arc} (h : x ∈ (fr rows).allA) : x ∈ all66 := by
  obtain ⟨d, a, m⟩ := x
  have h := Fr.mem_allA.mp h
  have h1 : d < rows.length := h.1
  have h2 : a < wd rows := h.2.1
  have h3 : m < 2 := h.2.2
  have := f.h2
  have := f.w2
  refine List.mem_flatMap.mpr ⟨d, List.mem_range.mpr (by omega), List.mem_flatMap.mpr ⟨a, List.mem_range.mpr (by omega), ?_⟩⟩
  have : m = 0 ∨ m = 1 := by omega
  rcases this with rfl | rfl <;> simp
omit f in
theorem rgS_add {S : List Arc} {l : List Arc} (h : rgS rows S) (hl : ∀ x ∈ l, x ∈ (fr rows).allA) : rgS rows (addS S l) := by
  refine ⟨nd_addS h.1, fun x hx => ?_⟩
  rcases mem_addS.mp hx with hx | hx
  · exact h.2 x hx
  · exact hl x hx
/-- seen.update(dict(..)) -/
theorem upd_ok {S l : List Arc} (h : rgS rows S) (nd : l.Nodup) (hl : ∀ x ∈ l, x ∈ (fr rows).allA) (cf : CallF) (ρ : En) (i : Nat) (e : E) (hi : ρ[i]? = some (.mu (.d (seenE S)))) (he : ev cf e ρ = .ok (.dict (seenE l)) ρ) :
    evS cf (.upd i e) ρ = .ok .nx (ρ.set i (.mu (.d (seenE (addS S l))))) := by
  have h1 := rgS_len f h
  have h2 := rgS_len f (S := l) ⟨nd, hl⟩
  have h3 := hash_seen nd fun x hx => in66 f (hl x hx)
  have hd : getD ρ i = some (seenE S) := by unfold getD; simp [hi, getM]
  have hm : getM ρ i = some (.d (seenE S)) := by unfold getM; simp [hi]
  have l1 : (seenE S).length + (seenE l).length < lim := by rw [seen_len, seen_len]; unfold lim; omega
  have pm : putM ρ i (.d (seenE (addS S l))) = some (ρ.set i (.mu (.d (seenE (addS S l))))) := by unfold putM; simp [hi]
  rw [evS_upd, hd, he]
  simp [hm, l1, h3, seen_fold, pm]
theorem dic_lc {l : List Arc} (nd : l.Nodup) (hl : ∀ x ∈ l, x ∈ (fr rows).allA) (cf : CallF) (ρ : En) (i : Nat) (it : It) (hi : evIt cf it ρ = .ok (l.map arcD) ρ) (hc : cleanAt ρ [i] = true) (hf : forget [i] ρ = ρ) (hr : restore [i] ρ ρ = ρ) (hs : ∀ d, ∃ ρ', setS ρ i (.im d) = some ρ' ∧ getI ρ' i = some d ∧ forget [i] ρ' = ρ) :
    ev cf (.bi .dict (.lc (.tup (.cons (.v i) (.cons (.k (.bool true)) .nil))) (.n i) it .nil [i])) ρ = .ok (.dict (seenE l)) ρ := by
  have h2 := rgS_len f (S := l) ⟨nd, hl⟩
  have lc : ev cf (.lc (.tup (.cons (.v i) (.cons (.k (.bool true)) .nil))) (.n i) it .nil [i]) ρ = .ok (.list (l.map seenP)) ρ := by
    refine ev_lcx _ _ _ _ _ _ _ hi hc ?_ (by rw [hf]; exact hr)
    rw [hf]
    refine lc_mp _ _ _ fun x _ => ?_
    obtain ⟨ρ', s1, s2, s3⟩ := hs (arcD x)
    unfold turnR
    rw [lcF_t]
    have s4 : List.set ρ' i S.un = ρ := s3
    simp [bindT, s1, s2, s4, seenP]
  rw [ev_bi, lc, R.bind_ok, dict_seen nd (by unfold lim; omega)]
  rfl
end
end AF

set_option maxHeartbeats 400000
namespace AF
open PySem L2
open PyProof.Rows hiding St
/-! ## rings: the program's and the law's -/
abbrev RSt := List Arc × List (List Arc)
noncomputable def S0 (rows : List (List Bool)) : List Arc := (List.range (fr rows).ends).foldl (fun S e => addS S (wayA rows e)) []
noncomputable def rings (rows : List (List Bool)) : List (List Arc) := ((fr rows).allA.foldl ((fr rows).stR Fr.bgA) (S0 rows, [])).2
def RI (rows : List (List Bool)) (s : RSt) : Prop := rgS rows s.1 ∧ s.2.length ≤ s.1.length ∧ ∀ r ∈ s.2, r.length ≤ 72
def dcB (i : Nat) (e : E) : E := .bi .dict (.lc (.tup (.cons (.v i) (.cons (.k (.bool true)) .nil))) (.n i) (.ex e) .nil [i])
def rgB : Ss := .cons (.ite (.inM true (.tup (.cons (.ix (.v 4) (.k (.int 0))) (.cons (.ix (.v 4) (.k (.int 1))) (.cons (.v 5) .nil)))) 1) (.cons (.as false 6 (.ix (.call 32 (.e (.v 0) (.e (.v 4) (.e (.bin .Mult (.k (.int 2)) (.v 5)) .nil)))) (.k (.int 0)))) (.cons (.upd 1 (dcB 7 (.v 6))) (.cons (.app 2 (.bi .sorted (.v 6))) .nil))) .nil) .nil
theorem df47_body : df47.body = .cons (.par (.cons true 1 .dic0 (.cons true 2 (.lst .nil) .nil))) (.cons (.for_ (.n 3) (.rng1 (.call 25 (.e (.v 0) .nil))) (.cons (.upd 1 (dcB 7 (.ix (.call 33 (.e (.v 0) (.e (.v 3) .nil))) (.k (.int 0))))) .nil) [3]) (.cons (.for_ (.n 4) (.ex (.call 46 (.e (.v 0) .nil))) (.cons (.for_ (.n 5) (.rng1 (.k (.int 2))) rgB [5, 6]) .nil) [4, 5, 6]) (.cons (.frz 2) (.cons (.ret (.v 2)) .nil)))) := rfl
section
variable {rows : List (List Bool)} (f : Flo rows)
include f
theorem way_all {e : Nat} (he : e < (fr rows).ends) : (wayA rows e).Nodup ∧ ∀ x ∈ wayA rows e, x ∈ (fr rows).allA := ⟨Fr.line_arcs (pl_v f he), Fr.lnA_sub (pl_v f he)⟩
theorem S0_aux : ∀ (l : List Nat) (S : List Arc), (∀ e ∈ l, e < (fr rows).ends) → rgS rows S → rgS rows (l.foldl (fun S e => addS S (wayA rows e)) S) ∧ ∀ z, z ∈ l.foldl (fun S e => addS S (wayA rows e)) S ↔ z ∈ S ∨ ∃ e ∈ l, z ∈ wayA rows e
  | [], S, _, h => ⟨h, fun z => by simp⟩
  | e :: l, S, he, h => by
    have w := way_all f (he e List.mem_cons_self)
    obtain ⟨a, b⟩ := S0_aux l (addS S (wayA rows e)) (fun x hx => he x (List.mem_cons_of_mem _ hx)) (rgS_add h w.2)
    refine ⟨a, fun z => ?_⟩
    rw [List.foldl_cons, b, mem_addS]
    simp [or_assoc]
theorem S0_ok : rgS rows (S0 rows) := (S0_aux f _ [] (fun e he => List.mem_range.mp he) ⟨List.nodup_nil, fun _ h => by cases h⟩).1
theorem S0_way {z : Arc} : (fr rows).inWay z → z ∈ S0 rows := fun ⟨e, he, hz⟩ => ((S0_aux f _ [] (fun e he => List.mem_range.mp he) ⟨List.nodup_nil, fun _ h => by cases h⟩).2 z).mpr (.inr ⟨e, List.mem_range.mpr he, hz⟩)
theorem srt_arcs {q : Qs} (vq : (fr rows).V q) : biD .sorted (.list (((fr rows).lnA q).map arcD)) = some (.list (((fr rows).srt ((fr rows).lnA q)).map arcD)) := by
  refine sorted_arcs _ _ ?_ (Fr.srt_perm vq) (Fr.allA_lt.filter _)
  have := rgS_len f (S := (fr rows).lnA q) ⟨Fr.lnA_nd vq, Fr.lnA_sub vq⟩
  unfold lim; omega
theorem srt_len {q : Qs} (vq : (fr rows).V q) : ((fr rows).srt ((fr rows).lnA q)).length ≤ 72 := by
  rw [← (Fr.srt_perm vq).length_eq]
  exact rgS_len f (S := (fr rows).lnA q) ⟨Fr.lnA_nd vq, Fr.lnA_sub vq⟩
theorem st_ok (st : Arc → Qs) {x : Arc} (hv : (fr rows).V (st x)) (hx : (fr rows).arc (st x) = x) {s : RSt} (i : RI rows s) : RI rows ((fr rows).stR st s x) := by
  unfold Fr.stR
  by_cases h : x ∈ s.1
  · rw [if_pos h]; exact i
  · rw [if_neg h]
    refine ⟨rgS_add i.1 (Fr.lnA_sub hv), ?_, fun r hr => ?_⟩
    · have : x ∈ (fr rows).lnA (st x) := by
        obtain ⟨t, e⟩ := (Fr.line_ln hv).head
        unfold Fr.lnA
        rw [e, List.map_cons, hx]
        exact List.mem_cons_self
      have := addS_gt _ _ this h
      have := i.2.1
      simp
      omega
    · rcases List.mem_append.mp hr with hr | hr
      · exact i.2.2 r hr
      · rw [List.mem_singleton.mp hr]; exact srt_len f hv
theorem rg_turn (n : Nat) {d a m : Nat} (hx : (d, a, m) ∈ (fr rows).allA) {s : RSt} (i : RI rows s) :
    turnR (forF (evF tbl (n + 4)) (.n 5) rgB (.int (m : Int)) [.im (flD rows), .mu (.d (seenE s.1)), .mu (.l (s.2.map arcsL)), .un, .im (sqD (d, a)), .un, .un, .un]) (forget [5, 6]) =
      .ok .nx [.im (flD rows), .mu (.d (seenE ((fr rows).stR Fr.bgA s (d, a, m)).1)), .mu (.l (((fr rows).stR Fr.bgA s (d, a, m)).2.map arcsL)), .un, .im (sqD (d, a)), .un, .un, .un] := by
  have ins := in_seen s.1 (d, a, m)
  obtain ⟨v, e⟩ := Fr.bgA_V hx
  have hm : m < 2 := (Fr.mem_allA.mp hx).2.2
  obtain ⟨y, hy, sw⟩ := sp_walk f n v
  have c := callP3 sw
  have l72 := rgS_len f i.1
  have l2 := i.2.1
  have so := srt_arcs f v
  have lM : s.2.length < lim := by unfold lim; omega
  have up := upd_ok f i.1 (l := (fr rows).lnA (Fr.bgA (d, a, m))) (Fr.lnA_nd v) (Fr.lnA_sub v) (evF tbl (n + 4)) [.im (flD rows), .mu (.d (seenE s.1)), .mu (.l (s.2.map arcsL)), .un, .im (sqD (d, a)), .im (.int (m : Int)), .im (.list (((fr rows).lnA (Fr.bgA (d, a, m))).map arcD)), .un] 1 (dcB 7 (.v 6)) rfl
    (dic_lc f (Fr.lnA_nd v) (Fr.lnA_sub v) _ _ 7 (.ex (.v 6)) (by simp [itemsD]) rfl rfl rfl (fun d => ⟨_, rfl, rfl, rfl⟩))
  unfold turnR
  rw [forF_eq]
  have key : PyData.tuple [.int d, .int a, .int m] = arcD (d, a, m) := rfl
  unfold Fr.stR
  by_cases h : (d, a, m) ∈ s.1
  · simp [h] at ins
    rw [if_pos h]
    simp [rgB, sqD, key, ins]
  · simp [h] at ins
    rw [if_neg h]
    have c' : callR (evF tbl (n + 4)) 32 [.d (flD rows), .d (.tuple [.int d, .int a]), .d (.int (2 * m))] [.im (flD rows), .mu (.d (seenE s.1)), .mu (.l (s.2.map arcsL)), .un, .im (.tuple [.int d, .int a]), .im (.int (m : Int)), .un, .un] = .ok (.tuple [.list ((lnA rows (Fr.bgA (d, a, m))).map arcD), sqD (y.d, y.a), .int ((fr rows).out y)]) _ := c _
    have so2 : biD .sorted (.list (((fr rows).lnA (Fr.bgA (d, a, m))).map arcD)) = some (arcsL ((fr rows).srt ((fr rows).lnA (Fr.bgA (d, a, m))))) := so
    have so' : biD .sorted (.list ((lnA rows (Fr.bgA (d, a, m))).map arcD)) = some (arcsL ((fr rows).srt ((fr rows).lnA (Fr.bgA (d, a, m))))) := so
    have up' : evS (evF tbl (n + 4)) (.upd 1 (dcB 7 (.v 6))) [.im (flD rows), .mu (.d (seenE s.1)), .mu (.l (s.2.map arcsL)), .un, .im (.tuple [.int d, .int a]), .im (.int (m : Int)), .im (.list ((lnA rows (Fr.bgA (d, a, m))).map arcD)), .un] = _ := up
    have sm : small 2 = true := by decide
    simp [-evS_upd, rgB, sqD, key, ins, c', up', so', so2, lM, sm]
theorem sp_rings_of (n : Nat) : evF tbl (n + 6) 47 [.im (flD rows)] = .ok (.list ((rings rows).map arcsL)) [.un] ∧ RI rows ((fr rows).allA.foldl ((fr rows).stR Fr.bgA) (S0 rows, [])) := by
  have es := ends_small f
  have c1 := callP1 (sp_ends f (n + 4))
  have c2 := callP1 (sp_sqs_of (n + 4) f.ok)
  obtain ⟨lp1, i1⟩ := for_sti (f := forF (evF tbl (n + 5)) (.n 3) (.cons (.upd 1 (dcB 7 (.ix (.call 33 (.e (.v 0) (.e (.v 3) .nil))) (.k (.int 0))))) .nil)) (w := forget [3]) (fun e : Nat => .int (e : Int)) (fun S => [.im (flD rows), .mu (.d (seenE S)), .mu (.l []), .un, .un, .un, .un, .un]) (fun S e => addS S (wayA rows e)) (rgS rows) (List.range (fr rows).ends) [] ⟨List.nodup_nil, fun _ h => by cases h⟩ (fun e he S i => by
    have he := List.mem_range.mp he
    have w := way_all f he
    refine ⟨?_, rgS_add i w.2⟩
    have c3 := callP2 (sp_way_of f n he)
    have up := upd_ok f i w.1 w.2 (evF tbl (n + 5)) [.im (flD rows), .mu (.d (seenE S)), .mu (.l []), .im (.int (e : Int)), .un, .un, .un, .un] 1 (dcB 7 (.ix (.call 33 (.e (.v 0) (.e (.v 3) .nil))) (.k (.int 0)))) rfl
      (dic_lc f w.1 w.2 _ _ 7 _ (by simp [c3, itemsD]) rfl rfl rfl (fun d => ⟨_, rfl, rfl, rfl⟩))
    unfold turnR
    rw [forF_eq]
    simp [-evS_upd, up])
  obtain ⟨lp2, i2⟩ := for_sti (f := forF (evF tbl (n + 5)) (.n 4) (.cons (.for_ (.n 5) (.rng1 (.k (.int 2))) rgB [5, 6]) .nil)) (w := forget [4, 5, 6]) sqD (fun s : RSt => [.im (flD rows), .mu (.d (seenE s.1)), .mu (.l (s.2.map arcsL)), .un, .un, .un, .un, .un]) (fun s x => (two x).foldl ((fr rows).stR Fr.bgA) s) (RI rows) (sqs rows.length (wd rows)) (S0 rows, []) ⟨S0_ok f, by simp, by simp⟩ (fun x hx s i => by
    obtain ⟨d, a⟩ := x
    have hin : InB rows.length (wd rows) (d, a) := sqs_in hx
    have m0 : (d, a, 0) ∈ (fr rows).allA := Fr.mem_allA.mpr ⟨hin.1, hin.2, by simp⟩
    have m1 : (d, a, 1) ∈ (fr rows).allA := Fr.mem_allA.mpr ⟨hin.1, hin.2, by simp⟩
    have t0 := rg_turn f (n + 1) m0 i
    have i1 := st_ok f Fr.bgA (Fr.bgA_V m0).1 (Fr.bgA_V m0).2 i
    have t1 := rg_turn f (n + 1) m1 i1
    have i2 := st_ok f Fr.bgA (Fr.bgA_V m1).1 (Fr.bgA_V m1).2 i1
    refine ⟨?_, i2⟩
    unfold turnR
    rw [forF_eq]
    have rg : rangeD 0 2 = [.int ((0 : Nat) : Int), .int ((1 : Nat) : Int)] := rfl
    simp [rg]
    have t0' := for_turn (xs := [.int ((1 : Nat) : Int)]) t0
    have t1' := for_turn (xs := []) t1
    simp at t0' t1'
    rw [t0', t1']
    simp [forLoop, two])
  have e1 : (sqs rows.length (wd rows)).foldl (fun s x => (two x).foldl ((fr rows).stR Fr.bgA) s) (S0 rows, []) = (fr rows).allA.foldl ((fr rows).stR Fr.bgA) (S0 rows, []) := by
    rw [allA_eq, List.foldl_flatMap]
  rw [e1] at lp2 i2
  refine ⟨?_, i2⟩
  have eb : ((fr rows).ends : Int) ≤ 1000000 ∧ -1000000 ≤ ((fr rows).ends : Int) := by omega
  have s0 : ((List.range (fr rows).ends).foldl (fun S e => addS S (wayA rows e)) []) = S0 rows := rfl
  rw [s0] at lp1
  have z : seenE [] = [] := rfl
  rw [z] at lp1
  simp only [List.map_nil] at lp2
  rw [un47, df47_body]
  simp [setAll, ownD, c1, c2, eb, rng_nat f, lp1, itemsD, lp2, M.toD, rings]
end
end AF

set_option maxHeartbeats 400000
namespace AF
open PySem L2
open PyProof.Rows hiding St
/-! ## rings, lengths, the longest line; k03 -/
/-- where the law starts -/
def stL (F : Fr) (x : Arc) : Qs := if Fr.side (Fr.bgA x) = (F.mids x).1 then Fr.bgA x else F.rv (Fr.bgA x)
theorem stL_ok {F : Fr} {x : Arc} (h : x ∈ F.allA) : F.V (stL F x) ∧ F.arc (stL F x) = x ∧ Fr.side (stL F x) = (F.mids x).1 := by
  obtain ⟨v, e⟩ := Fr.bgA_V h
  unfold stL
  split
  · rename_i z; exact ⟨v, e, z⟩
  · rename_i z
    refine ⟨v.rv, by rw [Fr.arc_rv v, e], ?_⟩
    have m := Fr.mids_arc v
    rw [e] at m
    rcases m with m | m
    · rw [m] at z; exact absurd rfl z
    · rw [m]
def lrB : Ss := .cons (.ite (.inM true (.v 7) 2) (.cons (.as false 5 (.ix (.call 43 (.e (.v 1) (.e (.v 4) (.e (.ix (.ix (.v 1) (.v 7)) (.k (.int 0))) (.e (.v 7) .nil))))) (.k (.int 0)))) (.cons (.upd 2 (dcB 8 (.v 5))) (.cons (.app 3 (.bi .sorted (.v 5))) .nil))) .nil) .nil
theorem df51_body : df51.body = .cons (.par (.cons false 1 (.call 40 (.e (.v 0) .nil)) (.cons true 2 .dic0 (.cons true 3 (.lst .nil) .nil)))) (.cons (.as false 4 (.call 42 (.e (.v 1) .nil))) (.cons (.for_ (.t (.cons (.n 5) (.cons (.n 6) .nil))) (.ex (.call 44 (.e (.v 0) .nil))) (.cons (.upd 2 (dcB 7 (.v 5))) .nil) [5, 6, 7]) (.cons (.for_ (.n 7) (.ex (.bi .sorted (.bi .list (.v 1)))) lrB [5, 7]) (.cons (.frz 3) (.cons (.ret (.v 3)) .nil))))) := rfl
theorem len_map (l : List (List Arc)) : (l.map fun r => PyData.int (r.length : Int)) = (l.map fun r => (r.length : Int)).map PyData.int := by rw [List.map_map]; rfl
section
variable {rows : List (List Bool)} (f : Flo rows)
include f
theorem lr_turn (n : Nat) {x : Arc} (hx : x ∈ (fr rows).allA) {s : RSt} (i : RI rows s) :
    turnR (forF (evF tbl (n + 1)) (.n 7) lrB (arcD x) [.im (flD rows), .im (arcsD rows), .mu (.d (seenE s.1)), .mu (.l (s.2.map arcsL)), .im (tchD rows), .un, .un, .un, .un]) (forget [5, 7]) =
      .ok .nx [.im (flD rows), .im (arcsD rows), .mu (.d (seenE ((fr rows).stR (stL (fr rows)) s x).1)), .mu (.l (((fr rows).stR (stL (fr rows)) s x).2.map arcsL)), .im (tchD rows), .un, .un, .un, .un] := by
  have ins := in_seen s.1 x
  obtain ⟨v, e, sd⟩ := stL_ok hx
  obtain ⟨y, hy, sw⟩ := sp_lwalk f n v
  rw [e, sd] at sw
  have c := callP4 sw
  have l72 := rgS_len f i.1
  have l2 := i.2.1
  have so := srt_arcs f v
  have lM : s.2.length < lim := by unfold lim; omega
  have it := arcs_item rows hx
  have up := upd_ok f i.1 (l := (fr rows).lnA (stL (fr rows) x)) (Fr.lnA_nd v) (Fr.lnA_sub v) (evF tbl (n + 1)) [.im (flD rows), .im (arcsD rows), .mu (.d (seenE s.1)), .mu (.l (s.2.map arcsL)), .im (tchD rows), .im (.list (((fr rows).lnA (stL (fr rows) x)).map arcD)), .un, .im (arcD x), .un] 2 (dcB 8 (.v 5)) rfl
    (dic_lc f (Fr.lnA_nd v) (Fr.lnA_sub v) _ _ 8 (.ex (.v 5)) (by simp [itemsD]) rfl rfl rfl (fun d => ⟨_, rfl, rfl, rfl⟩))
  unfold turnR
  rw [forF_eq]
  unfold Fr.stR
  by_cases h : x ∈ s.1
  · simp [h] at ins
    rw [if_pos h]
    simp [lrB, ins]
  · simp [h] at ins
    rw [if_neg h]
    have so2 : biD .sorted (.list (((fr rows).lnA (stL (fr rows) x)).map arcD)) = some (arcsL ((fr rows).srt ((fr rows).lnA (stL (fr rows) x)))) := so
    have ln : lnA rows (stL (fr rows) x) = (fr rows).lnA (stL (fr rows) x) := rfl
    rw [ln] at c
    simp [-evS_upd, lrB, ins, it, midsD, c, up, so2, lM]
theorem sp_law_rings (n : Nat) : evF tbl (n + 4) 51 [.im (flD rows)] = .ok (.list ((rings rows).map arcsL)) [.un] := by
  have hh : 0 < (fr rows).h := f.h1
  have hw : 0 < (fr rows).w := f.w1
  have c1 := callP1 (sp_arcs f (n + 1))
  have c2 := callP1 (sp_at_middle (n + 2) rows (by have := allA_len f; omega))
  have c3 := callP1 (sp_lways f n)
  obtain ⟨lp1, i1⟩ := for_sti (f := forF (evF tbl (n + 3)) (.t (.cons (.n 5) (.cons (.n 6) .nil))) (.cons (.upd 2 (dcB 7 (.v 5))) .nil)) (w := forget [5, 6, 7]) (fun e => wayPD (wayP rows e)) (fun S => [.im (flD rows), .im (arcsD rows), .mu (.d (seenE S)), .mu (.l []), .im (tchD rows), .un, .un, .un, .un]) (fun S e => addS S (wayA rows e)) (rgS rows) (List.range (fr rows).ends) [] ⟨List.nodup_nil, fun _ h => by cases h⟩ (fun e he S i => by
    have he := List.mem_range.mp he
    have w := way_all f he
    refine ⟨?_, rgS_add i w.2⟩
    have up := upd_ok f i w.1 w.2 (evF tbl (n + 3)) [.im (flD rows), .im (arcsD rows), .mu (.d (seenE S)), .mu (.l []), .im (tchD rows), .im (.list ((wayA rows e).map arcD)), .im (.int (prt rows e)), .un, .un] 2 (dcB 7 (.v 5)) rfl
      (dic_lc f w.1 w.2 _ _ 7 _ (by simp [itemsD]) rfl rfl rfl (fun d => ⟨_, rfl, rfl, rfl⟩))
    unfold turnR
    rw [forF_eq]
    simp [-evS_upd, up, wayPD, wayP, arcsL])
  obtain ⟨lp2, i2⟩ := for_sti (f := forF (evF tbl (n + 3)) (.n 7) lrB) (w := forget [5, 7]) arcD (fun s : RSt => [.im (flD rows), .im (arcsD rows), .mu (.d (seenE s.1)), .mu (.l (s.2.map arcsL)), .im (tchD rows), .un, .un, .un, .un]) ((fr rows).stR (stL (fr rows))) (RI rows) (fr rows).allA (S0 rows, []) ⟨S0_ok f, by simp, by simp⟩ (fun x hx s i => ⟨lr_turn f (n + 2) hx i, st_ok f _ (stL_ok hx).1 (stL_ok hx).2.1 i⟩)
  have s0 : ((List.range (fr rows).ends).foldl (fun S e => addS S (wayA rows e)) []) = S0 rows := rfl
  have z : seenE [] = [] := rfl
  rw [s0, z] at lp1
  have same := Fr.rings_same hh hw (stL (fr rows)) (fun x hx => ⟨(stL_ok hx).1, (stL_ok hx).2.1⟩) (fr rows).allA (S0 rows) (S0 rows) [] (fun x hx => hx) (fun z => Iff.rfl) (fun z hz => S0_way f hz)
  have wy : (ways rows).map wayPD = (List.range (fr rows).ends).map fun e => wayPD (wayP rows e) := by unfold ways; rw [List.map_map]; rfl
  rw [← wy] at lp1
  have al := allA_len f
  have so := sorted_arcs (fr rows).allA _ (by unfold lim; omega) (List.Perm.refl _) (allA_srt _)
  have so1 : biD .list (arcsD rows) = some (.list ((fr rows).allA.map arcD)) := arcs_list rows _
  have c2' : ∀ ρ, callR (evF tbl (n + 3)) 42 [.d (arcsD rows)] ρ = .ok (tchD rows) ρ := c2
  have c1' : ∀ ρ, callR (evF tbl (n + 3)) 40 [.d (flD rows)] ρ = .ok (arcsD rows) ρ := c1
  simp only [List.map_nil] at lp2
  rw [un51, df51_body]
  simp [-arcsD, -tchD, setAll, ownD, c1', c2', c3, itemsD, lp1, so1, so, lp2, M.toD, same, rings]
theorem sp_rings (n : Nat) : evF tbl (n + 7) 48 [.im (flD rows)] = .ok (.list ((rings rows).map arcsL)) [.un] := by
  have c1 := cl_need f (n + 3)
  have c2 := callP1 (sp_rings_of f n).1
  rw [un48]
  simp [df48, c1, c2]
theorem rings_len : (rings rows).length ≤ 72 := by
  obtain ⟨_, i1, i2, _⟩ := sp_rings_of f 0
  have := rgS_len f i1
  unfold rings
  omega
theorem sp_lengths (n : Nat) {m : List Int} (hm : biD .sorted (.list (((rings rows).map fun r => (r.length : Int)).map .int)) = some (.list (m.map .int))) : evF tbl (n + 7) 49 [.im (flD rows)] = .ok (.list (m.map .int)) [.un] := by
  have c1 := cl_need f (n + 3)
  have c2 := callP1 (sp_rings_of f n).1
  have lc := ev_lcx (evF tbl (n + 6)) (.bi .len (.v 1)) (.n 1) (.ex (.call 47 (.e (.v 0) .nil))) .nil [1] [.im (flD rows), .un] (xs := (rings rows).map arcsL) (ys := (rings rows).map fun r => .int r.length) (by simp [c2, itemsD]) rfl (lc_mp _ _ _ fun r _ => by
    unfold turnR
    rw [lcF_t]
    simp [arcsL]) rfl
  rw [len_map] at lc
  rw [un49]
  simp [-ev_lc, df49, c1]
  rw [lc]
  simp [-List.map_map, hm]
theorem sp_longest (n : Nat) {m : Int} (hm : maxL (((List.range (fr rows).ends).map fun e => ((wayA rows e).length : Int)) ++ ((rings rows).map fun r => (r.length : Int))) = some m) : evF tbl (n + 7) 50 [.im (flD rows)] = .ok (.int m) [.un] := by
  have es := ends_small f
  have rl := rings_len f
  have c1 := cl_need f (n + 3)
  have c2 := callP1 (sp_rings_of f n).1
  have c3 := callP1 (sp_ends f (n + 5))
  have eb : ((fr rows).ends : Int) ≤ 1000000 ∧ -1000000 ≤ ((fr rows).ends : Int) := by omega
  have l1 := ev_lcx (evF tbl (n + 6)) (.bi .len (.ix (.call 33 (.e (.v 0) (.e (.v 2) .nil))) (.k (.int 0)))) (.n 2) (.rng1 (.call 25 (.e (.v 0) .nil))) .nil [2] [.im (flD rows), .un, .un, .un] (xs := (List.range (fr rows).ends).map fun e : Nat => .int (e : Int)) (ys := (List.range (fr rows).ends).map fun e => .int (wayA rows e).length) (by simp [c3, eb, rng_nat f]) rfl (lc_mp _ _ _ fun e he => by
    have c4 := callP2 (sp_way_of f (n + 1) (List.mem_range.mp he))
    unfold turnR
    rw [lcF_t]
    simp [c4]) rfl
  have l2 := ev_lcx (evF tbl (n + 6)) (.bi .len (.v 3)) (.n 3) (.ex (.call 47 (.e (.v 0) .nil))) .nil [3] [.im (flD rows), .im (.list (((List.range (fr rows).ends).map fun e => PyData.int (wayA rows e).length))), .un, .un] (xs := (rings rows).map arcsL) (ys := (rings rows).map fun r => .int r.length) (by simp [c2, itemsD]) rfl (lc_mp _ _ _ fun r _ => by
    unfold turnR
    rw [lcF_t]
    simp [arcsL]) rfl
  have ad : binD .Add (.list ((List.range (fr rows).ends).map fun e => PyData.int (wayA rows e).length)) (.list ((rings rows).map fun r => PyData.int r.length)) = some (.list ((((List.range (fr rows).ends).map fun e => ((wayA rows e).length : Int)) ++ ((rings rows).map fun r => (r.length : Int))).map .int)) := by
    rw [add_ll, if_pos (by simp; unfold lim; omega), List.map_append, List.map_map, List.map_map]
    rfl
  have mx := max_ints (((List.range (fr rows).ends).map fun e => ((wayA rows e).length : Int)) ++ ((rings rows).map fun r => (r.length : Int)))
  rw [hm] at mx
  rw [un50]
  simp only [df50, evSs_cons, evS_ex, ev_call, evas_e, evas_nil, ev_v, evS_as, evS_ret]
  simp [-ev_lc, c1]
  rw [l1]
  simp [-ev_lc]
  rw [l2]
  simp [-List.map_map, -List.map_append, ad, mx]
end
def k03L (i : Nat) : E := .lc (.bi .len (.v 5)) (.n 5) (.ex (.v i)) .nil [5]
def k03W : E := .lc (.bi .len (.v 5)) (.t (.cons (.n 5) (.cons (.n 6) .nil))) (.ex (.call 44 (.e (.v 2) .nil))) .nil [5, 6]
theorem df52_body : df52.body = .cons (.as true 1 (.lst .nil)) (.cons (.as false 2 (.call 17 (.s 0 (.r 1 (.e (.k (.int 6)) .nil))))) (.cons (.as false 3 (.call 51 (.e (.v 2) .nil))) (.cons (.ite (.or (.cmp .NotEq (.call 48 (.e (.v 2) .nil)) (.v 3)) (.cons (.cmp .NotEq (.call 49 (.e (.v 2) .nil)) (.bi .sorted (k03L 3))) .nil)) (.cons (.ret (.k (.bool false))) .nil) .nil) (.cons (.as false 4 (.bi .max (.bin .Add (k03L 3) k03W))) (.cons (.ret (.call 38 (.e (.call 50 (.e (.v 2) .nil)) (.e (.v 4) .nil)))) .nil))))) := rfl
theorem k03_law (ns : List Int) (hn : ns.length ≤ 63) (n : Nat) : ∃ ρ, evF tbl (n + 10) 52 [.sc ns] = .ok (.bool true) ρ := by
  obtain ⟨rows, t1, _, ht1, fo, fl⟩ := ex_floor hn 0 (by omega) 6 (by decide) (by decide)
  have f := Flo.of (by decide) fo
  have es := ends_small f
  have rl := rings_len f
  have c17 := fun ρ hi hj => callFl (cf := evF tbl (n + 9)) (by have := fl (n + 5); simpa using this) (ρ := ρ) (i := 0) (j := 1) hi hj
  have c44 := callP1 (sp_lways f (n + 6))
  have c51 := callP1 (sp_law_rings f (n + 5))
  have c48 := callP1 (sp_rings f (n + 2))
  obtain ⟨m, hml, hm⟩ := sort_ints ((rings rows).map fun r => (r.length : Int)) (by simp; unfold lim; omega)
  have c49 := callP1 (sp_lengths f (n + 2) hm)
  have e1 : fr rows = fr rows := rfl
  have ne : 0 < (fr rows).ends := by
    have := f.h1
    have h : (fr rows).h = rows.length := rfl
    unfold Fr.ends; omega
  obtain ⟨mx, hmx⟩ := max_some (l := ((List.range (fr rows).ends).map fun e => ((wayA rows e).length : Int)) ++ ((rings rows).map fun r => (r.length : Int))) (by
    intro z
    have := congrArg List.length z
    simp at this
    omega)
  obtain ⟨my, hmy⟩ := max_some (l := ((rings rows).map fun r => (r.length : Int)) ++ ((List.range (fr rows).ends).map fun e => ((wayA rows e).length : Int))) (by
    intro z
    have := congrArg List.length z
    simp at this
    omega)
  have mm := max_congr (fun x => by rw [List.mem_append, List.mem_append]; exact Or.comm) hmx hmy
  have c50 := callP1 (sp_longest f (n + 2) hmx)
  have sn := callP2 (sp_same_number f (n + 8) mx my)
  rw [decide_eq_true mm] at sn
  have l1 : ∀ s4, ev (evF tbl (n + 9)) (k03L 3) [.sc ns, .mu (.l (zs t1)), .im (flD rows), .im (.list ((rings rows).map arcsL)), s4, .un, .un] = .ok (.list (((rings rows).map fun r => (r.length : Int)).map .int)) [.sc ns, .mu (.l (zs t1)), .im (flD rows), .im (.list ((rings rows).map arcsL)), s4, .un, .un] := fun s4 => by
    rw [← len_map]
    refine ev_lcx _ _ _ _ _ _ _ (xs := (rings rows).map arcsL) (by simp [itemsD]) rfl (lc_mp _ _ _ fun r _ => ?_) rfl
    unfold turnR
    rw [lcF_t]
    simp [arcsL, forget]
  have l2 : ev (evF tbl (n + 9)) k03W [.sc ns, .mu (.l (zs t1)), .im (flD rows), .im (.list ((rings rows).map arcsL)), .un, .un, .un] = .ok (.list (((List.range (fr rows).ends).map fun e => ((wayA rows e).length : Int)).map .int)) [.sc ns, .mu (.l (zs t1)), .im (flD rows), .im (.list ((rings rows).map arcsL)), .un, .un, .un] := by
    rw [List.map_map]
    refine ev_lcx _ _ _ _ _ _ _ (xs := (List.range (fr rows).ends).map fun e => wayPD (wayP rows e)) (by simp [c44, itemsD, ways]) rfl (lc_mp _ _ _ fun e _ => ?_) rfl
    unfold turnR
    rw [lcF_t]
    simp [wayPD, wayP, arcsL, forget]
  have ad : binD .Add (.list (((rings rows).map fun r => (r.length : Int)).map .int)) (.list (((List.range (fr rows).ends).map fun e => ((wayA rows e).length : Int)).map .int)) = some (.list ((((rings rows).map fun r => (r.length : Int)) ++ ((List.range (fr rows).ends).map fun e => ((wayA rows e).length : Int))).map .int)) := by
    rw [add_ll, if_pos (by simp; unfold lim; omega), List.map_append]
  have mxd := max_ints (((rings rows).map fun r => (r.length : Int)) ++ ((List.range (fr rows).ends).map fun e => ((wayA rows e).length : Int)))
  rw [hmy] at mxd
  have ce1 : cmpD .NotEq (.list ((rings rows).map arcsL)) (.list ((rings rows).map arcsL)) = some false := by
    have := (enc_arcsL.lst).cmpNe (by decide) (rings rows) (rings rows)
    rw [decide_eq_true rfl] at this
    exact this
  have ce2 : cmpD .NotEq (.list (m.map .int)) (.list (m.map .int)) = some false := by
    have := (enc_int.lst).cmpNe (by decide) m m
    rw [decide_eq_true rfl] at this
    exact this
  refine ⟨[.un], ?_⟩
  rw [un52, df52_body, seq_nx _ _ _ _ [.sc ns, .mu (.l (zs 0)), .un, .un, .un, .un, .un] (by simp [ownD]; rfl),
    seq_nx _ _ _ _ [.sc ns, .mu (.l (zs t1)), .im (flD rows), .un, .un, .un, .un] (by simp [c17]),
    seq_nx _ _ _ _ [.sc ns, .mu (.l (zs t1)), .im (flD rows), .im (.list ((rings rows).map arcsL)), .un, .un, .un] (by simp [c51]),
    seq_nx _ _ _ _ [.sc ns, .mu (.l (zs t1)), .im (flD rows), .im (.list ((rings rows).map arcsL)), .un, .un, .un] (by simp [-List.map_map, c48, c49, ce1, l1, hm, ce2]),
    seq_nx _ _ _ _ [.sc ns, .mu (.l (zs t1)), .im (flD rows), .im (.list ((rings rows).map arcsL)), .im (.int my), .un, .un] (by simp [-List.map_map, -List.map_append, l1, l2, ad, mxd])]
  simp [c50, sn]
end AF

namespace AF
/-! # the plane: corners, colours, ways that do not cross; in plain Lean -/
abbrev Cn := Nat × Nat
def kN (d a i : Nat) : Cn := match i with
  | 0 => (d, a)
  | 1 => (d, a + 1)
  | 2 => (d + 1, a + 1)
  | _ => (d + 1, a)
namespace Fr
variable {F : Fr}
/-- the corner on the left of who comes in -/
def lf (q : Qs) : Cn := kN q.d q.a ((q.s + 1) % 4)
def rt (q : Qs) : Cn := kN q.d q.a q.s
theorem four {s : Nat} (h : s < 4) : s = 0 ∨ s = 1 ∨ s = 2 ∨ s = 3 := by omega
/-- a line keeps a colour on its left -/
theorem left_keeps {col : Cn → Bool} (P : ∀ q, F.V q → ((col (lf q) != col (rt q)) = (col (lf (F.rv q)) != col (rt (F.rv q))))) {q : Qs} (h : F.V q) : col (lf q) = col (rt (F.rv q)) := by
  obtain ⟨d, a, s⟩ := q
  obtain ⟨h1, h2, h3⟩ := h
  simp only at h1 h2 h3
  have p := fun (t : Nat) (ht : t < 4) => P ⟨d, a, t⟩ ⟨h1, h2, ht⟩
  have p0 := p 0 (by omega)
  have p1 := p 1 (by omega)
  have p2 := p 2 (by omega)
  have p3 := p 3 (by omega)
  unfold lf rt rv out at *
  simp only at *
  rcases four h3 with rfl | rfl | rfl | rfl <;> cases hc : F.c d a <;> simp only [hc, oS, kN] at p0 p1 p2 p3 ⊢ <;>
    cases h0 : col (d, a) <;> cases h1 : col (d, a + 1) <;> cases h2 : col (d + 1, a + 1) <;> cases h3 : col (d + 1, a) <;> simp_all
theorem left_next {q r : Qs} (h : F.V q) (e : F.nx q = some r) : lf r = rt (F.rv q) := by
  obtain ⟨d, a, s⟩ := q
  unfold nx at e
  have ho := h.out
  unfold rt rv
  simp only at *
  rcases four ho with z | z | z | z <;> rw [z] at e ⊢ <;> unfold ovr at e <;> simp only at e <;> split at e <;> cases e <;> simp [lf, kN]
  all_goals omega
theorem wk_left {col : Cn → Bool} (P : ∀ q, F.V q → ((col (lf q) != col (rt q)) = (col (lf (F.rv q)) != col (rt (F.rv q))))) {first : Qs} : ∀ {q : Qs} {l : List Qs}, Wk F.nx first q l → (∀ x ∈ l, F.V x) → ∀ x ∈ l, col (lf x) = col (lf q) := by
  intro q l w
  induction w with
  | stop _ => intro _ x hx; rw [List.mem_singleton.mp hx]
  | @go q r l e ne w ih =>
    intro hv x hx
    rcases List.mem_cons.mp hx with rfl | hx
    · rfl
    · have vq := hv q List.mem_cons_self
      rw [ih (fun y hy => hv y (List.mem_cons_of_mem _ hy)) x hx, left_next vq e, ← left_keeps P vq]
theorem line_left {col : Cn → Bool} (P : ∀ q, F.V q → ((col (lf q) != col (rt q)) = (col (lf (F.rv q)) != col (rt (F.rv q))))) {q x : Qs} (h : F.V q) (hx : x ∈ F.line q) : col (lf x) = col (lf q) := wk_left P (line_ln h) (line_V h) x hx
/-! ## the other end -/
/-- e' is where the way of e ends -/
def Mate (F : Fr) (e e' : Nat) : Prop := ∃ x, (F.line (F.pl e)).getLast? = some x ∧ F.pl e' = F.rv x
theorem mate_left {col : Cn → Bool} (P : ∀ q, F.V q → ((col (lf q) != col (rt q)) = (col (lf (F.rv q)) != col (rt (F.rv q))))) (hh : 0 < F.h) (hw : 0 < F.w) {e e' : Nat} (he : e < F.ends) (m : F.Mate e e') : col (rt (F.pl e')) = col (lf (F.pl e)) := by
  obtain ⟨x, hx, e2⟩ := m
  have v := pl_V hh hw he
  have vx := line_V v x (List.mem_of_getLast? hx)
  rw [e2, ← left_keeps P vx]
  exact line_left P v (List.mem_of_getLast? hx)
/-! ## a board's colours -/
def par (v : Cn) : Bool := (v.1 + v.2) % 2 == 1
theorem par_P (q : Qs) (h : q.s < 4) : par (lf q) != par (rt q) := by
  obtain ⟨d, a, s⟩ := q
  have h : s < 4 := h
  rw [bne_iff_ne]
  rcases four h with z | z | z | z <;> subst z <;> (intro e; rw [Bool.eq_iff_iff] at e; simp [par, lf, rt, kN] at e; omega)
theorem rt_next (hh : 0 < F.h) (hw : 0 < F.w) {e : Nat} (he : e + 1 < F.ends) : rt (F.pl (e + 1)) = lf (F.pl e) := by
  unfold ends at he
  unfold pl
  repeat' split
  all_goals simp [rt, lf, kN]
  all_goals omega
theorem rt_zero (hw : 0 < F.w) : rt (F.pl 0) = (0, 0) := by
  unfold pl
  rw [if_pos hw]
  rfl
/-- n times other -/
def xf (g : Nat → Bool) : Nat → Bool
  | 0 => false
  | n + 1 => xf g n != g n
theorem rim_col (col : Cn → Bool) (hh : 0 < F.h) (hw : 0 < F.w) (h0 : col (0, 0) = false) : ∀ e, e < F.ends → col (rt (F.pl e)) = xf (fun i => col (lf (F.pl i)) != col (rt (F.pl i))) e
  | 0, _ => by rw [rt_zero hw, h0]; rfl
  | e + 1, he => by
    have ih := rim_col col hh hw h0 e (by omega)
    rw [rt_next hh hw he, xf, ← ih]
    cases col (lf (F.pl e)) <;> cases col (rt (F.pl e)) <;> rfl
theorem xf_true (g : Nat → Bool) : ∀ n, (∀ i, i < n → g i = true) → xf g n = (n % 2 == 1)
  | 0, _ => rfl
  | n + 1, h => by
    rw [xf, xf_true g n (fun i hi => h i (by omega)), h n (by omega)]
    have : n % 2 = 0 ∨ n % 2 = 1 := by omega
    rcases this with z | z
    · simp [z]; omega
    · simp [z]; omega
/-- an even and an odd number -/
theorem mate_odd (hh : 0 < F.h) (hw : 0 < F.w) {e e' : Nat} (he : e < F.ends) (he' : e' < F.ends) (m : F.Mate e e') : (e + e') % 2 = 1 := by
  have P : ∀ q, F.V q → ((par (lf q) != par (rt q)) = (par (lf (F.rv q)) != par (rt (F.rv q)))) := fun q hq => by rw [par_P q hq.2.2, par_P _ hq.rv.2.2]
  have k := mate_left P hh hw he m
  have r := fun n hn => rim_col par hh hw rfl n hn
  have t := fun n => xf_true (fun i => par (lf (F.pl i)) != par (rt (F.pl i))) n
  have a1 := r e he
  have a2 := r e' he'
  have s : ∀ n, n ≤ F.ends → ∀ i, i < n → (par (lf (F.pl i)) != par (rt (F.pl i))) = true := fun n hn i hi => par_P _ (pl_V hh hw (by omega)).2.2
  rw [t e (s e (by omega))] at a1
  rw [t e' (s e' (by omega))] at a2
  have z := par_P (F.pl e) (pl_V hh hw he).2.2
  rw [a1, ← k, a2] at z
  simp only [bne_iff_ne, ne_eq] at z
  have : e % 2 = 0 ∨ e % 2 = 1 := by omega
  have : e' % 2 = 0 ∨ e' % 2 = 1 := by omega
  rcases ‹e % 2 = 0 ∨ _› with x | x <;> rcases ‹e' % 2 = 0 ∨ _› with y | y <;> simp [x, y] at z <;> omega
/-! ## colours by what is crossed -/
def colr (cr : Bool × Nat × Nat → Bool) (v : Cn) : Bool := xf (fun k => cr (false, 0, k)) v.2 != xf (fun k => cr (true, k, v.2)) v.1
theorem colr_v (cr : Bool × Nat × Nat → Bool) (y x : Nat) : (colr cr (y, x) != colr cr (y + 1, x)) = cr (true, y, x) := by
  unfold colr
  simp only [xf]
  generalize xf (fun k => cr (false, 0, k)) x = p
  generalize xf (fun k => cr (true, k, x)) y = q
  generalize cr (true, y, x) = r
  cases p <;> cases q <;> cases r <;> rfl
section
variable {cr : Bool × Nat × Nat → Bool} (C : ∀ q, F.V q → cr (side q) = cr (side (F.rv q)))
include C
theorem even_sq {y x : Nat} (hy : y < F.h) (hx : x < F.w) : ((cr (false, y, x) != cr (false, y + 1, x)) != (cr (true, y, x) != cr (true, y, x + 1))) = false := by
  have c0 := C ⟨y, x, 0⟩ ⟨hy, hx, (by decide : (0 : Nat) < 4)⟩
  have c1 := C ⟨y, x, 1⟩ ⟨hy, hx, (by decide : (1 : Nat) < 4)⟩
  have c2 := C ⟨y, x, 2⟩ ⟨hy, hx, (by decide : (2 : Nat) < 4)⟩
  unfold side rv out sideM at *
  cases hc : F.c y x <;> simp [hc, oS] at c0 c1 c2
  · rw [c0, ← c1]
    cases cr (true, y, x) <;> cases cr (true, y, x + 1) <;> rfl
  · rw [c0, c2]
    cases cr (true, y, x) <;> cases cr (true, y, x + 1) <;> rfl
theorem colr_h {x : Nat} (hx : x < F.w) : ∀ y, y ≤ F.h → (colr cr (y, x) != colr cr (y, x + 1)) = cr (false, y, x)
  | 0, _ => by
    unfold colr
    simp only [xf]
    generalize xf (fun k => cr (false, 0, k)) x = p
    generalize cr (false, 0, x) = r
    cases p <;> cases r <;> rfl
  | y + 1, hy => by
    have ih := colr_h hx y (by omega)
    have e := even_sq C (y := y) (x := x) (by omega) hx
    have v1 := colr_v cr y x
    have v2 := colr_v cr y (x + 1)
    revert ih e v1 v2
    generalize colr cr (y, x) = a
    generalize colr cr (y + 1, x) = b
    generalize colr cr (y, x + 1) = c
    generalize colr cr (y + 1, x + 1) = d
    generalize cr (true, y, x) = p
    generalize cr (true, y, x + 1) = q
    generalize cr (false, y, x) = r
    generalize cr (false, y + 1, x) = s
    cases a <;> cases b <;> cases c <;> cases d <;> cases p <;> cases q <;> cases r <;> cases s <;> simp
theorem colr_side {q : Qs} (h : F.V q) : (colr cr (lf q) != colr cr (rt q)) = cr (side q) := by
  obtain ⟨d, a, s⟩ := q
  obtain ⟨h1, h2, h3⟩ := h
  simp only at h1 h2 h3
  have e1 := colr_h C h2 d (by omega)
  have e2 := colr_h C h2 (d + 1) (by omega)
  have e3 := colr_v cr d a
  have e4 := colr_v cr d (a + 1)
  have sw : ∀ a b : Bool, (a != b) = (b != a) := by decide
  unfold lf rt side
  simp only
  rcases four h3 with rfl | rfl | rfl | rfl <;> simp only [kN, sideM]
  · rw [sw]; exact e1
  · rw [sw]; exact e4
  · exact e2
  · exact e3
theorem colr_P (q : Qs) (h : F.V q) : ((colr cr (lf q) != colr cr (rt q)) = (colr cr (lf (F.rv q)) != colr cr (rt (F.rv q)))) := by
  rw [colr_side C h, colr_side C h.rv, C q h]
end
/-! ## what a line crosses -/
/-- with an arc the set has what goes on from it -/
def Clo (F : Fr) (A : Nat × Nat × Nat → Prop) : Prop := ∀ p q, F.V p → F.V q → side p = side q → A (F.arc p) → A (F.arc q)
open Classical in
noncomputable def crs (F : Fr) (A : Nat × Nat × Nat → Prop) (m : Bool × Nat × Nat) : Bool := decide (∃ q, F.V q ∧ side q = m ∧ A (F.arc q))
open Classical in
theorem crs_side {A : Nat × Nat × Nat → Prop} (cl : F.Clo A) {q : Qs} (h : F.V q) : F.crs A (side q) = true ↔ A (F.arc q) := by
  unfold crs
  rw [decide_eq_true_eq]
  constructor
  · rintro ⟨p, vp, e, ha⟩; exact cl p q vp h e ha
  · intro ha; exact ⟨q, h, rfl, ha⟩
theorem crs_C {A : Nat × Nat × Nat → Prop} (cl : F.Clo A) (q : Qs) (h : F.V q) : F.crs A (side q) = F.crs A (side (F.rv q)) := by
  rw [Bool.eq_iff_iff, crs_side cl h, crs_side cl h.rv, arc_rv h]
/-- a set of states that goes on and back -/
theorem clo_of (L : Qs → Prop) (h1 : ∀ y z, L y → F.nx y = some z → L z) (h2 : ∀ y z, F.V y → L z → F.nx y = some z → L y) (hv : ∀ y, L y → F.V y) : F.Clo fun x => ∃ y, L y ∧ F.arc y = x := by
  rintro p q vp vq e ⟨y, ly, ea⟩
  have vy := hv y ly
  rcases side_inj vp vq e with rfl | o
  · exact ⟨y, ly, ea⟩
  · have n1 : F.nx (F.rv p) = some q := by
      show ovr F.h F.w p.d p.a (F.out (F.rv p)) = _
      rw [out_rv vp]; exact o
    rcases arc_eq vy vp ea with z | z
    · subst z
      have n2 := nx_rv vp.rv n1
      rw [rv_rv vp] at n2
      exact ⟨F.rv q, h2 _ _ vq.rv ly n2, arc_rv vq⟩
    · subst z
      exact ⟨q, h1 _ _ ly n1, rfl⟩
theorem line_pred {q z : Qs} (h : F.V q) (hz : z ∈ F.line q) (ne : z ≠ q) : ∃ y ∈ F.line q, F.nx y = some z := by
  obtain ⟨i, hi⟩ := List.getElem?_of_mem hz
  obtain ⟨t, et⟩ := (line_ln h).head
  cases i with
  | zero => rw [et] at hi; simp at hi; exact absurd hi.symm ne
  | succ i =>
    have l1 := (List.getElem?_eq_some_iff.mp hi).1
    have e : (F.line q)[i]? = some ((F.line q)[i]'(by omega)) := by simp
    exact ⟨_, List.mem_of_getElem? e, (line_ln h).next e hi⟩
theorem lnA_iff {q : Qs} (x : Nat × Nat × Nat) : x ∈ F.lnA q ↔ ∃ y, y ∈ F.line q ∧ F.arc y = x := List.mem_map
theorem way_clo {q : Qs} (h : F.V q) (hr : F.rim q) : F.Clo fun x => x ∈ F.lnA q := by
  have := clo_of (F := F) (fun y => y ∈ F.line q) (fun y z hy e => way_closed h hr hy e) (fun y z vy hz e => by
    by_cases ne : z = q
    · rw [ne] at e; exact absurd e (nx_rim vy hr)
    · obtain ⟨y', hy', e'⟩ := line_pred h hz ne
      rw [nx_inj vy (line_V h y' hy') e e']; exact hy') (line_V h)
  exact fun a b va vb e ha => (lnA_iff _).mpr (this a b va vb e ((lnA_iff _).mp ha))
theorem ring_clo {q x : Qs} (h : F.V q) (hx : (F.line q).getLast? = some x) (hn : F.nx x = some q) : F.Clo fun x => x ∈ F.lnA q := by
  have lx := List.mem_of_getLast? hx
  have := clo_of (F := F) (fun y => y ∈ F.line q) (fun y z hy e => by
    obtain ⟨i, hi⟩ := List.getElem?_of_mem hy
    have l1 := (List.getElem?_eq_some_iff.mp hi).1
    cases hz : (F.line q)[i + 1]? with
    | some w =>
      have := (line_ln h).next hi hz
      rw [e] at this
      cases this
      exact List.mem_of_getElem? hz
    | none =>
      have l2 : (F.line q).length ≤ i + 1 := by simpa using hz
      have : y = x := by
        rw [List.getLast?_eq_getElem?, show (F.line q).length - 1 = i by omega, hi] at hx
        exact Option.some.inj hx
      rw [this, hn] at e
      cases e
      obtain ⟨t, et⟩ := (line_ln h).head
      rw [et]; exact List.mem_cons_self) (fun y z vy hz e => by
    by_cases ne : z = q
    · rw [ne] at e; rw [nx_inj vy (line_V h x lx) e hn]; exact lx
    · obtain ⟨y', hy', e'⟩ := line_pred h hz ne
      rw [nx_inj vy (line_V h y' hy') e e']; exact hy') (line_V h)
  exact fun a b va vb e ha => (lnA_iff _).mpr (this a b va vb e ((lnA_iff _).mp ha))
/-! ## ways do not cross -/
theorem xf_two {a b : Nat} (hab : a < b) : ∀ n, xf (fun i => decide (i = a ∨ i = b)) n = decide (a < n ∧ n ≤ b)
  | 0 => by simp [xf]
  | n + 1 => by
    rw [xf, xf_two hab n]
    rw [Bool.eq_iff_iff]
    simp only [bne_iff_ne, ne_eq, decide_eq_decide, decide_eq_true_eq]
    omega
theorem xf_congr {g g' : Nat → Bool} : ∀ n, (∀ i, i < n → g i = g' i) → xf g n = xf g' n
  | 0, _ => rfl
  | n + 1, h => by rw [xf, xf, xf_congr n (fun i hi => h i (by omega)), h n (by omega)]
theorem way_ends (hh : 0 < F.h) (hw : 0 < F.w) {e p i : Nat} (he : e < F.ends) (hp : p < F.ends) (m : F.Mate e p) (hi : i < F.ends) : F.arc (F.pl i) ∈ F.lnA (F.pl e) ↔ (i = e ∨ i = p) := by
  obtain ⟨x, hx, ex⟩ := m
  have v := pl_V hh hw he
  have r := pl_rim hh hw he
  have vi := pl_V hh hw hi
  have ri := pl_rim hh hw hi
  have lx := List.mem_of_getLast? hx
  have vx := line_V v x lx
  constructor
  · intro h
    obtain ⟨y, hy, ey⟩ := (lnA_iff _).mp h
    have vy := line_V v y hy
    rcases arc_eq vi vy ey.symm with z | z
    · left
      by_cases ne : y = F.pl e
      · exact pl_inj hh hw hi he (by rw [z, ne])
      · obtain ⟨y', hy', e'⟩ := line_pred v hy ne
        rw [← z] at e'
        exact absurd e' (nx_rim (line_V v y' hy') ri)
    · right
      have ny : F.nx y = none := by rw [z] at ri; exact ri
      have : y = x := by
        obtain ⟨j, hj⟩ := List.getElem?_of_mem hy
        have l1 := (List.getElem?_eq_some_iff.mp hj).1
        cases hz : (F.line (F.pl e))[j + 1]? with
        | some w => have := (line_ln v).next hj hz; rw [ny] at this; cases this
        | none =>
          have l2 : (F.line (F.pl e)).length ≤ j + 1 := by simpa using hz
          rw [List.getLast?_eq_getElem?, show (F.line (F.pl e)).length - 1 = j by omega, hj] at hx
          exact Option.some.inj hx
      exact pl_inj hh hw hi hp (by rw [z, this, ex])
  · rintro (rfl | rfl)
    · obtain ⟨t, et⟩ := (line_ln v).head
      unfold lnA
      rw [et]
      exact List.mem_cons_self
    · rw [ex, arc_rv vx]
      exact List.mem_map.mpr ⟨x, lx, rfl⟩
/-- what lies between two ends that are joined is joined there -/
theorem no_cross (hh : 0 < F.h) (hw : 0 < F.w) {e p k k' : Nat} (hp : p < F.ends) (hk' : k' < F.ends) (m : F.Mate e p) (m2 : F.Mate k k') (h1 : e < k) (h2 : k < p) (n1 : k' ≠ e) (n2 : k' ≠ p) : e < k' ∧ k' < p := by
  have he : e < F.ends := by omega
  have hk : k < F.ends := by omega
  have cl := way_clo (pl_V hh hw he) (pl_rim hh hw he)
  have C := crs_C cl
  have g : ∀ i, i < F.ends → (colr (F.crs fun x => x ∈ F.lnA (F.pl e)) (lf (F.pl i)) != colr (F.crs fun x => x ∈ F.lnA (F.pl e)) (rt (F.pl i))) = decide (i = e ∨ i = p) := fun i hi => by
    rw [colr_side C (pl_V hh hw hi), Bool.eq_iff_iff, crs_side cl (pl_V hh hw hi), decide_eq_true_eq]
    exact way_ends hh hw he hp m hi
  have z0 : colr (F.crs fun x => x ∈ F.lnA (F.pl e)) (0, 0) = false := rfl
  have col : ∀ j, j < F.ends → colr (F.crs fun x => x ∈ F.lnA (F.pl e)) (rt (F.pl j)) = decide (e < j ∧ j ≤ p) := fun j hj => by
    rw [rim_col _ hh hw z0 j hj, xf_congr j (fun i hi => g i (by omega)), xf_two (by omega)]
  have a := mate_left (colr_P C) hh hw hk m2
  have b := g k hk
  rw [show decide (k = e ∨ k = p) = false by simp; omega] at b
  have b : colr (F.crs fun x => x ∈ F.lnA (F.pl e)) (lf (F.pl k)) = colr (F.crs fun x => x ∈ F.lnA (F.pl e)) (rt (F.pl k)) := by simpa using b
  rw [b, col k hk, col k' hk', decide_eq_decide] at a
  have := a.mpr ⟨h1, by omega⟩
  omega
/-! ## how long rings are -/
theorem wk_sum {g : Qs → Int} {f : Qs → Int} (hg : ∀ y z, F.V y → F.nx y = some z → g y = f z - f y) {first : Qs} : ∀ {q : Qs} {l : List Qs}, Wk F.nx first q l → (∀ x ∈ l, F.V x) → (∀ x, l.getLast? = some x → F.nx x = some first) → (l.map g).sum = f first - f q := by
  intro q l w
  induction w with
  | @stop q h =>
    intro hv hl
    simp [hg q first (hv q List.mem_cons_self) (hl q rfl)]
  | @go q r l e ne w ih =>
    intro hv hl
    obtain ⟨t, rfl⟩ := w.head
    rw [List.map_cons, List.sum_cons, ih (fun y hy => hv y (List.mem_cons_of_mem _ hy)) (fun x hx => hl x (by rw [List.getLast?_cons_cons]; exact hx)), hg q r (hv q List.mem_cons_self) e]
    omega
theorem ring_four {q x : Qs} (h : F.V q) (hx : (F.line q).getLast? = some x) (hn : F.nx x = some q) : (F.line q).length % 4 = 0 := by
  have st : ∀ y z, F.V y → F.nx y = some z → (z.s % 2 + y.s % 2 = 1) ∧ ((z.d : Int) - y.d = (if F.out y = 2 then 1 else 0) - (if F.out y = 0 then 1 else 0)) ∧ ((y.s : Int) % 2 = (if F.out y = 2 then 1 else 0) + (if F.out y = 0 then 1 else 0)) := fun y z vy e => by
    obtain ⟨d, a, s⟩ := y
    have ho := vy.out
    have vs := vy.2.2
    simp only at vs
    have par : F.out ⟨d, a, s⟩ % 2 + s % 2 = 1 := by
      show oS (F.c d a) s % 2 + s % 2 = 1
      rcases four vs with rfl | rfl | rfl | rfl <;> cases F.c d a <;> rfl
    unfold nx at e
    simp only at *
    rcases four ho with z | z | z | z <;> rw [z] at e par ⊢ <;> unfold ovr at e <;> simp only at e <;> split at e <;> cases e <;> simp
    all_goals omega
  have lst : ∀ y, (F.line q).getLast? = some y → F.nx y = some q := fun y hy => by rw [hx] at hy; cases hy; exact hn
  have s1 := wk_sum (F := F) (g := fun y => 1 - 2 * ((y.s : Int) % 2)) (f := fun y => (y.s : Int) % 2) (fun y z vy e => by have := (st y z vy e).1; omega) (line_ln h) (line_V h) lst
  have s2 := wk_sum (F := F) (g := fun y => (if F.out y = 2 then 1 else 0) - (if F.out y = 0 then 1 else 0)) (f := fun y => (y.d : Int)) (fun y z vy e => ((st y z vy e).2.1).symm) (line_ln h) (line_V h) lst
  have nxs : ∀ y ∈ F.line q, ∃ z, F.nx y = some z := fun y hy => by
    obtain ⟨i, hi⟩ := List.getElem?_of_mem hy
    cases hz : (F.line q)[i + 1]? with
    | some w => exact ⟨w, (line_ln h).next hi hz⟩
    | none =>
      have l1 := (List.getElem?_eq_some_iff.mp hi).1
      have l2 : (F.line q).length ≤ i + 1 := by simpa using hz
      have : y = x := by
        rw [List.getLast?_eq_getElem?, show (F.line q).length - 1 = i by omega, hi] at hx
        exact Option.some.inj hx
      exact ⟨q, by rw [this]; exact hn⟩
  have lv := line_V h
  have sums : ∀ l : List Qs, (∀ y ∈ l, F.V y) → (∀ y ∈ l, ∃ z, F.nx y = some z) → ∃ a b c : Int, (l.map fun y => 1 - 2 * ((y.s : Int) % 2)).sum = l.length - 2 * c ∧ (l.map fun y => (if F.out y = 2 then (1 : Int) else 0) - (if F.out y = 0 then 1 else 0)).sum = a - b ∧ c = a + b := by
    intro l hv hz
    induction l with
    | nil => exact ⟨0, 0, 0, rfl, rfl, rfl⟩
    | cons y l ih =>
      obtain ⟨a, b, c, e1, e2, e3⟩ := ih (fun z hz => hv z (List.mem_cons_of_mem _ hz)) (fun z hz' => hz z (List.mem_cons_of_mem _ hz'))
      obtain ⟨z, ez⟩ := hz y List.mem_cons_self
      have s3 := (st y z (hv y List.mem_cons_self) ez).2.2
      refine ⟨a + (if F.out y = 2 then 1 else 0), b + (if F.out y = 0 then 1 else 0), c + (y.s : Int) % 2, ?_, ?_, by omega⟩
      · rw [List.map_cons, List.sum_cons, e1, List.length_cons]; omega
      · rw [List.map_cons, List.sum_cons, e2]; omega
  obtain ⟨a, b, c, e1, e2, e3⟩ := sums _ lv nxs
  rw [s1] at e1
  rw [s2] at e2
  omega
end Fr
end AF

namespace AF
/-! # each arc is on one line, in plain Lean -/
namespace Fr
variable {F : Fr}
theorem clo_step {A : Nat × Nat × Nat → Prop} (cl : F.Clo A) {q r : Qs} (h : F.V q) (e : F.nx q = some r) : A (F.arc q) ↔ A (F.arc r) := by
  have sd : side (F.rv q) = side r := (sideM_ovr h.out e).symm
  have vr := h.nx e
  rw [← arc_rv h]
  exact ⟨cl _ _ h.rv vr sd, cl _ _ vr h.rv sd.symm⟩
theorem clo_wk {A : Nat × Nat × Nat → Prop} (cl : F.Clo A) {first : Qs} : ∀ {q : Qs} {l : List Qs}, Wk F.nx first q l → (∀ x ∈ l, F.V x) → ∀ y ∈ l, A (F.arc q) ↔ A (F.arc y) := by
  intro q l w
  induction w with
  | stop _ => intro _ y hy; rw [List.mem_singleton.mp hy]
  | @go q r l e ne w ih =>
    intro hv y hy
    rcases List.mem_cons.mp hy with rfl | hy
    · exact Iff.rfl
    · exact (clo_step cl (hv q List.mem_cons_self) e).trans (ih (fun z hz => hv z (List.mem_cons_of_mem _ hz)) y hy)
/-- a line is in such a set, or beside it -/
theorem clo_line {A : Nat × Nat × Nat → Prop} (cl : F.Clo A) {q : Qs} (h : F.V q) : ∀ z ∈ F.lnA q, A (F.arc q) ↔ A z := fun z hz => by
  obtain ⟨y, hy, rfl⟩ := (lnA_iff _).mp hz
  exact clo_wk cl (line_ln h) (line_V h) y hy
theorem arc_lnA {q : Qs} (h : F.V q) : F.arc q ∈ F.lnA q := by
  obtain ⟨t, et⟩ := (line_ln h).head
  unfold lnA
  rw [et]
  exact List.mem_cons_self
theorem clo_or {A B : Nat × Nat × Nat → Prop} (a : F.Clo A) (b : F.Clo B) : F.Clo fun x => A x ∨ B x := fun p q vp vq e h => h.imp (a p q vp vq e) (b p q vp vq e)
theorem clo_iff {A B : Nat × Nat × Nat → Prop} (a : F.Clo A) (h : ∀ x, A x ↔ B x) : F.Clo B := fun p q vp vq e z => (h _).mp (a p q vp vq e ((h _).mpr z))
theorem clo_ways (hh : 0 < F.h) (hw : 0 < F.w) : F.Clo F.inWay := fun p q vp vq e ⟨i, hi, z⟩ => ⟨i, hi, way_clo (pl_V hh hw hi) (pl_rim hh hw hi) p q vp vq e z⟩
/-- r is the sorted arcs of a ring -/
def IsRing (F : Fr) (r : List (Nat × Nat × Nat)) : Prop := ∃ q x, F.V q ∧ (F.line q).getLast? = some x ∧ F.nx x = some q ∧ r = F.srt (F.lnA q)
structure RInv (F : Fr) (s : List (Nat × Nat × Nat) × List (List (Nat × Nat × Nat))) : Prop where
  mem : ∀ z, z ∈ s.1 ↔ F.inWay z ∨ z ∈ s.2.flatten
  nd : s.2.flatten.Nodup
  ring : ∀ r ∈ s.2, F.IsRing r
  clo : F.Clo fun z => z ∈ s.1
  off : ∀ z ∈ s.2.flatten, ¬ F.inWay z
theorem mem_srt {q : Qs} (h : F.V q) (z : Nat × Nat × Nat) : z ∈ F.srt (F.lnA q) ↔ z ∈ F.lnA q := (srt_perm h).mem_iff.symm
theorem rinv_step (hh : 0 < F.h) (hw : 0 < F.w) (st : Nat × Nat × Nat → Qs) {x : Nat × Nat × Nat} (hv : F.V (st x)) (hx : F.arc (st x) = x) {s : List (Nat × Nat × Nat) × List (List (Nat × Nat × Nat))} (i : F.RInv s) : F.RInv (F.stR st s x) ∧ x ∈ (F.stR st s x).1 ∧ ∀ z ∈ s.1, z ∈ (F.stR st s x).1 := by
  unfold stR
  by_cases h : x ∈ s.1
  · rw [if_pos h]; exact ⟨i, h, fun z hz => hz⟩
  · rw [if_neg h]
    have nw : ¬ F.inWay (F.arc (st x)) := fun z => h ((i.mem x).mpr (.inl (by rw [hx] at z; exact z)))
    obtain ⟨y, hy, hn⟩ := not_way hh hw hv nw
    have rc := ring_clo hv hy hn
    have dis : ∀ z ∈ F.lnA (st x), z ∉ s.1 := fun z hz hs => h (by have := (clo_line i.clo hv z hz).mpr hs; rw [hx] at this; exact this)
    have fl : ∀ z, z ∈ (s.2 ++ [F.srt (F.lnA (st x))]).flatten ↔ z ∈ s.2.flatten ∨ z ∈ F.lnA (st x) := fun z => by
      rw [List.flatten_append, List.mem_append, List.flatten_cons, List.flatten_nil, List.append_nil, mem_srt hv]
    refine ⟨⟨fun z => ?_, ?_, ?_, ?_, ?_⟩, ?_, ?_⟩
    · show z ∈ addS s.1 (F.lnA (st x)) ↔ _
      rw [mem_addS, i.mem, fl, or_assoc]
    · rw [List.flatten_append, List.flatten_cons, List.flatten_nil, List.append_nil, List.nodup_append]
      refine ⟨i.nd, (srt_perm hv).nodup (lnA_nd hv), fun a ha b hb e => ?_⟩
      subst e
      exact dis a ((mem_srt hv a).mp hb) ((i.mem a).mpr (.inr ha))
    · intro r hr
      rcases List.mem_append.mp hr with hr | hr
      · exact i.ring r hr
      · rw [List.mem_singleton.mp hr]; exact ⟨_, y, hv, hy, hn, rfl⟩
    · exact clo_iff (clo_or i.clo rc) fun z => mem_addS.symm
    · intro z hz
      rcases (fl z).mp hz with hz | hz
      · exact i.off z hz
      · exact fun w => dis z hz ((i.mem z).mpr (.inl w))
    · show x ∈ addS s.1 (F.lnA (st x))
      rw [mem_addS]
      right
      have := arc_lnA hv
      rw [hx] at this
      exact this
    · intro z hz
      show z ∈ addS s.1 (F.lnA (st x))
      rw [mem_addS]
      exact .inl hz
theorem rinv_fold (hh : 0 < F.h) (hw : 0 < F.w) (st : Nat × Nat × Nat → Qs) : ∀ (xs : List (Nat × Nat × Nat)) (s : List (Nat × Nat × Nat) × List (List (Nat × Nat × Nat))), (∀ x ∈ xs, F.V (st x) ∧ F.arc (st x) = x) → F.RInv s → F.RInv (xs.foldl (F.stR st) s) ∧ (∀ x ∈ xs, x ∈ (xs.foldl (F.stR st) s).1) ∧ ∀ z ∈ s.1, z ∈ (xs.foldl (F.stR st) s).1
  | [], s, _, i => ⟨i, fun _ h => (by cases h), fun _ h => h⟩
  | x :: xs, s, hx, i => by
    obtain ⟨a, b⟩ := hx x List.mem_cons_self
    obtain ⟨i1, m1, k1⟩ := rinv_step hh hw st a b i
    obtain ⟨i2, m2, k2⟩ := rinv_fold hh hw st xs _ (fun y hy => hx y (List.mem_cons_of_mem _ hy)) i1
    refine ⟨i2, fun y hy => ?_, fun z hz => k2 z (k1 z hz)⟩
    rcases List.mem_cons.mp hy with rfl | hy
    · exact k2 _ m1
    · exact m2 y hy
/-- all lines: the ways, each from its lesser end, and the rings -/
theorem all_lines (hh : 0 < F.h) (hw : 0 < F.w) (mate : Nat → Nat) (mt : ∀ e, e < F.ends → mate e < F.ends ∧ F.Mate e (mate e) ∧ mate (mate e) = e) (rv : ∀ e, e < F.ends → ∀ z, z ∈ F.lnA (F.pl e) → z ∈ F.lnA (F.pl (mate e))) {S : List (Nat × Nat × Nat)} (hS : ∀ z, z ∈ S ↔ F.inWay z) :
    ((((List.range F.ends).filter fun e => decide (e < mate e)).flatMap fun e => F.lnA (F.pl e)) ++ (F.allA.foldl (F.stR bgA) (S, [])).2.flatten).Perm F.allA ∧ ∀ r ∈ (F.allA.foldl (F.stR bgA) (S, [])).2, F.IsRing r := by
  obtain ⟨i, m, _⟩ := rinv_fold hh hw bgA F.allA (S, []) (fun x hx => bgA_V hx) ⟨fun z => by simp [hS], by simp, by simp, clo_iff (clo_ways hh hw) fun z => (hS z).symm, by simp⟩
  refine ⟨?_, i.ring⟩
  have wy : ∀ z, z ∈ (((List.range F.ends).filter fun e => decide (e < mate e)).flatMap fun e => F.lnA (F.pl e)) ↔ F.inWay z := fun z => by
    rw [List.mem_flatMap]
    constructor
    · rintro ⟨e, he, hz⟩
      exact ⟨e, List.mem_range.mp (List.mem_filter.mp he).1, hz⟩
    · rintro ⟨e, he, hz⟩
      obtain ⟨h1, h2, h3⟩ := mt e he
      have od := mate_odd hh hw he h1 h2
      by_cases lt : e < mate e
      · exact ⟨e, List.mem_filter.mpr ⟨List.mem_range.mpr he, by simpa using lt⟩, hz⟩
      · refine ⟨mate e, List.mem_filter.mpr ⟨List.mem_range.mpr h1, ?_⟩, rv e he z hz⟩
        rw [h3, decide_eq_true_eq]
        omega
  refine (List.perm_ext_iff_of_nodup ?_ allA_nd).mpr fun z => ?_
  · rw [List.nodup_append]
    refine ⟨?_, i.nd, fun a ha b hb e => ?_⟩
    · rw [List.nodup_iff_pairwise_ne, List.pairwise_flatMap]
      refine ⟨fun e he => lnA_nd (pl_V hh hw (List.mem_range.mp (List.mem_filter.mp he).1)), ?_⟩
      have nd : ((List.range F.ends).filter fun e => decide (e < mate e)).Nodup := List.nodup_range.filter _
      refine (List.nodup_iff_pairwise_ne.mp nd).imp_of_mem fun {e e'} he he' ne z hz z' hz' ez => ne ?_
      subst ez
      obtain ⟨he, lt⟩ := List.mem_filter.mp he
      obtain ⟨he', lt'⟩ := List.mem_filter.mp he'
      have he := List.mem_range.mp he
      have he' := List.mem_range.mp he'
      rw [decide_eq_true_eq] at lt lt'
      obtain ⟨h1, h2, h3⟩ := mt e he
      have cl := way_clo (pl_V hh hw he) (pl_rim hh hw he)
      have := (clo_line cl (pl_V hh hw he') z hz').mpr hz
      rcases (way_ends hh hw he h1 h2 he').mp this with z | z
      · exact z.symm
      · rw [z, h3] at lt'; omega
    · subst e
      exact i.off a hb ((wy a).mp ha)
  · rw [List.mem_append, wy, ← i.mem]
    constructor
    · intro hz
      rcases (i.mem z).mp hz with ⟨e, he, hz⟩ | hz
      · exact lnA_sub (pl_V hh hw he) z hz
      · obtain ⟨r, hr, hz⟩ := List.mem_flatten.mp hz
        obtain ⟨q, x, vq, _, _, rfl⟩ := i.ring r hr
        exact lnA_sub vq z ((mem_srt vq z).mp hz)
    · exact m z
theorem ring_len {r : List (Nat × Nat × Nat)} (h : F.IsRing r) : r.length % 4 = 0 := by
  obtain ⟨q, x, vq, hx, hn, rfl⟩ := h
  rw [← (srt_perm vq).length_eq]
  have := ring_four vq hx hn
  unfold lnA
  rw [List.length_map]
  exact this
end Fr
end AF

set_option maxHeartbeats 400000
namespace AF
open PySem L2
open PyProof.Rows hiding St
/-! ## k04: all lines -/
section
variable {rows : List (List Bool)} (f : Flo rows)
include f
theorem mate_prt {e : Nat} (he : e < (fr rows).ends) : prt rows e < (fr rows).ends ∧ (fr rows).Mate e (prt rows e) ∧ prt rows (prt rows e) = e := by
  obtain ⟨pe, x, hx, ex, _⟩ := prt_pl f he
  exact ⟨pe, ⟨x, hx, ex⟩, (prt_prt f he).1⟩
theorem lines_all : ((((List.range (fr rows).ends).filter fun e => decide (e < prt rows e)).flatMap (wayA rows)) ++ (rings rows).flatten).Perm (fr rows).allA ∧ ∀ r ∈ rings rows, (fr rows).IsRing r := by
  have hh : 0 < (fr rows).h := f.h1
  have hw : 0 < (fr rows).w := f.w1
  refine Fr.all_lines hh hw (prt rows) (fun e he => mate_prt f he) (fun e he z hz => ?_) (S := S0 rows) fun z => ?_
  · have := (prt_prt f he).2
    show z ∈ wayA rows (prt rows e)
    rw [this, List.mem_reverse]
    exact hz
  · have := (S0_aux f (List.range (fr rows).ends) [] (fun e he => List.mem_range.mp he) ⟨List.nodup_nil, fun _ h => by cases h⟩).2 z
    refine Iff.trans this ?_
    unfold Fr.inWay
    simp [wayA, lnA]
omit f in
theorem ring_sorted {r : List Arc} (h : (fr rows).IsRing r) : r.Pairwise ltA := by
  obtain ⟨q, x, _, _, _, rfl⟩ := h
  exact Fr.allA_lt.filter _
end
def k04C : E := .cmp .NotEq (.lc (.v 8) (.n 8) (.rng2 (.bin .Add (.v 5) (.k (.int 1))) (.v 6)) (.cons (.not (.chn .Lt .Lt (.v 5) (.ix (.v 3) (.v 8)) (.v 6))) .nil) [8]) (.lst .nil)
def rF : Ss := .cons (.ret (.k (.bool false))) .nil
def k04B : Ss := .cons (.ite (.or (.cmp .NotEq (.ix (.v 3) (.v 6)) (.v 5)) (.cons (.cmp .NotEq (.bin .Mod (.bin .Add (.v 5) (.v 6)) (.k (.int 2))) (.k (.int 1))) .nil)) rF .nil) (.cons (.ite (.cmp .Lt (.v 5) (.v 6)) (.cons (.ext 4 (.call 35 (.e (.v 2) (.e (.v 5) .nil)))) (.cons (.ite k04C rF .nil) .nil)) .nil) .nil)
def k04R : Ss := .cons (.ext 4 (.v 7)) (.cons (.ite (.or (.cmp .NotEq (.bin .Mod (.bi .len (.v 7)) (.k (.int 4))) (.k (.int 0))) (.cons (.cmp .NotEq (.v 7) (.bi .sorted (.v 7))) .nil)) rF .nil) .nil)
def k04T : E := .cmp .NotEq (.bi .len (.v 3)) (.bin .Mult (.k (.int 2)) (.bin .Add (.bi .len (.v 2)) (.bi .len (.ix (.v 2) (.k (.int 0))))))
theorem df53_body : df53.body = .cons (.as true 1 (.lst .nil)) (.cons (.as false 2 (.call 17 (.s 0 (.r 1 (.e (.k (.int 6)) .nil))))) (.cons (.as false 3 (.call 37 (.e (.v 2) .nil))) (.cons (.ite k04T rF .nil) (.cons (.as true 4 (.lst .nil)) (.cons (.for_ (.t (.cons (.n 5) (.cons (.n 6) .nil))) (.enm (.v 3)) k04B [5, 6]) (.cons (.for_ (.n 7) (.ex (.call 48 (.e (.v 2) .nil))) k04R [7]) (.cons (.frz 4) (.cons (.ret (.cmp .Eq (.bi .sorted (.v 4)) (.bi .sorted (.bi .list (.call 40 (.e (.v 2) .nil)))))) .nil)))))))) := rfl
noncomputable def prtL (rows : List (List Bool)) : List PyData := (List.range (fr rows).ends).map fun e => .int (prt rows e : Nat)
theorem prtL_at {rows : List (List Bool)} {e : Nat} (he : e < (fr rows).ends) : atI (prtL rows) (e : Int) = some (.int (prt rows e : Nat)) := by
  unfold prtL
  rw [atI_nat _ e (by simpa using he)]
  simp
theorem k04_law (ns : List Int) (hn : ns.length ≤ 63) (n : Nat) : ∃ ρ, evF tbl (n + 10) 53 [.sc ns] = .ok (.bool true) ρ := by
  obtain ⟨rows, t1, _, ht1, fo, fl⟩ := ex_floor hn 0 (by omega) 6 (by decide) (by decide)
  have f := Flo.of (by decide) fo
  have hh : 0 < (fr rows).h := f.h1
  have hw : 0 < (fr rows).w := f.w1
  have es := ends_small f
  have c17 := fun ρ hi hj => callFl (cf := evF tbl (n + 9)) (by have := fl (n + 5); simpa using this) (ρ := ρ) (i := 0) (j := 1) hi hj
  have c37 : ∀ ρ, callR (evF tbl (n + 9)) 37 [.d (flD rows)] ρ = .ok (.list (prtL rows)) ρ := callP1 (sp_partners f (n + 2))
  have c48 := callP1 (sp_rings f (n + 2))
  have c40 : ∀ ρ, callR (evF tbl (n + 9)) 40 [.d (flD rows)] ρ = .ok (arcsD rows) ρ := callP1 (sp_arcs f (n + 7))
  obtain ⟨pm, ir⟩ := lines_all f
  have pl := pm.length_eq
  have al := allA_len f
  have so := sorted_arcs (fr rows).allA _ (by unfold lim; omega) (List.Perm.refl _) (allA_srt _)
  have sp := sorted_arcs _ _ (by unfold lim; omega) pm (allA_srt _)
  have so1 : biD .list (arcsD rows) = some (.list ((fr rows).allA.map arcD)) := arcs_list rows _
  obtain ⟨r, e1, e2⟩ := fl_row0 f
  have e3 := row_len f r e2
  have e4 := fl_len f
  have en : enumD 0 (prtL rows) = (List.range (fr rows).ends).map (fun e : Nat => .tuple [.int (e : Int), .int (prt rows e : Nat)]) := enum_range _
  have lp := for_all (f := forF (evF tbl (n + 9)) (.t (.cons (.n 5) (.cons (.n 6) .nil))) k04B) (w := forget [5, 6]) (fun e : Nat => .tuple [.int (e : Int), .int (prt rows e : Nat)])
    (fun p => [.sc ns, .mu (.l (zs t1)), .im (flD rows), .im (.list (prtL rows)), .mu (.l (((p.filter fun e => decide (e < prt rows e)).flatMap (wayA rows)).map arcD)), .un, .un, .un, .un]) (List.range (fr rows).ends) (fun p e q eq => by
    have he : e < (fr rows).ends := List.mem_range.mp (by rw [eq]; simp)
    obtain ⟨pe, me, mm⟩ := mate_prt f he
    have od := Fr.mate_odd hh hw he pe me
    have i1 := prtL_at pe
    rw [mm] at i1
    have od' : ((e : Int) + (prt rows e : Nat)) % 2 = 1 := by omega
    have w := callP2 (sp_way f (n + 3) he)
    have ln : (((p.filter fun e => decide (e < prt rows e)).flatMap (wayA rows)).length + ((List.filter (fun e => decide (e < prt rows e)) (e :: q)).flatMap (wayA rows)).length) ≤ 72 := by
      have : (List.range (fr rows).ends).filter (fun e => decide (e < prt rows e)) = (p.filter fun e => decide (e < prt rows e)) ++ (List.filter (fun e => decide (e < prt rows e)) (e :: q)) := by rw [eq, List.filter_append]
      rw [this, List.flatMap_append, List.length_append, List.length_append] at pl
      omega
    unfold turnR
    rw [forF_eq]
    by_cases lt : e < prt rows e
    · have lt' : (e : Int) < (prt rows e : Nat) := by omega
      have ln2 : ((p.filter fun e => decide (e < prt rows e)).flatMap (wayA rows)).length + (wayA rows e).length ≤ 72 := by
        rw [List.filter_cons_of_pos (by simpa using lt), List.flatMap_cons, List.length_append] at ln
        omega
      have fin : (((p ++ [e]).filter fun e => decide (e < prt rows e)).flatMap (wayA rows)) = ((p.filter fun e => decide (e < prt rows e)).flatMap (wayA rows)) ++ wayA rows e := by
        rw [List.filter_append, List.flatMap_append, List.filter_cons_of_pos (by simpa using lt)]
        simp
      have cm : ev (evF tbl (n + 9)) k04C [.sc ns, .mu (.l (zs t1)), .im (flD rows), .im (.list (prtL rows)), .mu (.l (((p.filter fun e => decide (e < prt rows e)).flatMap (wayA rows)).map arcD ++ (wayA rows e).map arcD)), .im (.int (e : Int)), .im (.int (prt rows e : Nat)), .un, .un] = .ok (.bool false) [.sc ns, .mu (.l (zs t1)), .im (flD rows), .im (.list (prtL rows)), .mu (.l (((p.filter fun e => decide (e < prt rows e)).flatMap (wayA rows)).map arcD ++ (wayA rows e).map arcD)), .im (.int (e : Int)), .im (.int (prt rows e : Nat)), .un, .un] := by
        have b1 : ((prt rows e : Nat) : Int) ≤ 1000000 ∧ -1000000 ≤ ((prt rows e : Nat) : Int) := by omega
        have b2 : ((e : Int) + 1) ≤ 1000000 ∧ -1000000 ≤ ((e : Int) + 1) := by omega
        have l1 := ev_lcx (evF tbl (n + 9)) (.v 8) (.n 8) (.rng2 (.bin .Add (.v 5) (.k (.int 1))) (.v 6)) (.cons (.not (.chn .Lt .Lt (.v 5) (.ix (.v 3) (.v 8)) (.v 6))) .nil) [8] [.sc ns, .mu (.l (zs t1)), .im (flD rows), .im (.list (prtL rows)), .mu (.l (((p.filter fun e => decide (e < prt rows e)).flatMap (wayA rows)).map arcD ++ (wayA rows e).map arcD)), .im (.int (e : Int)), .im (.int (prt rows e : Nat)), .un, .un]
          (xs := (List.range (prt rows e - (e + 1))).map fun i => PyData.int (((e + 1 + i : Nat)) : Int)) (ys := []) (by
          have tn : (((prt rows e : Nat) : Int) - ((e : Int) + 1)).toNat = prt rows e - (e + 1) := by omega
          simp [b1, b2, tn, rangeD]) rfl (by
          have := lc_fm (f := lcF (evF tbl (n + 9)) (.v 8) (.n 8) (.cons (.not (.chn .Lt .Lt (.v 5) (.ix (.v 3) (.v 8)) (.v 6))) .nil)) (w := forget [8]) (ρ0 := [.sc ns, .mu (.l (zs t1)), .im (flD rows), .im (.list (prtL rows)), .mu (.l (((p.filter fun e => decide (e < prt rows e)).flatMap (wayA rows)).map arcD ++ (wayA rows e).map arcD)), .im (.int (e : Int)), .im (.int (prt rows e : Nat)), .un, .un]) (fun i : Nat => PyData.int ((e + 1 + i : Nat) : Int)) (fun _ => none) (List.range (prt rows e - (e + 1))) (fun i hi => by
            have hi := List.mem_range.mp hi
            have hk : e + 1 + i < (fr rows).ends := by omega
            obtain ⟨pk, mk, mkk⟩ := mate_prt f hk
            have at1 := prtL_at hk
            have at2 : atI (prtL rows) ((e : Int) + 1 + (i : Int)) = some (.int (prt rows (e + 1 + i) : Nat)) := by simpa using at1
            have nc := Fr.no_cross hh hw pe pk me mk (by omega) (by omega) (fun z => by rw [z] at mkk; omega) (fun z => by rw [z, mm] at mkk; omega)
            have g1 : (e : Int) < (prt rows (e + 1 + i) : Nat) := by omega
            have g2 : ((prt rows (e + 1 + i) : Nat) : Int) < (prt rows e : Nat) := by omega
            unfold turnR
            rw [lcF_t]
            simp only [bindT, setS]
            simp [at2, g1, g2, asBool]) []
          have fm : ∀ l : List Nat, l.filterMap (fun _ => (none : Option PyData)) = [] := fun l => by induction l <;> simp_all
          rw [fm] at this
          exact this) rfl
        unfold k04C
        rw [ev_cmp, l1]
        have := (enc_int.lst).cmpNe (by decide) [] []
        rw [decide_eq_true rfl] at this
        simp at this
        simp [this]
      rw [fin, List.map_append]
      have ln3 : ((p.filter fun e => decide (e < prt rows e)).flatMap (wayA rows)).length + (wayA rows e).length < lim := by unfold lim; omega
      generalize (p.filter fun e => decide (e < prt rows e)).flatMap (wayA rows) = A at ln3 cm ⊢
      simp [k04B, i1, od', lt', w, cm, ln3]
    · have lt' : ¬ (e : Int) < (prt rows e : Nat) := by omega
      have fin : (((p ++ [e]).filter fun e => decide (e < prt rows e)).flatMap (wayA rows)) = ((p.filter fun e => decide (e < prt rows e)).flatMap (wayA rows)) := by
        rw [List.filter_append, List.flatMap_append, List.filter_cons_of_neg (by simpa using lt)]
        simp
      rw [fin]
      simp [k04B, i1, od', lt'])
  rw [← en] at lp
  generalize hW : (((List.range (fr rows).ends).filter fun e => decide (e < prt rows e)).flatMap (wayA rows)) = W at pm pl sp lp
  have lp2 := for_all (f := forF (evF tbl (n + 9)) (.n 7) k04R) (w := forget [7]) arcsL (fun p => [.sc ns, .mu (.l (zs t1)), .im (flD rows), .im (.list (prtL rows)), .mu (.l ((W ++ p.flatten).map arcD)), .un, .un, .un, .un]) (rings rows) (fun p r q eq => by
    have hr : r ∈ rings rows := by rw [eq]; simp
    have ri := ir r hr
    have l4 := Fr.ring_len ri
    have l4' : (r.length : Int) % 4 = 0 := by omega
    have ln : W.length + (p.flatten.length + r.length) ≤ 72 := by
      rw [List.length_append, eq, List.flatten_append, List.flatten_cons, List.length_append, List.length_append] at pl
      omega
    have sr := sorted_arcs r r (by unfold lim; omega) (List.Perm.refl _) (ring_sorted ri)
    have ne := arcs_ne r
    have fin : (W ++ (p ++ [r]).flatten).map arcD = (W ++ p.flatten).map arcD ++ r.map arcD := by simp
    unfold turnR
    rw [forF_eq, fin]
    have lm : (W ++ p.flatten).length + r.length < lim := by rw [List.length_append]; unfold lim; omega
    generalize W ++ p.flatten = A at lm ⊢
    simp [k04R, arcsL, l4', sr, ne, lm])
  have e5 : ((prtL rows).length : Int) = 2 * ((rows.length : Int) + wd rows) := by
    unfold prtL
    rw [List.length_map, List.length_range]
    show (((2 * (rows.length + wd rows) : Nat)) : Int) = _
    omega
  have ce : cmpD .Eq (.list ((fr rows).allA.map arcD)) (.list ((fr rows).allA.map arcD)) = some true := by
    have := (enc_arc.lst).cmpEq (by decide) (fr rows).allA (fr rows).allA
    rw [decide_eq_true rfl] at this
    exact this
  have sm : small 2 = true := by decide
  refine ⟨[.un], ?_⟩
  simp only [List.filter_nil, List.flatMap_nil, List.map_nil, List.flatten_nil, List.append_nil] at lp lp2
  rw [un53, df53_body, seq_nx _ _ _ _ [.sc ns, .mu (.l (zs 0)), .un, .un, .un, .un, .un, .un, .un] (by simp [ownD]; rfl),
    seq_nx _ _ _ _ [.sc ns, .mu (.l (zs t1)), .im (flD rows), .un, .un, .un, .un, .un, .un] (by simp [c17]),
    seq_nx _ _ _ _ [.sc ns, .mu (.l (zs t1)), .im (flD rows), .im (.list (prtL rows)), .un, .un, .un, .un, .un] (by simp [c37]),
    seq_nx _ _ _ _ [.sc ns, .mu (.l (zs t1)), .im (flD rows), .im (.list (prtL rows)), .un, .un, .un, .un, .un] (by unfold k04T; simp [e1, e3, e4, e5, sm]),
    seq_nx _ _ _ _ [.sc ns, .mu (.l (zs t1)), .im (flD rows), .im (.list (prtL rows)), .mu (.l []), .un, .un, .un, .un] (by simp [ownD]),
    seq_nx _ _ _ _ [.sc ns, .mu (.l (zs t1)), .im (flD rows), .im (.list (prtL rows)), .mu (.l (W.map arcD)), .un, .un, .un, .un] (by simp [lp]),
    seq_nx _ _ _ _ [.sc ns, .mu (.l (zs t1)), .im (flD rows), .im (.list (prtL rows)), .mu (.l ((W ++ (rings rows).flatten).map arcD)), .un, .un, .un, .un] (by simp [-List.map_append, -List.append_assoc, c48, itemsD, lp2])]
  simp [-List.map_append, M.toD, sp, c40, so1, so, ce]
end AF

set_option maxHeartbeats 0
namespace K04
open PySem PySem.Spec PySem.W PySem.Calls PyProof.Rows AF
abbrev RL : OpenLaw := PySem.Challenge.rw_arcfloors_k04_whole_all_lines
abbrev R : OpenRow := OpenLaw.row RL
def top (i : Nat) : Stmt := PySem.Challenge.pw_arcfloors_k04_whole_all_lines.main.body.getD i (.Pass ⟨0, 0, 0, 0⟩)
def d0 : DefS := ⟨Str.ofString "is_whole", 0, [Str.ofString "thing", Str.ofString "low", Str.ofString "high"], [Str.ofString "thing", Str.ofString "low", Str.ofString "high"], top 6⟩
def d1 : DefS := ⟨Str.ofString "is_row", 1, [Str.ofString "thing", Str.ofString "long"], [Str.ofString "thing", Str.ofString "long", Str.ofString "sign"], top 7⟩
def d2 : DefS := ⟨Str.ofString "is_floor", 2, [Str.ofString "thing"], [Str.ofString "thing", Str.ofString "row"], top 8⟩
def d3 : DefS := ⟨Str.ofString "need_floor", 3, [Str.ofString "thing"], [Str.ofString "thing"], top 9⟩
def d4 : DefS := ⟨Str.ofString "is_place", 4, [Str.ofString "thing", Str.ofString "rows", Str.ofString "columns"], [Str.ofString "thing", Str.ofString "rows", Str.ofString "columns"], top 10⟩
def d5 : DefS := ⟨Str.ofString "is_square", 5, [Str.ofString "floor", Str.ofString "thing"], [Str.ofString "floor", Str.ofString "thing"], top 11⟩
def d46 : DefS := ⟨Str.ofString "squares_of", 46, [Str.ofString "floor"], [Str.ofString "floor", Str.ofString "made", Str.ofString "down", Str.ofString "across"], top 12⟩
def d7 : DefS := ⟨Str.ofString "at", 7, [Str.ofString "floor", Str.ofString "square"], [Str.ofString "floor", Str.ofString "square"], top 13⟩
def d25 : DefS := ⟨Str.ofString "many_ends", 25, [Str.ofString "floor"], [Str.ofString "floor"], top 16⟩
def d26 : DefS := ⟨Str.ofString "need_end", 26, [Str.ofString "floor", Str.ofString "thing"], [Str.ofString "floor", Str.ofString "thing"], top 17⟩
def d27 : DefS := ⟨Str.ofString "place_of", 27, [Str.ofString "floor", Str.ofString "end"], [Str.ofString "floor", Str.ofString "end", Str.ofString "rows", Str.ofString "columns"], top 18⟩
def d28 : DefS := ⟨Str.ofString "end_at", 28, [Str.ofString "floor", Str.ofString "square", Str.ofString "side"], [Str.ofString "floor", Str.ofString "square", Str.ofString "side", Str.ofString "rows", Str.ofString "columns"], top 19⟩
def d29 : DefS := ⟨Str.ofString "out_by", 29, [Str.ofString "letter", Str.ofString "side"], [Str.ofString "letter", Str.ofString "side"], top 20⟩
def d30 : DefS := ⟨Str.ofString "mark_of", 30, [Str.ofString "letter", Str.ofString "side"], [Str.ofString "letter", Str.ofString "side"], top 21⟩
def d31 : DefS := ⟨Str.ofString "stepped", 31, [Str.ofString "square", Str.ofString "side"], [Str.ofString "square", Str.ofString "side"], top 22⟩
def d32 : DefS := ⟨Str.ofString "walk_of", 32, [Str.ofString "floor", Str.ofString "square", Str.ofString "side"], [Str.ofString "floor", Str.ofString "square", Str.ofString "side", Str.ofString "made", Str.ofString "first", Str.ofString "out", Str.ofString "later", Str.ofString "inner"], top 23⟩
def d33 : DefS := ⟨Str.ofString "way_of", 33, [Str.ofString "floor", Str.ofString "end"], [Str.ofString "floor", Str.ofString "end", Str.ofString "square", Str.ofString "side", Str.ofString "made", Str.ofString "last", Str.ofString "out"], top 24⟩
def d35 : DefS := ⟨Str.ofString "way", 35, [Str.ofString "floor", Str.ofString "end"], [Str.ofString "floor", Str.ofString "end"], top 25⟩
def d36 : DefS := ⟨Str.ofString "partners_of", 36, [Str.ofString "floor"], [Str.ofString "floor", Str.ofString "end"], top 26⟩
def d37 : DefS := ⟨Str.ofString "partners", 37, [Str.ofString "floor"], [Str.ofString "floor"], top 27⟩
def d47 : DefS := ⟨Str.ofString "rings_of", 47, [Str.ofString "floor"], [Str.ofString "floor", Str.ofString "seen", Str.ofString "made", Str.ofString "end", Str.ofString "square", Str.ofString "mark", Str.ofString "arcs", Str.ofString "arc"], top 28⟩
def d48 : DefS := ⟨Str.ofString "rings", 48, [Str.ofString "floor"], [Str.ofString "floor"], top 29⟩
def d13 : DefS := ⟨Str.ofString "_law_cell_at", 13, [Str.ofString "_law_script", Str.ofString "_law_k"], [Str.ofString "_law_script", Str.ofString "_law_k", Str.ofString "_law_rest", Str.ofString "_law_turn"], top 31⟩
def d14 : DefS := ⟨Str.ofString "_law_mixed", 14, [Str.ofString "_law_script", Str.ofString "_law_k", Str.ofString "_law_bound"], [Str.ofString "_law_script", Str.ofString "_law_k", Str.ofString "_law_bound", Str.ofString "_law_drawn"], top 32⟩
def d15 : DefS := ⟨Str.ofString "_law_draw", 15, [Str.ofString "_law_script", Str.ofString "_law_town", Str.ofString "_law_bound"], [Str.ofString "_law_script", Str.ofString "_law_town", Str.ofString "_law_bound"], top 33⟩
def d17 : DefS := ⟨Str.ofString "_law_floor", 17, [Str.ofString "_law_script", Str.ofString "_law_town", Str.ofString "_law_bound"], [Str.ofString "_law_script", Str.ofString "_law_town", Str.ofString "_law_bound", Str.ofString "_law_tall", Str.ofString "_law_wide", Str.ofString "_law_made", Str.ofString "_law_down", Str.ofString "_law_bits", Str.ofString "_law_top", Str.ofString "_law_left", Str.ofString "_law_clean", Str.ofString "_law_across", Str.ofString "_law_k", Str.ofString "_law_letters"], top 34⟩
def d18 : DefS := ⟨Str.ofString "_law_squares", 18, [Str.ofString "_law_floor_there"], [Str.ofString "_law_floor_there", Str.ofString "_law_made", Str.ofString "_law_down", Str.ofString "_law_across"], top 35⟩
def d39 : DefS := ⟨Str.ofString "_law_sides", 39, [Str.ofString "_law_down", Str.ofString "_law_across"], [Str.ofString "_law_down", Str.ofString "_law_across"], top 36⟩
def d40 : DefS := ⟨Str.ofString "_law_arcs", 40, [Str.ofString "_law_floor_there"], [Str.ofString "_law_floor_there", Str.ofString "_law_made", Str.ofString "_law_down", Str.ofString "_law_across", Str.ofString "_law_sides_here"], top 37⟩
def d53 : DefS := ⟨Str.ofString "law", 53, [Str.ofString "_law_script"], [Str.ofString "_law_script", Str.ofString "_law_town", Str.ofString "_law_there", Str.ofString "_law_joined", Str.ofString "_law_arcs_here", Str.ofString "_law_end", Str.ofString "_law_another_one", Str.ofString "_law_some", Str.ofString "_law_k"], top 38⟩
def ds0 : List DefS := [d0, d1, d2, d3, d4, d5, d46, d7, d25, d26, d27, d28, d29, d30, d31, d32, d33, d35, d36, d37, d47, d48, d13, d14, d15, d17, d18, d39, d40, d53]
def cf : Cf := ⟨[Str.ofString "all", Str.ofString "bool", Str.ofString "dict", Str.ofString "enumerate", Str.ofString "int", Str.ofString "isinstance", Str.ofString "len", Str.ofString "list", Str.ofString "min", Str.ofString "range", Str.ofString "sorted", Str.ofString "str", Str.ofString "tuple"], [(Str.ofString "MOST", 6)], [], [Str.ofString "NoFloor"], ds0, [(Str.ofString "STEPS", [[(-1), 0], [0, 1], [1, 0], [0, (-1)]])], []⟩
theorem o0 : DefOk cf.g tbl d0 := ⟨fun _ _ _ _ _ _ us hl => match us, hl with | [_, _, _], _ => rfl, by decide +kernel⟩
theorem o1 : DefOk cf.g tbl d1 := ⟨fun _ _ _ _ _ _ us hl => match us, hl with | [_, _], _ => rfl, by decide +kernel⟩
theorem o2 : DefOk cf.g tbl d2 := ⟨fun _ _ _ _ _ _ us hl => match us, hl with | [_], _ => rfl, by decide +kernel⟩
theorem o3 : DefOk cf.g tbl d3 := ⟨fun _ _ _ _ _ _ us hl => match us, hl with | [_], _ => rfl, by decide +kernel⟩
theorem o4 : DefOk cf.g tbl d4 := ⟨fun _ _ _ _ _ _ us hl => match us, hl with | [_, _, _], _ => rfl, by decide +kernel⟩
theorem o5 : DefOk cf.g tbl d5 := ⟨fun _ _ _ _ _ _ us hl => match us, hl with | [_, _], _ => rfl, by decide +kernel⟩
theorem o46 : DefOk cf.g tbl d46 := ⟨fun _ _ _ _ _ _ us hl => match us, hl with | [_], _ => rfl, by decide +kernel⟩
theorem o7 : DefOk cf.g tbl d7 := ⟨fun _ _ _ _ _ _ us hl => match us, hl with | [_, _], _ => rfl, by decide +kernel⟩
theorem o25 : DefOk cf.g tbl d25 := ⟨fun _ _ _ _ _ _ us hl => match us, hl with | [_], _ => rfl, by decide +kernel⟩
theorem o26 : DefOk cf.g tbl d26 := ⟨fun _ _ _ _ _ _ us hl => match us, hl with | [_, _], _ => rfl, by decide +kernel⟩
theorem o27 : DefOk cf.g tbl d27 := ⟨fun _ _ _ _ _ _ us hl => match us, hl with | [_, _], _ => rfl, by decide +kernel⟩
theorem o28 : DefOk cf.g tbl d28 := ⟨fun _ _ _ _ _ _ us hl => match us, hl with | [_, _, _], _ => rfl, by decide +kernel⟩
theorem o29 : DefOk cf.g tbl d29 := ⟨fun _ _ _ _ _ _ us hl => match us, hl with | [_, _], _ => rfl, by decide +kernel⟩
theorem o30 : DefOk cf.g tbl d30 := ⟨fun _ _ _ _ _ _ us hl => match us, hl with | [_, _], _ => rfl, by decide +kernel⟩
theorem o31 : DefOk cf.g tbl d31 := ⟨fun _ _ _ _ _ _ us hl => match us, hl with | [_, _], _ => rfl, by decide +kernel⟩
theorem o32 : DefOk cf.g tbl d32 := ⟨fun _ _ _ _ _ _ us hl => match us, hl with | [_, _, _], _ => rfl, by decide +kernel⟩
theorem o33 : DefOk cf.g tbl d33 := ⟨fun _ _ _ _ _ _ us hl => match us, hl with | [_, _], _ => rfl, by decide +kernel⟩
theorem o35 : DefOk cf.g tbl d35 := ⟨fun _ _ _ _ _ _ us hl => match us, hl with | [_, _], _ => rfl, by decide +kernel⟩
theorem o36 : DefOk cf.g tbl d36 := ⟨fun _ _ _ _ _ _ us hl => match us, hl with | [_], _ => rfl, by decide +kernel⟩
theorem o37 : DefOk cf.g tbl d37 := ⟨fun _ _ _ _ _ _ us hl => match us, hl with | [_], _ => rfl, by decide +kernel⟩
theorem o47 : DefOk cf.g tbl d47 := ⟨fun _ _ _ _ _ _ us hl => match us, hl with | [_], _ => rfl, by decide +kernel⟩
theorem o48 : DefOk cf.g tbl d48 := ⟨fun _ _ _ _ _ _ us hl => match us, hl with | [_], _ => rfl, by decide +kernel⟩
theorem o13 : DefOk cf.g tbl d13 := ⟨fun _ _ _ _ _ _ us hl => match us, hl with | [_, _], _ => rfl, by decide +kernel⟩
theorem o14 : DefOk cf.g tbl d14 := ⟨fun _ _ _ _ _ _ us hl => match us, hl with | [_, _, _], _ => rfl, by decide +kernel⟩
theorem o15 : DefOk cf.g tbl d15 := ⟨fun _ _ _ _ _ _ us hl => match us, hl with | [_, _, _], _ => rfl, by decide +kernel⟩
theorem o17 : DefOk cf.g tbl d17 := ⟨fun _ _ _ _ _ _ us hl => match us, hl with | [_, _, _], _ => rfl, by decide +kernel⟩
theorem o18 : DefOk cf.g tbl d18 := ⟨fun _ _ _ _ _ _ us hl => match us, hl with | [_], _ => rfl, by decide +kernel⟩
theorem o39 : DefOk cf.g tbl d39 := ⟨fun _ _ _ _ _ _ us hl => match us, hl with | [_, _], _ => rfl, by decide +kernel⟩
theorem o40 : DefOk cf.g tbl d40 := ⟨fun _ _ _ _ _ _ us hl => match us, hl with | [_], _ => rfl, by decide +kernel⟩
theorem o53 : DefOk cf.g tbl d53 := ⟨fun _ _ _ _ _ _ us hl => match us, hl with | [_], _ => rfl, by decide +kernel⟩
theorem os : ∀ d ∈ cf.defs, DefOk cf.g tbl d := by
  intro d hd
  have hd : d ∈ ds0 := hd
  simp only [ds0, List.mem_append, List.mem_cons, List.not_mem_nil, or_false] at hd
  rcases hd with rfl | rfl | rfl | rfl | rfl | rfl | rfl | rfl | rfl | rfl | rfl | rfl | rfl | rfl | rfl | rfl | rfl | rfl | rfl | rfl | rfl | rfl | rfl | rfl | rfl | rfl | rfl | rfl | rfl | rfl
  · exact o0
  · exact o1
  · exact o2
  · exact o3
  · exact o4
  · exact o5
  · exact o46
  · exact o7
  · exact o25
  · exact o26
  · exact o27
  · exact o28
  · exact o29
  · exact o30
  · exact o31
  · exact o32
  · exact o33
  · exact o35
  · exact o36
  · exact o37
  · exact o47
  · exact o48
  · exact o13
  · exact o14
  · exact o15
  · exact o17
  · exact o18
  · exact o39
  · exact o40
  · exact o53
def nm0 : List PySem.Str := [Str.ofString "FloorError", Str.ofString "NoFloor", Str.ofString "NoEnd", Str.ofString "MOST", Str.ofString "is_whole", Str.ofString "is_row", Str.ofString "is_floor", Str.ofString "need_floor", Str.ofString "is_place", Str.ofString "is_square", Str.ofString "squares_of", Str.ofString "at", Str.ofString "STEPS", Str.ofString "many_ends", Str.ofString "need_end", Str.ofString "place_of", Str.ofString "end_at", Str.ofString "out_by", Str.ofString "mark_of", Str.ofString "stepped", Str.ofString "walk_of", Str.ofString "way_of", Str.ofString "way", Str.ofString "partners_of", Str.ofString "partners", Str.ofString "rings_of", Str.ofString "rings", Str.ofString "_law_cell_at", Str.ofString "_law_mixed", Str.ofString "_law_draw"]
def nm1 : List PySem.Str := [Str.ofString "_law_floor", Str.ofString "_law_squares", Str.ofString "_law_sides", Str.ofString "_law_arcs"]
def loose : List PySem.Str := nm0 ++ nm1
abbrev hk : Hook := hookX 6 cf.fa cf.fn cf.ex
def ob (s : SharedT) : He.AlD := obsXG 6 cf.fa cf.fn cf.ex (HandSHeadRun.getT s)
theorem ob_eq (s : SharedT) : ob s = hk.obs s.abs := obsXG_eq (HandSHeadRun.getT_eq s)
abbrev qv : Program := view R.prog [38]
theorem run (w : World) : HandSHeadRun.RunEq R qv hk ob 9000 loose w := by
  intro os
  kernel_rfl
--LAW
theorem law_is (ns : List Int) (h : ns.length ≤ 63) : ∃ ρ, evF tbl 60 53 [.sc ns] = .ok (.bool true) ρ := k04_law ns h 50
--END
end K04
open PySem PySem.W PySem.Calls PyProof.Rows
theorem PySem.Challenge.cw_arcfloors_k04_whole_all_lines_holds : PySem.Challenge.rw_arcfloors_k04_whole_all_lines.Holds := by
  w_on; o_law
  refine HandSHeadRun.head_any (r := OpenLaw.row PySem.Challenge.rw_arcfloors_k04_whole_all_lines) (q := K04.qv) (H := K04.hk) (ob := K04.ob) (M := 9000) (loose := K04.loose) (d := HandSHeadRun.topDef (OpenLaw.row PySem.Challenge.rw_arcfloors_k04_whole_all_lines).prog 38) (kwd := []) K04.ob_eq
    (by kernel_rfl) (fun s => by kernel_rfl) K04.run (by kernel_rfl) (by kernel_rfl) (by kernel_rfl) (by rfl) (by first | assumption | decide +kernel) (by decide +kernel) ⟨rfl, rfl, rfl, rfl, rfl, by decide +kernel⟩ ?hw ?hc
  case hw => w_witness2
  case hc =>
    refine L2.walk_ofE (l := PySem.Challenge.rw_arcfloors_k04_whole_all_lines) (n := 63) (k := 60) (x := Str.ofString "_law_script") (CX := L2.CX0) rfl (by decide) (by kernel_rfl) ⟨rfl, by decide, by decide⟩ ?F (fun _ _ _ _ z => z)
    case F =>
      intro w mg fa h Y G hmg0
      obtain ⟨K, KX, c⟩ := Y
      have hmg : mg K04.d53.name = some (.ref fa) := by
        have e : (HandSHeadRun.topDef (OpenLaw.row PySem.Challenge.rw_arcfloors_k04_whole_all_lines).prog 38).name = K04.d53.name := by kernel_rfl
        rw [← e]
        exact hmg0
      exact AF.law_end (P := (PySem.Challenge.rw_arcfloors_k04_whole_all_lines).prog) (w := w) KX G c K04.os (d := K04.d53) (by unfold K04.cf; simp [K04.ds0]) rfl hmg fun ns hl => K04.law_is ns hl


