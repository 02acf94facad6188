import PyProof.Rows.All
import Wide.All
import OpenK.AllK
import Wide.FinOn
import HandS.ForMost
import HandS.Strs
import HandS.Deep
import HandS.ExcInit
import HandS.HeadHook2
import HandS.HeadEnd
import HandS.Head2
import KE.SortUse
import KE.DataAny
import KE.DataIsa
import KE.DatumIndex
import KE.KeyNested
import HandS.TupAny
import HandS.IsInst
import KE.DataCmp
import HandS.Style
import HandS.Zip
import KE.KDictZip
import HandS.HeadHook1
import HandS.Codes
import HandS.Text
import KE.LtData
import KE.SortLaws
import HandS.HeadHook3
import HandS.Ends
import PyProof.ReprRoads
import PyProof.ReprLen
import KE.KStateDown
import HandS.Words
import HandS.WordsExc
import HandS.Head0
import HandS.Head1
import PySem.Challenge.RW_mannerports_k43_tables_written_and_read
set_option Elab.async false
set_option linter.all false
set_option maxRecDepth 100000
set_option maxHeartbeats 0
/-! the data layer: values as data (trees), mutable lists by address in a store; readings over HandS's judgements -/
namespace DL
open PySem PySem.Spec PyProof.Rows L2

/-- a value as data, or a mutable thing by its address -/
inductive DV where
  | dat (d : PyData)
  | obj (a : Addr)
/-- what stands at a managed address -/
inductive MO where
  | lst (xs : List DV)
abbrev Env := List (Option DV)
abbrev Sto := Addr → Option MO
def Sto.set (M : Sto) (a : Addr) (m : MO) : Sto := fun b => if b = a then some m else M b
theorem Sto.set_same {M : Sto} {a : Addr} {m : MO} : M.set a m a = some m := by simp [Sto.set]
theorem Sto.set_ne {M : Sto} {a b : Addr} {m : MO} (h : b ≠ a) : M.set a m b = M b := by simp [Sto.set, h]
theorem Sto.set_set {M : Sto} {a : Addr} {m n : MO} : (M.set a m).set a n = M.set a n := by
  funext b; unfold Sto.set; split <;> rfl
abbrev DK := DV → Sto → Prop
abbrev DT := Env → Sto → DK → Prop

/-- a list that is read only: tracked where F lets, or of the module -/
def LsAt (K : PySem.W.Frag) (H : Hp) (F : Addr → Prop) (a : Addr) (xs : List V) : Prop :=
  (Rd H a (.lst xs) ∧ F a) ∨ ∃ (o : Obj) (its : Array Value) (n : Nat), K.lookup a = some o ∧ o.cls = .type "list" ∧ o.dict = none ∧ o.data = .seq its n ∧ its.size ≤ sizeLine ∧ Vals xs its.toList
theorem LsAt.sq {K : PySem.W.Frag} {H : Hp} {F : Addr → Prop} {a : Addr} {xs : List V} (h : LsAt K H F a xs) : SqL K H a xs := h.imp (·.1) id
mutual
/-- v stands for the data d; its lists lie where F lets -/
inductive Fz (K : PySem.W.Frag) (H : Hp) (F : Addr → Prop) : V → PyData → Prop
  | non : Fz K H F .non .none
  | bl (b : Bool) : Fz K H F (.bl b) (.bool b)
  | int (i : Int) : Fz K H F (.int i) (.int i)
  | str (x : Str) : Fz K H F (.str x) (.str x)
  | lst {a : Addr} {xs : List V} {ds : List PyData} : LsAt K H F a xs → FzAll K H F xs ds → Fz K H F (.ref a) (.list ds)
  | tup {a : Addr} {xs : List V} {ds : List PyData} : SqT K H a xs → FzAll K H F xs ds → Fz K H F (.ref a) (.tuple ds)
inductive FzAll (K : PySem.W.Frag) (H : Hp) (F : Addr → Prop) : List V → List PyData → Prop
  | nil : FzAll K H F [] []
  | cons {v : V} {vs : List V} {d : PyData} {ds : List PyData} : Fz K H F v d → FzAll K H F vs ds → FzAll K H F (v :: vs) (d :: ds)
end
section
variable {K : PySem.W.Frag} {H H' : Hp} {F F' : Addr → Prop}
mutual
theorem Fz.dp : ∀ {d : PyData} {v : V}, Fz K H F v d → Dp K H v d
  | _, _, .non => .non
  | _, _, .bl b => .bl b
  | _, _, .int i => .int i
  | _, _, .str x => .str x
  | _, _, .lst h q => .lst h.sq (FzAll.dp q)
  | _, _, .tup h q => .tup h (FzAll.dp q)
theorem FzAll.dp : ∀ {ds : List PyData} {vs : List V}, FzAll K H F vs ds → DpAll K H vs ds
  | _, _, .nil => .nil
  | _, _, .cons h q => .cons (Fz.dp h) (FzAll.dp q)
end
mutual
theorem Fz.mono (h1 : ∀ a xs, Rd H a (.lst xs) → F a → Rd H' a (.lst xs) ∧ F' a) (h2 : ∀ a xs, SqT K H a xs → SqT K H' a xs) : ∀ {d : PyData} {v : V}, Fz K H F v d → Fz K H' F' v d
  | _, _, .non => .non
  | _, _, .bl b => .bl b
  | _, _, .int i => .int i
  | _, _, .str x => .str x
  | _, _, .lst h q => .lst (h.imp (fun z => h1 _ _ z.1 z.2) id) (FzAll.mono h1 h2 q)
  | _, _, .tup h q => .tup (h2 _ _ h) (FzAll.mono h1 h2 q)
theorem FzAll.mono (h1 : ∀ a xs, Rd H a (.lst xs) → F a → Rd H' a (.lst xs) ∧ F' a) (h2 : ∀ a xs, SqT K H a xs → SqT K H' a xs) : ∀ {ds : List PyData} {vs : List V}, FzAll K H F vs ds → FzAll K H' F' vs ds
  | _, _, .nil => .nil
  | _, _, .cons h q => .cons (Fz.mono h1 h2 h) (FzAll.mono h1 h2 q)
end
theorem FzAll.length : ∀ {ds : List PyData} {vs : List V}, FzAll K H F vs ds → vs.length = ds.length
  | _, _, .nil => rfl
  | _, _, .cons _ q => by simp [FzAll.length q]
theorem FzAll.append : ∀ {ds es : List PyData} {vs us : List V}, FzAll K H F vs ds → FzAll K H F us es → FzAll K H F (vs ++ us) (ds ++ es)
  | _, _, _, _, .nil, s => s
  | _, _, _, _, .cons h q, s => .cons h (FzAll.append q s)
theorem FzAll.get : ∀ {ds : List PyData} {vs : List V} {i : Nat} {d : PyData}, FzAll K H F vs ds → ds[i]? = some d → ∃ v, vs[i]? = some v ∧ Fz K H F v d
  | _, _, _, _, .nil, e => by simp at e
  | _, _, 0, _, .cons h _, e => by simp at e; subst e; exact ⟨_, rfl, h⟩
  | _, _, i + 1, d, .cons _ q, e => by
    obtain ⟨v, h1, h2⟩ := FzAll.get (i := i) (d := d) q (by simpa using e)
    exact ⟨v, by simpa using h1, h2⟩
theorem FzAll.getV : ∀ {ds : List PyData} {vs : List V} {i : Nat} {v : V}, FzAll K H F vs ds → vs[i]? = some v → ∃ d, ds[i]? = some d ∧ Fz K H F v d
  | _, _, _, _, .nil, e => by simp at e
  | _, _, 0, _, .cons h _, e => by simp at e; subst e; exact ⟨_, rfl, h⟩
  | _, _, i + 1, v, .cons _ q, e => by
    obtain ⟨d, h1, h2⟩ := FzAll.getV (i := i) (v := v) q (by simpa using e)
    exact ⟨d, by simpa using h1, h2⟩
theorem FzAll.take : ∀ {ds : List PyData} {vs : List V} (n : Nat), FzAll K H F vs ds → FzAll K H F (vs.take n) (ds.take n)
  | _, _, 0, _ => by simpa using .nil
  | _, _, _ + 1, .nil => by simpa using .nil
  | _, _, n + 1, .cons h q => by simpa using .cons h (FzAll.take n q)
theorem FzAll.drop : ∀ {ds : List PyData} {vs : List V} (n : Nat), FzAll K H F vs ds → FzAll K H F (vs.drop n) (ds.drop n)
  | _, _, 0, h => by simpa using h
  | _, _, _ + 1, .nil => by simpa using .nil
  | _, _, n + 1, .cons h q => by simpa using FzAll.drop n q
theorem FzAll.rev : ∀ {ds : List PyData} {vs : List V}, FzAll K H F vs ds → FzAll K H F vs.reverse ds.reverse
  | _, _, .nil => .nil
  | _, _, .cons h q => by
    rw [List.reverse_cons, List.reverse_cons]
    exact FzAll.append (FzAll.rev q) (.cons h .nil)
theorem FzAll.one {v : V} {d : PyData} (h : Fz K H F v d) : FzAll K H F [v] [d] := .cons h .nil
end

/-- an address where frozen lists may lie -/
def Fr0 (Hid : Addr → Prop) (M : Sto) : Addr → Prop := fun a => M a = none ∧ ¬ Hid a
section
variable (K : PySem.W.Frag) (Hid : Addr → Prop) (M : Sto) (H : Hp)
def Rp (v : V) : DV → Prop
  | .dat d => Fz K H (Fr0 Hid M) v d
  | .obj a => v = .ref a ∧ ∃ m, M a = some m
inductive RpAll : List V → List DV → Prop
  | nil : RpAll [] []
  | cons {v : V} {vs : List V} {d : DV} {ds : List DV} : Rp K Hid M H v d → RpAll vs ds → RpAll (v :: vs) (d :: ds)
def MOk (a : Addr) : MO → Prop
  | .lst xs => ∃ vs, H a = some (.lst vs) ∧ RpAll K Hid M H vs xs
def Sok : Prop := (∀ a m, M a = some m → MOk K Hid M H a m) ∧ ∀ a, Hid a → H a ≠ none ∧ M a = none
structure Ok (env : Env) (σ : L2.St) : Prop where
  len : env.length = σ.length
  slot : ∀ (i : Nat) (dv : DV), env[i]? = some (some dv) → ∃ v : V, σ[i]? = some (some v) ∧ Rp K Hid M H v dv
  sok : Sok K Hid M H
end
/-- from (M, H) to (M', H'): what is not managed stays -/
structure Fr (M : Sto) (H : Hp) (M' : Sto) (H' : Hp) : Prop where
  keep : ∀ a o, H a = some o → M a = none → H' a = some o
  unm : ∀ a, H a ≠ none → M a = none → M' a = none
  man : ∀ a, M a ≠ none → M' a ≠ none
theorem Fr.refl (M : Sto) (H : Hp) : Fr M H M H := ⟨fun _ _ h _ => h, fun _ _ h => h, fun _ h => h⟩
section
variable {K : PySem.W.Frag} {Hid : Addr → Prop} {M M' M1 M2 : Sto} {H H' H1 H2 : Hp}
theorem Fr.trans (a : Fr M H M1 H1) (b : Fr M1 H1 M2 H2) : Fr M H M2 H2 where
  keep := fun x o h n => b.keep x o (a.keep x o h n) (a.unm x (by rw [h]; simp) n)
  unm := fun x h n => by
    have n1 := a.unm x h n
    refine b.unm x ?_ n1
    cases e : H x with
    | none => exact absurd e h
    | some o => rw [a.keep x o e n]; simp
  man := fun x h => b.man x (a.man x h)
theorem Sok.at (s : Sok K Hid M H) {a : Addr} {xs : List DV} (h : M a = some (.lst xs)) : ∃ vs, H a = some (.lst vs) ∧ RpAll K Hid M H vs xs := s.1 a _ h
theorem Sok.mut (s : Sok K Hid M H) {a : Addr} (h : M a ≠ none) : ∃ vs, H a = some (.lst vs) := by
  cases e : M a with
  | none => exact absurd e h
  | some m =>
    have := s.1 a m e
    cases m with
    | lst xs => obtain ⟨vs, h, _⟩ := this; exact ⟨vs, h⟩
theorem Sok.fresh (s : Sok K Hid M H) {p : Addr} (h : H p = none) : M p = none := by
  cases e : M p with
  | none => rfl
  | some m =>
    obtain ⟨vs, q⟩ := s.mut (a := p) (by rw [e]; simp)
    rw [h] at q; cases q
theorem Sok.tup (s : Sok K Hid M H) (f : Fr M H M' H') {a : Addr} {xs : List V} (h : SqT K H a xs) : SqT K H' a xs := by
  rcases h with (h | ⟨o, h⟩) | h
  · refine .inl (.inl (f.keep _ _ h ?_))
    cases e : M a with
    | none => rfl
    | some m => obtain ⟨vs, q⟩ := s.mut (a := a) (by rw [e]; simp); rw [h] at q; cases q
  · refine .inl (.inr ⟨o, f.keep _ _ h ?_⟩)
    cases e : M a with
    | none => rfl
    | some m => obtain ⟨vs, q⟩ := s.mut (a := a) (by rw [e]; simp); rw [h] at q; cases q
  · exact .inr h
theorem Fr.rd (f : Fr M H M' H') {a : Addr} {u : HO} (h : Rd H a u) (n : M a = none) : Rd H' a u ∧ M' a = none := by
  rcases h with h | ⟨o, h⟩
  · exact ⟨.inl (f.keep _ _ h n), f.unm _ (by rw [h]; simp) n⟩
  · exact ⟨.inr ⟨o, f.keep _ _ h n⟩, f.unm _ (by rw [h]; simp) n⟩
theorem Fz.keep (s : Sok K Hid M H) (f : Fr M H M' H') {v : V} {d : PyData} (h : Fz K H (Fr0 Hid M) v d) : Fz K H' (Fr0 Hid M') v d :=
  Fz.mono (fun a xs r q => ⟨(f.rd r q.1).1, (f.rd r q.1).2, q.2⟩) (fun a xs r => s.tup f r) h
theorem FzAll.keep (s : Sok K Hid M H) (f : Fr M H M' H') {v : List V} {d : List PyData} (h : FzAll K H (Fr0 Hid M) v d) : FzAll K H' (Fr0 Hid M') v d :=
  FzAll.mono (fun a xs r q => ⟨(f.rd r q.1).1, (f.rd r q.1).2, q.2⟩) (fun a xs r => s.tup f r) h
theorem Rp.keep (s : Sok K Hid M H) (f : Fr M H M' H') : ∀ {dv : DV} {v : V}, Rp K Hid M H v dv → Rp K Hid M' H' v dv
  | .dat _, _, h => Fz.keep s f h
  | .obj a, _, ⟨e, m, q⟩ => ⟨e, by
    have := f.man a (by rw [q]; simp)
    cases e : M' a with
    | none => exact absurd e this
    | some m => exact ⟨m, rfl⟩⟩
theorem RpAll.keep (s : Sok K Hid M H) (f : Fr M H M' H') : ∀ {ds : List DV} {vs : List V}, RpAll K Hid M H vs ds → RpAll K Hid M' H' vs ds
  | _, _, .nil => .nil
  | _, _, .cons h q => .cons (Rp.keep s f h) (RpAll.keep s f q)
theorem RpAll.length : ∀ {ds : List DV} {vs : List V}, RpAll K Hid M H vs ds → vs.length = ds.length
  | _, _, .nil => rfl
  | _, _, .cons _ q => by simp [RpAll.length q]
theorem RpAll.append : ∀ {ds es : List DV} {vs us : List V}, RpAll K Hid M H vs ds → RpAll K Hid M H us es → RpAll K Hid M H (vs ++ us) (ds ++ es)
  | _, _, _, _, .nil, s => s
  | _, _, _, _, .cons h q, s => .cons h (RpAll.append q s)
theorem RpAll.get : ∀ {ds : List DV} {vs : List V} {i : Nat} {d : DV}, RpAll K Hid M H vs ds → ds[i]? = some d → ∃ v, vs[i]? = some v ∧ Rp K Hid M H v d
  | _, _, _, _, .nil, e => by simp at e
  | _, _, 0, _, .cons h _, e => by simp at e; subst e; exact ⟨_, rfl, h⟩
  | _, _, i + 1, d, .cons _ q, e => by
    obtain ⟨v, h1, h2⟩ := RpAll.get (i := i) (d := d) q (by simpa using e)
    exact ⟨v, by simpa using h1, h2⟩
theorem RpAll.getV : ∀ {ds : List DV} {vs : List V} {i : Nat} {v : V}, RpAll K Hid M H vs ds → vs[i]? = some v → ∃ d, ds[i]? = some d ∧ Rp K Hid M H v d
  | _, _, _, _, .nil, e => by simp at e
  | _, _, 0, _, .cons h _, e => by simp at e; subst e; exact ⟨_, rfl, h⟩
  | _, _, i + 1, v, .cons _ q, e => by
    obtain ⟨d, h1, h2⟩ := RpAll.getV (i := i) (v := v) q (by simpa using e)
    exact ⟨d, by simpa using h1, h2⟩
theorem RpAll.set : ∀ {ds : List DV} {vs : List V} (i : Nat) {v : V} {d : DV}, RpAll K Hid M H vs ds → Rp K Hid M H v d → RpAll K Hid M H (vs.set i v) (ds.set i d)
  | _, _, _, _, _, .nil, _ => .nil
  | _, _, 0, _, _, .cons _ q, r => .cons r q
  | _, _, i + 1, _, _, .cons h q, r => .cons h (RpAll.set i q r)
theorem RpAll.rev : ∀ {ds : List DV} {vs : List V}, RpAll K Hid M H vs ds → RpAll K Hid M H vs.reverse ds.reverse
  | _, _, .nil => .nil
  | _, _, .cons h q => by
    rw [List.reverse_cons, List.reverse_cons]
    exact RpAll.append (RpAll.rev q) (.cons h .nil)
theorem RpAll.of_fz : ∀ {ds : List PyData} {vs : List V}, FzAll K H (Fr0 Hid M) vs ds → RpAll K Hid M H vs (ds.map DV.dat)
  | _, _, .nil => .nil
  | _, _, .cons h q => .cons h (RpAll.of_fz q)
theorem RpAll.fz : ∀ {ds : List PyData} {vs : List V}, RpAll K Hid M H vs (ds.map DV.dat) → FzAll K H (Fr0 Hid M) vs ds
  | [], _, h => by cases h; exact .nil
  | d :: ds, _, h => by
    cases h with
    | cons h q => exact .cons h (RpAll.fz q)
/-- the managed list at a gets another content -/
theorem Sok.put (s : Sok K Hid M H) {a : Addr} {xs : List DV} {vs : List V} (h : M a ≠ none) (r : RpAll K Hid M H vs xs) :
    Fr M H (M.set a (.lst xs)) (upd H a (.lst vs)) ∧ Sok K Hid (M.set a (.lst xs)) (upd H a (.lst vs)) := by
  have f : Fr M H (M.set a (.lst xs)) (upd H a (.lst vs)) := by
    refine ⟨fun b o e n => ?_, fun b e n => ?_, fun b e => ?_⟩
    · have : b ≠ a := fun z => by subst z; exact h n
      rw [upd_ne this]; exact e
    · have : b ≠ a := fun z => by subst z; exact h n
      rw [Sto.set_ne this]; exact n
    · by_cases z : b = a
      · subst z; rw [Sto.set_same]; simp
      · rw [Sto.set_ne z]; exact e
  refine ⟨f, fun b m e => ?_, fun b hb => ?_⟩
  · by_cases z : b = a
    · subst z
      rw [Sto.set_same] at e; cases e
      exact ⟨vs, upd_same, r.keep s f⟩
    · rw [Sto.set_ne z] at e
      have := s.1 b m e
      cases m with
      | lst ys =>
        obtain ⟨us, e2, r2⟩ := this
        exact ⟨us, by rw [upd_ne z]; exact e2, r2.keep s f⟩
  · obtain ⟨h1, h2⟩ := s.2 b hb
    have z : b ≠ a := fun z => by subst z; exact h h2
    exact ⟨by rw [upd_ne z]; exact h1, by rw [Sto.set_ne z]; exact h2⟩
/-- a new unmanaged object -/
theorem Fr.alloc {p : Addr} (o : HO) (h : H p = none) : Fr M H M (upd H p o) := by
  refine ⟨fun b u e n => ?_, fun b e n => n, fun b e => e⟩
  rw [upd_ne (fun z => by subst z; rw [h] at e; cases e)]; exact e
theorem Sok.alloc (s : Sok K Hid M H) {p : Addr} {o : HO} (h : H p = none) : Sok K Hid M (upd H p o) := by
  have f : Fr M H M (upd H p o) := Fr.alloc o h
  refine ⟨fun b m e => ?_, fun b hb => ?_⟩
  · have := s.1 b m e
    cases m with
    | lst ys =>
      obtain ⟨us, e2, r2⟩ := this
      exact ⟨us, by rw [upd_ne (fun z => by subst z; rw [h] at e2; cases e2)]; exact e2, r2.keep s f⟩
  · obtain ⟨h1, h2⟩ := s.2 b hb
    exact ⟨by rw [upd_ne (fun z => by subst z; exact h1 h)]; exact h1, h2⟩
/-- a new managed list -/
theorem Sok.newL (s : Sok K Hid M H) {p : Addr} {xs : List DV} {vs : List V} (h : H p = none) (r : RpAll K Hid M H vs xs) :
    Fr M H (M.set p (.lst xs)) (upd H p (.lst vs)) ∧ Sok K Hid (M.set p (.lst xs)) (upd H p (.lst vs)) := by
  have hp : M p = none := s.fresh h
  have f : Fr M H (M.set p (.lst xs)) (upd H p (.lst vs)) := by
    refine ⟨fun b o e n => ?_, fun b e n => ?_, fun b e => ?_⟩
    · rw [upd_ne (fun z => by subst z; rw [h] at e; cases e)]; exact e
    · rw [Sto.set_ne (fun z => by subst z; exact e h)]; exact n
    · rw [Sto.set_ne (fun z => by subst z; exact e hp)]; exact e
  refine ⟨f, fun b m e => ?_, fun b hb => ?_⟩
  · by_cases z : b = p
    · subst z
      rw [Sto.set_same] at e; cases e
      exact ⟨vs, upd_same, r.keep s f⟩
    · rw [Sto.set_ne z] at e
      have := s.1 b m e
      cases m with
      | lst ys =>
        obtain ⟨us, e2, r2⟩ := this
        exact ⟨us, by rw [upd_ne z]; exact e2, r2.keep s f⟩
  · obtain ⟨h1, h2⟩ := s.2 b hb
    have z : b ≠ p := fun z => by subst z; exact h1 h
    exact ⟨by rw [upd_ne z]; exact h1, by rw [Sto.set_ne z]; exact h2⟩
theorem Ok.keep {env : Env} {σ : L2.St} (o : Ok K Hid M H env σ) (f : Fr M H M' H') (s : Sok K Hid M' H') : Ok K Hid M' H' env σ :=
  ⟨o.len, fun i dv e => let ⟨v, h1, h2⟩ := o.slot i dv e; ⟨v, h1, h2.keep o.sok f⟩, s⟩
theorem Ok.store {env : Env} {σ : L2.St} (o : Ok K Hid M H env σ) (i : Nat) {v : V} {dv : DV} (r : Rp K Hid M H v dv) : Ok K Hid M H (env.set i (some dv)) (σ.set i (some v)) := by
  refine ⟨by simp [o.len], fun j dw e => ?_, o.sok⟩
  by_cases h : i = j
  · subst h
    rw [List.getElem?_set] at e
    split at e
    · split at e
      · cases e
        refine ⟨v, ?_, r⟩
        rw [List.getElem?_set_self (by rw [← o.len]; assumption)]
      · cases e
    · exact absurd rfl (by assumption)
  · rw [List.getElem?_set_ne h] at e
    obtain ⟨u, h1, h2⟩ := o.slot j dw e
    exact ⟨u, by rw [List.getElem?_set_ne h]; exact h1, h2⟩
/-- slots forgotten -/
theorem Ok.weak {env env' : Env} {σ σ' : L2.St} (o : Ok K Hid M H env σ) (hl : env'.length = σ'.length) (w : ∀ (i : Nat) dv, env'[i]? = some (some dv) → env[i]? = some (some dv) ∧ σ'[i]? = σ[i]?) : Ok K Hid M H env' σ' :=
  ⟨hl, fun i dv e => by
    obtain ⟨e1, e2⟩ := w i dv e
    obtain ⟨v, h1, h2⟩ := o.slot i dv e1
    exact ⟨v, by rw [e2]; exact h1, h2⟩, o.sok⟩
end

/-- what is wanted of a value, told over the heap -/
def Post (K : PySem.W.Frag) (Hid : Addr → Prop) (M : Sto) (H : Hp) (R : DK) : VK := fun v H' => ∃ dv M', Fr M H M' H' ∧ Sok K Hid M' H' ∧ Rp K Hid M' H' v dv ∧ R dv M'
/-- a data reading as a reading of HandS -/
def up (K : PySem.W.Frag) (f : DT) : TE := fun σ H Q => ∃ Hid env M R, Ok K Hid M H env σ ∧ f env M R ∧ ∀ v H', Post K Hid M H R v H' → Q v H'
abbrev DE (X : Cx) (e : Expr) (f : DT) : Prop := PE X e (up X.K f)
theorem _root_.L2.PE.imp {X : Cx} {e : Expr} {t t' : TE} (h : PE X e t) (k : ∀ σ H Q, t' σ H Q → t σ H Q) : PE X e t' := ⟨fun pins s σ H Q I q => h.run pins s σ H Q I (k σ H Q q)⟩
theorem Post.trans {K : PySem.W.Frag} {Hid : Addr → Prop} {M M1 : Sto} {H H1 : Hp} {R : DK} {v : V} {H' : Hp} (f : Fr M H M1 H1) (p : Post K Hid M1 H1 R v H') : Post K Hid M H R v H' := by
  obtain ⟨dv, M', f', s, r, q⟩ := p
  exact ⟨dv, M', f.trans f', s, r, q⟩
theorem Post.same {K : PySem.W.Frag} {Hid : Addr → Prop} {M : Sto} {H : Hp} {R : DK} {v : V} {dv : DV} (s : Sok K Hid M H) (r : Rp K Hid M H v dv) (q : R dv M) : Post K Hid M H R v H := ⟨dv, M, Fr.refl _ _, s, r, q⟩
/-- run a data reading inside another -/
theorem up_of {K : PySem.W.Frag} {Hid : Addr → Prop} {env : Env} {M : Sto} {σ : L2.St} {H : Hp} {f : DT} {R : DK} {Q : VK} (o : Ok K Hid M H env σ) (h : f env M R)
    (k : ∀ dv M' v H', Fr M H M' H' → Ok K Hid M' H' env σ → Rp K Hid M' H' v dv → R dv M' → Q v H') : up K f σ H Q :=
  ⟨Hid, env, M, R, o, h, fun v H' ⟨dv, M', fr, s, r, q⟩ => k dv M' v H' fr (o.keep fr s) r q⟩

/-! ### names, constants -/
section
variable {X : Cx} {pos : Pos}
def dVar (i : Nat) : DT := fun env M R => ∃ dv, env[i]? = some (some dv) ∧ R dv M
theorem de_var {i : Nat} {x : Str} (h : PE X (.Name x pos) (tVar i)) : DE X (.Name x pos) (dVar i) :=
  h.imp fun σ H Q ⟨Hid, env, M, R, o, ⟨dv, e, q⟩, k⟩ => by
    obtain ⟨v, e1, r⟩ := o.slot i dv e
    exact ⟨v, e1, k v H (Post.same o.sok r q)⟩
def dC (d : PyData) : DT := fun _ M R => R (.dat d) M
theorem de_const {e : Expr} {v : V} {d : PyData} (h : PE X e (tC v)) (c : ∀ K H F, Fz K H F v d) : DE X e (dC d) :=
  h.imp fun σ H Q ⟨Hid, env, M, R, o, q, k⟩ => k v H (Post.same (dv := .dat d) o.sok (c _ _ _) q)
theorem de_int {i j pos} : DE X (.Constant (.int i) j pos) (dC (.int i)) := de_const pe_int fun _ _ _ => .int i
theorem de_bl {b j pos} : DE X (.Constant (.bool b) j pos) (dC (.bool b)) := de_const pe_bl fun _ _ _ => .bl b
theorem de_non {j pos} : DE X (.Constant .none j pos) (dC .none) := de_const pe_non fun _ _ _ => .non
theorem de_str {x j pos} : DE X (.Constant (.str x) j pos) (dC (.str x)) := de_const pe_str fun _ _ _ => .str x
end
/-! ### two values -/
/-- a binary operation over data -/
abbrev D2 := DV → DV → Sto → DK → Prop
def up2 (K : PySem.W.Frag) (g : D2) : R2 := fun x y H Q => ∃ Hid M dx dy R, Sok K Hid M H ∧ Rp K Hid M H x dx ∧ Rp K Hid M H y dy ∧ g dx dy M R ∧ ∀ v H', Post K Hid M H R v H' → Q v H'
abbrev OpD (X : Cx) (f : Value → Value → Sem Value) (g : D2) : Prop := OpR X f (up2 X.K g)
def d2 (g : D2) (fa fb : DT) : DT := fun env M R => fa env M fun x M1 => fb env M1 fun y M2 => g x y M2 R
theorem _root_.L2.OpR.imp {X : Cx} {f : Value → Value → Sem Value} {r r' : R2} (h : OpR X f r) (k : ∀ x y H Q, r' x y H Q → r x y H Q) : OpR X f r' := fun pins s σ H x y v u Q I rx ry q => h pins s σ H x y v u Q I rx ry (k x y H Q q)
theorem d2_up {K : PySem.W.Frag} {g : D2} {fa fb : DT} {σ : L2.St} {H : Hp} {Q : VK} (h : up K (d2 g fa fb) σ H Q) : tOp (up2 K g) (up K fa) (up K fb) σ H Q := by
  obtain ⟨Hid, env, M, R, o, q, k⟩ := h
  refine up_of o q fun x M1 vx H1 f1 o1 r1 q1 => ?_
  refine up_of o1 q1 fun y M2 vy H2 f2 o2 r2 q2 => ?_
  exact ⟨Hid, M2, x, y, R, o2.sok, r1.keep o1.sok f2, r2, q2, fun v H' p => k v H' (Post.trans (f1.trans f2) p)⟩
section
variable {X : Cx} {pos : Pos} {a b : Expr} {fa fb : DT}
theorem de_op {op : Operator} {g : D2} (ho : OpD X (binaryOp op) g) (ha : DE X a fa) (hb : DE X b fb) : DE X (.BinOp a op b pos) (d2 g fa fb) :=
  (pe_op ho ha hb).imp fun _ _ _ h => d2_up h
theorem de_cmp {op : CmpOp} {g : D2} (ho : OpD X (compareOp op) g) (ha : DE X a fa) (hb : DE X b fb) (hm : behindInMarks op b = false) : DE X (.Compare a [op] [b] pos) (d2 g fa fb) :=
  (pe_cmpR ho ha hb hm).imp fun _ _ _ h => d2_up h
end
/-- from a rule by values -/
theorem opd {X : Cx} {f : Value → Value → Sem Value} {r : R2} {g : D2} (ho : OpR X f r)
    (k : ∀ Hid M H x y dx dy R, Sok X.K Hid M H → Rp X.K Hid M H x dx → Rp X.K Hid M H y dy → g dx dy M R → r x y H (Post X.K Hid M H R)) (mono : ∀ x y H Q Q', (∀ v H', Q v H' → Q' v H') → r x y H Q → r x y H Q') : OpD X f g :=
  ho.imp fun x y H Q ⟨Hid, M, dx, dy, R, s, rx, ry, q, kk⟩ => mono x y H _ _ kk (k Hid M H x y dx dy R s rx ry q)

/-! ### tests -/
abbrev DTT := Env → Sto → (Bool → Sto → Prop) → Prop
def upT (K : PySem.W.Frag) (f : DTT) : TT := fun σ H Q => ∃ Hid env M R, Ok K Hid M H env σ ∧ f env M R ∧ ∀ b M' H', Fr M H M' H' → Sok K Hid M' H' → R b M' → Q b H'
abbrev DTs (X : Cx) (e : Expr) (f : DTT) : Prop := PT X e (upT X.K f)
theorem _root_.L2.PT.imp {X : Cx} {e : Expr} {t t' : TT} (h : PT X e t) (k : ∀ σ H Q, t' σ H Q → t σ H Q) : PT X e t' := ⟨fun pins s σ H Q I q => h.run pins s σ H Q I (k σ H Q q)⟩
theorem _root_.L2.PW.imp {X : Cx} {e : Expr} {t t' : TT} (h : PW X e t) (k : ∀ σ H Q, t' σ H Q → t σ H Q) : PW X e t' := ⟨fun w pins s σ H Q I q => h.run w pins s σ H Q I (k σ H Q q)⟩
theorem upT_of {K : PySem.W.Frag} {Hid : Addr → Prop} {env : Env} {M : Sto} {σ : L2.St} {H : Hp} {f : DTT} {R : Bool → Sto → Prop} {Q : Bool → Hp → Prop} (o : Ok K Hid M H env σ) (h : f env M R)
    (k : ∀ b M' H', Fr M H M' H' → Ok K Hid M' H' env σ → R b M' → Q b H') : upT K f σ H Q :=
  ⟨Hid, env, M, R, o, h, fun b M' H' fr s q => k b M' H' fr (o.keep fr s) q⟩
/-- a value that is a bool, as a test -/
def dB (f : DT) : DTT := fun env M R => f env M fun x M1 => match x with
  | .dat (.bool b) => R b M1
  | _ => False
theorem dB_inv {x : DV} {M : Sto} {R : Bool → Sto → Prop} (h : match x with | .dat (.bool b) => R b M | _ => False) : ∃ b, x = .dat (.bool b) ∧ R b M := by
  cases x with
  | dat d => cases d with
    | bool b => exact ⟨b, rfl, h⟩
    | _ => exact h.elim
  | obj a => exact h.elim
section
variable {X : Cx} {pos : Pos} {a b e : Expr} {fa fb f : DT} {rest : List Expr} {ta tb : DTT}
theorem dt_val (h : DE X e f) (he : ∀ whole, isTrue e X.env whole = (do let v ← whole; standAt e.pos; holding [v] (truthy v)) := by intro _; rfl) : DTs X e (dB f) :=
  (pt_val h he).imp fun σ H Q ⟨Hid, env, M, R, o, q, k⟩ => by
    refine up_of o q fun x M1 v H1 f1 o1 r1 q1 => ?_
    obtain ⟨b, rfl, q2⟩ := dB_inv q1
    cases r1
    exact ⟨b, rfl, k b M1 H1 f1 o1.sok q2⟩
theorem dt_cmp {op : CmpOp} {g : D2} (ho : OpD X (compareOp op) g) (ha : DE X a fa) (hb : DE X b fb) (hm : behindInMarks op b = false) : DTs X (.Compare a [op] [b] pos) (dB (d2 g fa fb)) :=
  (pt_cmpR ho ha hb hm).imp fun σ H Q ⟨Hid, env, M, R, o, q, k⟩ => by
    refine d2_up ?_
    refine up_of o q fun x M1 v H1 f1 o1 r1 q1 => ?_
    obtain ⟨b, rfl, q2⟩ := dB_inv q1
    cases r1
    exact ⟨b, rfl, k b M1 H1 f1 o1.sok q2⟩
def dNot (t : DTT) : DTT := fun env M R => t env M fun b M1 => R (!b) M1
theorem dt_not (h : DTs X a ta) : DTs X (.UnaryOp .Not a pos) (dNot ta) :=
  (pt_not h).imp fun σ H Q ⟨Hid, env, M, R, o, q, k⟩ => upT_of o q fun b M1 H1 f1 o1 q1 => k _ M1 H1 f1 o1.sok q1
def dAnd (t u : DTT) : DTT := fun env M R => t env M fun b M1 => if b = true then u env M1 R else R false M1
def dOr (t u : DTT) : DTT := fun env M R => t env M fun b M1 => if b = true then R true M1 else u env M1 R
abbrev DW (X : Cx) (e : Expr) (f : DTT) : Prop := PW X e (upT X.K f)
theorem dw_and1 (h : DTs X a ta) : DW X (.BoolOp .And [a] pos) ta := pw_and1 h
theorem dw_or1 (h : DTs X a ta) : DW X (.BoolOp .Or [a] pos) ta := pw_or1 h
theorem dw_and (h : DTs X a ta) (h2 : DW X (.BoolOp .And (b :: rest) pos) tb) : DW X (.BoolOp .And (a :: b :: rest) pos) (dAnd ta tb) :=
  (pw_and h h2).imp fun σ H Q ⟨Hid, env, M, R, o, q, k⟩ => upT_of o q fun c M1 H1 f1 o1 q1 => by
    cases c with
    | true =>
      rw [if_pos rfl] at q1 ⊢
      exact upT_of o1 q1 fun d M2 H2 f2 o2 q2 => k d M2 H2 (f1.trans f2) o2.sok q2
    | false =>
      rw [if_neg Bool.false_ne_true] at q1 ⊢
      exact k false M1 H1 f1 o1.sok q1
theorem dw_or (h : DTs X a ta) (h2 : DW X (.BoolOp .Or (b :: rest) pos) tb) : DW X (.BoolOp .Or (a :: b :: rest) pos) (dOr ta tb) :=
  (pw_or h h2).imp fun σ H Q ⟨Hid, env, M, R, o, q, k⟩ => upT_of o q fun c M1 H1 f1 o1 q1 => by
    cases c with
    | true =>
      rw [if_pos rfl] at q1 ⊢
      exact k true M1 H1 f1 o1.sok q1
    | false =>
      rw [if_neg Bool.false_ne_true] at q1 ⊢
      exact upT_of o1 q1 fun d M2 H2 f2 o2 q2 => k d M2 H2 (f1.trans f2) o2.sok q2
theorem dt_w (h : DW X e ta) : DTs X e ta := h.pt
/-- .. as values -/
def dAndV (fa fb : DT) : DT := fun env M R => fa env M fun x M1 => match x with
  | .dat (.bool b) => if b = true then fb env M1 R else R (.dat (.bool false)) M1
  | _ => False
def dOrV (fa fb : DT) : DT := fun env M R => fa env M fun x M1 => match x with
  | .dat (.bool b) => if b = true then R (.dat (.bool true)) M1 else fb env M1 R
  | _ => False
def dNotV (fa : DT) : DT := fun env M R => fa env M fun x M1 => match x with
  | .dat (.bool b) => R (.dat (.bool (!b))) M1
  | _ => False
theorem de_one {op} (h : DE X a fa) : DE X (.BoolOp op [a] pos) fa := pe_one h
theorem de_and (h : DE X a fa) (h2 : DE X (.BoolOp .And (b :: rest) pos) fb) : DE X (.BoolOp .And (a :: b :: rest) pos) (dAndV fa fb) :=
  (pe_and h h2).imp fun σ H Q ⟨Hid, env, M, R, o, q, k⟩ => up_of o q fun x M1 v H1 f1 o1 r1 q1 => by
    cases x with
    | obj a => exact q1.elim
    | dat d =>
      cases d with
      | bool c =>
        cases r1
        refine ⟨c, rfl, ?_⟩
        cases c with
        | true =>
          rw [if_pos rfl]
          exact up_of o1 (show fb env M1 R from q1) fun y M2 w H2 f2 o2 r2 q2 => k w H2 ⟨y, M2, f1.trans f2, o2.sok, r2, q2⟩
        | false =>
          rw [if_neg Bool.false_ne_true]
          exact k (.bl false) H1 ⟨.dat (.bool false), M1, f1, o1.sok, Fz.bl false, q1⟩
      | _ => exact q1.elim
theorem de_or (h : DE X a fa) (h2 : DE X (.BoolOp .Or (b :: rest) pos) fb) : DE X (.BoolOp .Or (a :: b :: rest) pos) (dOrV fa fb) :=
  (pe_or h h2).imp fun σ H Q ⟨Hid, env, M, R, o, q, k⟩ => up_of o q fun x M1 v H1 f1 o1 r1 q1 => by
    cases x with
    | obj a => exact q1.elim
    | dat d =>
      cases d with
      | bool c =>
        cases r1
        refine ⟨c, rfl, ?_⟩
        cases c with
        | false =>
          rw [if_neg Bool.false_ne_true]
          exact up_of o1 (show fb env M1 R from q1) fun y M2 w H2 f2 o2 r2 q2 => k w H2 ⟨y, M2, f1.trans f2, o2.sok, r2, q2⟩
        | true =>
          rw [if_pos rfl]
          exact k (.bl true) H1 ⟨.dat (.bool true), M1, f1, o1.sok, Fz.bl true, q1⟩
      | _ => exact q1.elim
theorem de_not (h : DE X a fa) : DE X (.UnaryOp .Not a pos) (dNotV fa) :=
  (pe_not h).imp fun σ H Q ⟨Hid, env, M, R, o, q, k⟩ => up_of o q fun x M1 v H1 f1 o1 r1 q1 => by
    cases x with
    | obj a => exact q1.elim
    | dat d =>
      cases d with
      | bool c =>
        cases r1
        exact ⟨c, rfl, k _ H1 ⟨.dat (.bool (!c)), M1, f1, o1.sok, Fz.bl _, q1⟩⟩
      | _ => exact q1.elim
def dIfE (t : DTT) (fa fb : DT) : DT := fun env M R => t env M fun c M1 => if c = true then fa env M1 R else fb env M1 R
theorem de_ifExp {c : Expr} (hc : DTs X c ta) (ha : DE X a fa) (hb : DE X b fb) : DE X (.IfExp c a b pos) (dIfE ta fa fb) :=
  (pe_ifExp hc ha hb).imp fun σ H Q ⟨Hid, env, M, R, o, q, k⟩ => upT_of o q fun c M1 H1 f1 o1 q1 => by
    cases c with
    | true =>
      rw [if_pos rfl] at q1 ⊢
      exact up_of o1 q1 fun y M2 w H2 f2 o2 r2 q2 => k w H2 ⟨y, M2, f1.trans f2, o2.sok, r2, q2⟩
    | false =>
      rw [if_neg Bool.false_ne_true] at q1 ⊢
      exact up_of o1 q1 fun y M2 w H2 f2 o2 r2 q2 => k w H2 ⟨y, M2, f1.trans f2, o2.sok, r2, q2⟩
end

/-! ### argument lists, displays -/
abbrev DA := Env → Sto → (List DV → Sto → Prop) → Prop
def upA (K : PySem.W.Frag) (f : DA) : TA := fun σ H Q => ∃ Hid env M R, Ok K Hid M H env σ ∧ f env M R ∧ ∀ dvs M' vs H', Fr M H M' H' → Sok K Hid M' H' → RpAll K Hid M' H' vs dvs → R dvs M' → Q vs H'
abbrev DAs (X : Cx) (es : List Expr) (f : DA) : Prop := PA X es (upA X.K f)
theorem _root_.L2.PA.imp {X : Cx} {es : List Expr} {t t' : TA} (h : PA X es t) (k : ∀ σ H Q, t' σ H Q → t σ H Q) : PA X es t' := ⟨fun ps pins s σ H Q I q => h.run ps pins s σ H Q I (k σ H Q q)⟩
theorem upA_of {K : PySem.W.Frag} {Hid : Addr → Prop} {env : Env} {M : Sto} {σ : L2.St} {H : Hp} {f : DA} {R : List DV → Sto → Prop} {Q : List V → Hp → Prop} (o : Ok K Hid M H env σ) (h : f env M R)
    (k : ∀ dvs M' vs H', Fr M H M' H' → Ok K Hid M' H' env σ → RpAll K Hid M' H' vs dvs → R dvs M' → Q vs H') : upA K f σ H Q :=
  ⟨Hid, env, M, R, o, h, fun dvs M' vs H' fr s r q => k dvs M' vs H' fr (o.keep fr s) r q⟩
def dNil : DA := fun _ M R => R [] M
def dCons (fa : DT) (fr : DA) : DA := fun env M R => fa env M fun x M1 => fr env M1 fun xs M2 => R (x :: xs) M2
section
variable {X : Cx} {pos : Pos} {e : Expr} {es : List Expr} {fa : DT} {fr : DA}
theorem da_nil : DAs X [] dNil := pa_nil.imp fun σ H Q ⟨Hid, env, M, R, o, q, k⟩ => k [] M [] H (Fr.refl _ _) o.sok .nil q
theorem da_cons (ha : DE X e fa) (hr : DAs X es fr) (hs : starEach (e :: es) X.env = (false, eval e X.env) :: starEach es X.env := by rfl) : DAs X (e :: es) (dCons fa fr) :=
  (pa_cons ha hr hs).imp fun σ H Q ⟨Hid, env, M, R, o, q, k⟩ => up_of o q fun x M1 v H1 f1 o1 r1 q1 => upA_of o1 q1 fun xs M2 vs H2 f2 o2 r2 q2 =>
    k (x :: xs) M2 (v :: vs) H2 (f1.trans f2) o2.sok (.cons (r1.keep o1.sok f2) r2) q2
/-- all are data -/
def dats : List DV → Option (List PyData)
  | [] => some []
  | .dat d :: r => (dats r).map (d :: ·)
  | .obj _ :: _ => none
theorem dats_map (ds : List PyData) : dats (ds.map DV.dat) = some ds := by
  induction ds with
  | nil => rfl
  | cons d ds ih => simp [dats, ih]
theorem dats_inv : ∀ {xs : List DV} {ds : List PyData}, dats xs = some ds → xs = ds.map DV.dat
  | [], _, h => by cases h; rfl
  | .dat d :: r, ds, h => by
    simp only [dats, Option.map_eq_some_iff] at h
    obtain ⟨es, h1, h2⟩ := h
    subst h2
    rw [dats_inv h1]; rfl
  | .obj _ :: _, _, h => by cases h
def dTup (fr : DA) : DT := fun env M R => fr env M fun xs M1 => match dats xs with
  | some ds => ds.length ≤ sizeLine ∧ R (.dat (.tuple ds)) M1
  | none => False
def dLst (fr : DA) : DT := fun env M R => fr env M fun xs M1 => match dats xs with
  | some ds => ds.length ≤ sizeLine ∧ R (.dat (.list ds)) M1
  | none => False
/-- a list display that is to be changed -/
def dLstN (fr : DA) : DT := fun env M R => fr env M fun xs M1 => xs.length ≤ sizeLine ∧ ∀ p, M1 p = none → R (.obj p) (M1.set p (.lst xs))
theorem post_tup {K : PySem.W.Frag} {Hid : Addr → Prop} {M : Sto} {H : Hp} {R : DK} {vs : List V} {ds : List PyData} {p : Addr} (s : Sok K Hid M H) (h : H p = none) (r : FzAll K H (Fr0 Hid M) vs ds) (q : R (.dat (.tuple ds)) M) :
    Post K Hid M H R (.ref p) (upd H p (.tup vs)) :=
  ⟨.dat (.tuple ds), M, Fr.alloc _ h, s.alloc h, Fz.tup (SqT.of upd_same) (r.keep s (Fr.alloc _ h)), q⟩
theorem post_lst {K : PySem.W.Frag} {Hid : Addr → Prop} {M : Sto} {H : Hp} {R : DK} {vs : List V} {ds : List PyData} {p : Addr} (s : Sok K Hid M H) (h : H p = none) (r : FzAll K H (Fr0 Hid M) vs ds) (q : R (.dat (.list ds)) M) :
    Post K Hid M H R (.ref p) (upd H p (.lst vs)) :=
  ⟨.dat (.list ds), M, Fr.alloc _ h, s.alloc h, Fz.lst (.inl ⟨.inl upd_same, s.fresh h, fun z => (s.2 p z).1 h⟩) (r.keep s (Fr.alloc _ h)), q⟩
theorem post_lstN {K : PySem.W.Frag} {Hid : Addr → Prop} {M : Sto} {H : Hp} {R : DK} {vs : List V} {xs : List DV} {p : Addr} (s : Sok K Hid M H) (h : H p = none) (r : RpAll K Hid M H vs xs) (q : R (.obj p) (M.set p (.lst xs))) :
    Post K Hid M H R (.ref p) (upd H p (.lst vs)) :=
  ⟨.obj p, _, (s.newL h r).1, (s.newL h r).2, ⟨rfl, _, Sto.set_same⟩, q⟩
theorem de_tup {x1} (h : DAs X es fr) : DE X (.Tuple es x1 pos) (dTup fr) :=
  (pe_tup h).imp fun σ H Q ⟨Hid, env, M, R, o, q, k⟩ => upA_of o q fun xs M1 vs H1 f1 o1 r1 q1 => by
    cases e : dats xs with
    | none => rw [e] at q1; exact q1.elim
    | some ds =>
      rw [e] at q1
      have := dats_inv e
      subst this
      refine ⟨by rw [r1.length, List.length_map]; exact q1.1, fun p hp => k _ _ (Post.trans f1 (post_tup o1.sok hp r1.fz q1.2))⟩
theorem de_lst (h : DAs X es fr) : DE X (.List es pos) (dLst fr) :=
  (pe_lst h).imp fun σ H Q ⟨Hid, env, M, R, o, q, k⟩ => upA_of o q fun xs M1 vs H1 f1 o1 r1 q1 => by
    cases e : dats xs with
    | none => rw [e] at q1; exact q1.elim
    | some ds =>
      rw [e] at q1
      have := dats_inv e
      subst this
      refine ⟨by rw [r1.length, List.length_map]; exact q1.1, fun p hp => k _ _ (Post.trans f1 (post_lst o1.sok hp r1.fz q1.2))⟩
theorem de_lstN (h : DAs X es fr) : DE X (.List es pos) (dLstN fr) :=
  (pe_lst h).imp fun σ H Q ⟨Hid, env, M, R, o, q, k⟩ => upA_of o q fun xs M1 vs H1 f1 o1 r1 q1 =>
    ⟨by rw [r1.length]; exact q1.1, fun p hp => k _ _ (Post.trans f1 (post_lstN o1.sok hp r1 (q1.2 p (o1.sok.fresh hp))))⟩
end
end DL
/-! the data layer: statements, targets, loops, comprehensions, calls, functions -/
namespace DL
open PySem PySem.Spec PyProof.Rows L2
abbrev Stt := L2.St

/-! ### ends of statements -/
structure DEnds where
  nx : Env → Sto → Prop
  rt : DK
  bk : Env → Sto → Prop := fun _ _ => False
  ct : Env → Sto → Prop := fun _ _ => False
abbrev DTS := DEnds → Env → Sto → Prop
def NxR (K : PySem.W.Frag) (Hid : Addr → Prop) (M : Sto) (H : Hp) (p : Env → Sto → Prop) (q : Stt → Hp → Prop) : Prop := ∀ env' M' σ' H', Fr M H M' H' → Ok K Hid M' H' env' σ' → p env' M' → q σ' H'
structure EndsR (K : PySem.W.Frag) (Hid : Addr → Prop) (M : Sto) (H : Hp) (DD : DEnds) (D : Ends) : Prop where
  nx : NxR K Hid M H DD.nx D.nx
  rt : ∀ v H', Post K Hid M H DD.rt v H' → D.rt v H'
  bk : NxR K Hid M H DD.bk D.bk
  ct : NxR K Hid M H DD.ct D.ct
def upS (K : PySem.W.Frag) (f : DTS) : TS := fun D σ H => ∃ Hid env M DD, Ok K Hid M H env σ ∧ f DD env M ∧ EndsR K Hid M H DD D
abbrev DS (X : Cx) (st : Stmt) (f : DTS) : Prop := PS X st (upS X.K f)
abbrev DSs (X : Cx) (st : List Stmt) (f : DTS) : Prop := PSs X st (upS X.K f)
theorem _root_.L2.PS.imp {X : Cx} {st : Stmt} {t t' : TS} (h : PS X st t) (k : ∀ D σ H, t' D σ H → t D σ H) : PS X st t' := ⟨fun pins s σ H D I q => h.run pins s σ H D I (k D σ H q)⟩
theorem _root_.L2.PSs.imp {X : Cx} {st : List Stmt} {t t' : TS} (h : PSs X st t) (k : ∀ D σ H, t' D σ H → t D σ H) : PSs X st t' := ⟨fun pins s σ H D I q => h.run pins s σ H D I (k D σ H q)⟩
section
variable {K : PySem.W.Frag} {Hid : Addr → Prop} {M M1 : Sto} {H H1 : Hp} {DD : DEnds} {D : Ends} {p : Env → Sto → Prop} {q : Stt → Hp → Prop}
theorem NxR.trans (f : Fr M H M1 H1) (e : NxR K Hid M H p q) : NxR K Hid M1 H1 p q := fun env' M' σ' H' f' o r => e env' M' σ' H' (f.trans f') o r
theorem EndsR.trans (f : Fr M H M1 H1) (e : EndsR K Hid M H DD D) : EndsR K Hid M1 H1 DD D :=
  ⟨e.nx.trans f, fun v H' r => e.rt v H' (r.trans f), e.bk.trans f, e.ct.trans f⟩
end
section
variable {X : Cx} {pos : Pos} {st : Stmt} {rest : List Stmt} {f g : DTS} {e : Expr} {fe : DT}
def dNext : DTS := fun DD env M => DD.nx env M
def dSeq (f g : DTS) : DTS := fun DD env M => f { DD with nx := g DD } env M
theorem dss_nil : DSs X [] dNext := pss_nil.imp fun D σ H ⟨Hid, env, M, DD, o, q, r⟩ => r.nx env M σ H (Fr.refl _ _) o q
theorem dss_cons (h1 : DS X st f) (h2 : DSs X rest g) : DSs X (st :: rest) (dSeq f g) :=
  (pss_cons h1 h2).imp fun D σ H ⟨Hid, env, M, DD, o, q, r⟩ =>
    ⟨Hid, env, M, { DD with nx := g DD }, o, q, ⟨fun env' M' σ' H' fr o' q' => ⟨Hid, env', M', DD, o', q', r.trans fr⟩, r.rt, r.bk, r.ct⟩⟩
theorem dss_one (h1 : DS X st f) : DSs X [st] f := pss_one h1
theorem ds_pass : DS X (.Pass pos) dNext := ps_pass.imp fun D σ H ⟨Hid, env, M, DD, o, q, r⟩ => r.nx env M σ H (Fr.refl _ _) o q
def dBreak : DTS := fun DD env M => DD.bk env M
def dCont : DTS := fun DD env M => DD.ct env M
theorem ds_break : DS X (.Break pos) dBreak := ps_break.imp fun D σ H ⟨Hid, env, M, DD, o, q, r⟩ => r.bk env M σ H (Fr.refl _ _) o q
theorem ds_continue : DS X (.Continue pos) dCont := ps_continue.imp fun D σ H ⟨Hid, env, M, DD, o, q, r⟩ => r.ct env M σ H (Fr.refl _ _) o q
def dDrop (fe : DT) : DTS := fun DD env M => fe env M fun _ M1 => DD.nx env M1
theorem ds_expr (he : DE X e fe) (hs : swapsWith e none pos.line X.env = pure false := by rfl) : DS X (.Expr e pos) (dDrop fe) :=
  (ps_expr he hs).imp fun D σ H ⟨Hid, env, M, DD, o, q, r⟩ => up_of o q fun dv M1 v H1 f1 o1 _ q1 => r.nx env M1 σ H1 f1 o1 q1
def dRet (fe : DT) : DTS := fun DD env M => fe env M DD.rt
theorem ds_ret (he : DE X e fe) : DS X (.Return (some e) pos) (dRet fe) :=
  (ps_ret he).imp fun D σ H ⟨Hid, env, M, DD, o, q, r⟩ => up_of o q fun dv M1 v H1 f1 o1 r1 q1 => r.rt v H1 ⟨dv, M1, f1, o1.sok, r1, q1⟩
def dRetN : DTS := fun DD _ M => DD.rt (.dat .none) M
theorem ds_retN : DS X (.Return none pos) dRetN :=
  ps_retN.imp fun D σ H ⟨Hid, env, M, DD, o, q, r⟩ => r.rt .non H (Post.same (dv := .dat .none) o.sok Fz.non q)
def dIf (c : DTT) (f g : DTS) : DTS := fun DD env M => c env M fun b M1 => if b = true then f DD env M1 else g DD env M1
theorem ds_if {c : Expr} {a b : List Stmt} {tc : DTT} (hc : DTs X c tc) (ha : DSs X a f) (hb : DSs X b g) : DS X (.If c a b pos) (dIf tc f g) :=
  (ps_if hc ha hb).imp fun D σ H ⟨Hid, env, M, DD, o, q, r⟩ => upT_of o q fun c M1 H1 f1 o1 q1 => by
    cases c with
    | true =>
      rw [if_pos rfl] at q1 ⊢
      exact ⟨Hid, env, M1, DD, o1, q1, r.trans f1⟩
    | false =>
      rw [if_neg Bool.false_ne_true] at q1 ⊢
      exact ⟨Hid, env, M1, DD, o1, q1, r.trans f1⟩
def dNever : DTS := fun _ _ _ => False
theorem ds_never : DS X st dNever := ps_never.imp fun D σ H ⟨_, _, _, _, _, q, _⟩ => q
theorem dss_never : DSs X rest dNever := pss_never.imp fun D σ H ⟨_, _, _, _, _, q, _⟩ => q
end

/-! ### targets -/
abbrev DG := DV → Env → Sto → (Env → Sto → Prop) → Prop
abbrev DGs := List DV → Env → Sto → (Env → Sto → Prop) → Prop
theorem wipe_at {σ : Stt} {j : Nat} : ∀ {vs : List Nat}, (wipe σ vs)[j]? = if j ∈ vs then (if j < σ.length then some none else none) else σ[j]?
  | [] => by simp [wipe]
  | v :: vs => by
    unfold wipe
    rw [List.getElem?_set, wipe_length]
    by_cases h : v = j
    · subst h
      simp
    · rw [if_neg h, wipe_at]
      have : (j ∈ v :: vs) ↔ j ∈ vs := by simp [show ¬ j = v from fun e => h e.symm]
      simp only [this]
theorem wipe_set {σ : Stt} {i : Nat} {x : Option V} {vs : List Nat} (h : i ∈ vs) : wipe (σ.set i x) vs = wipe σ vs := by
  apply List.ext_getElem?
  intro j
  rw [wipe_at, wipe_at, List.length_set]
  by_cases hj : j ∈ vs
  · rw [if_pos hj, if_pos hj]
  · rw [if_neg hj, if_neg hj, List.getElem?_set_ne (fun e => by subst e; exact hj h)]
def wipeD (env : Env) : List Nat → Env
  | [] => env
  | v :: vs => (wipeD env vs).set v none
theorem wipeD_length (env : Env) : ∀ vs : List Nat, (wipeD env vs).length = env.length
  | [] => rfl
  | v :: vs => by unfold wipeD; rw [List.length_set, wipeD_length env vs]
theorem wipeD_at {env : Env} {j : Nat} : ∀ {vs : List Nat}, (wipeD env vs)[j]? = if j ∈ vs then (if j < env.length then some none else none) else env[j]?
  | [] => by simp [wipeD]
  | v :: vs => by
    unfold wipeD
    rw [List.getElem?_set, wipeD_length]
    by_cases h : v = j
    · subst h
      simp
    · rw [if_neg h, wipeD_at]
      have : (j ∈ v :: vs) ↔ j ∈ vs := by simp [show ¬ j = v from fun e => h e.symm]
      simp only [this]
theorem Ok.wipe {K : PySem.W.Frag} {Hid : Addr → Prop} {M : Sto} {H : Hp} {env : Env} {σ : Stt} (o : Ok K Hid M H env σ) (vs : List Nat) : Ok K Hid M H (wipeD env vs) (wipe σ vs) := by
  refine o.weak (by rw [wipeD_length, wipe_length, o.len]) fun i dv e => ?_
  rw [wipeD_at] at e
  rw [wipe_at]
  by_cases h : i ∈ vs
  · rw [if_pos h] at e
    split at e <;> cases e
  · rw [if_neg h] at e
    rw [if_neg h]
    exact ⟨e, rfl⟩
/-- behind a target: only slots of vs are written -/
def NxG (K : PySem.W.Frag) (Hid : Addr → Prop) (vs : List Nat) (M : Sto) (H : Hp) (σ : Stt) (p : Env → Sto → Prop) (q : Stt → Hp → Prop) : Prop := ∀ env' M' σ' H', Fr M H M' H' → Ok K Hid M' H' env' σ' → wipe σ' vs = wipe σ vs → p env' M' → q σ' H'
theorem NxR.g {K : PySem.W.Frag} {Hid : Addr → Prop} {vs : List Nat} {M : Sto} {H : Hp} {σ : Stt} {p : Env → Sto → Prop} {q : Stt → Hp → Prop} (h : NxR K Hid M H p q) : NxG K Hid vs M H σ p q := fun env' M' σ' H' f o _ r => h env' M' σ' H' f o r
def upG (K : PySem.W.Frag) (vs : List Nat) (g : DG) : TG := fun v σ H Q => ∃ Hid env M dv R, Ok K Hid M H env σ ∧ Rp K Hid M H v dv ∧ g dv env M R ∧ NxG K Hid vs M H σ R Q
def upGs (K : PySem.W.Frag) (vs : List Nat) (g : DGs) : TGs := fun xs σ H Q => ∃ Hid env M dvs R, Ok K Hid M H env σ ∧ RpAll K Hid M H xs dvs ∧ g dvs env M R ∧ NxG K Hid vs M H σ R Q
abbrev DGt (X : Cx) (vs : List Nat) (e : Expr) (g : DG) : Prop := PG X e (upG X.K vs g)
abbrev DGts (X : Cx) (vs : List Nat) (es : List Expr) (g : DGs) : Prop := PGs X es (upGs X.K vs g)
theorem _root_.L2.PG.imp {X : Cx} {e : Expr} {t t' : TG} (h : PG X e t) (k : ∀ v σ H Q, t' v σ H Q → t v σ H Q) : PG X e t' := ⟨fun pins s σ H v u Q I r q => h.run pins s σ H v u Q I r (k v σ H Q q)⟩
theorem _root_.L2.PGs.imp {X : Cx} {es : List Expr} {t t' : TGs} (h : PGs X es t) (k : ∀ v σ H Q, t' v σ H Q → t v σ H Q) : PGs X es t' := ⟨fun pins s σ H v u Q I r q => h.run pins s σ H v u Q I r (k v σ H Q q)⟩
section
variable {X : Cx} {pos : Pos} {vs : List Nat}
def dgName (i : Nat) : DG := fun dv env M R => R (env.set i (some dv)) M
theorem dg_name {i : Nat} {e : Expr} (h : PG X e (gName i)) (hv : i ∈ vs := by decide) : DGt X vs e (dgName i) :=
  h.imp fun v σ H Q ⟨Hid, env, M, dv, R, o, r, q, k⟩ => k _ M _ H (Fr.refl _ _) (o.store i r) (wipe_set hv) q
def dgNil : DGs := fun dvs env M R => dvs = [] ∧ R env M
def dgCons (g : DG) (gs : DGs) : DGs := fun dvs env M R => match dvs with
  | [] => False
  | dv :: r => g dv env M fun env' M' => gs r env' M' R
theorem dgs_nil : DGts X vs [] dgNil := pgs_nil.imp fun xs σ H Q ⟨Hid, env, M, dvs, R, o, r, q, k⟩ => by
  obtain ⟨rfl, q⟩ := q
  cases r
  exact ⟨rfl, k env M σ H (Fr.refl _ _) o rfl q⟩
theorem dgs_cons {e : Expr} {es : List Expr} {g : DG} {gs : DGs} (h1 : DGt X vs e g) (h2 : DGts X vs es gs)
    (hs : (assignEach (e :: es) X.env).map (·.2) = assign e X.env :: (assignEach es X.env).map (·.2) := by rfl) : DGts X vs (e :: es) (dgCons g gs) :=
  (pgs_cons h1 h2 hs).imp fun xs σ H Q ⟨Hid, env, M, dvs, R, o, r, q, k⟩ => by
    cases r with
    | nil => exact q.elim
    | cons r rr =>
      exact ⟨_, _, rfl, Hid, env, M, _, _, o, r, q, fun env' M' σ' H' f o' w' q' => ⟨Hid, env', M', _, R, o', rr.keep o.sok f, q', fun e2 M2 σ2 H2 f2 o2 w2 q2 => k e2 M2 σ2 H2 (f.trans f2) o2 (w2.trans w') q2⟩⟩
def dgTup (n : Nat) (gs : DGs) : DG := fun dv env M R => match dv with
  | .dat (.tuple ds) => ds.length = n ∧ gs (ds.map DV.dat) env M R
  | _ => False
theorem dg_tup {es : List Expr} {k : Nat} {gs : DGs} {n : Nat} (hc : X.calm = true) (h : DGts X vs es gs)
    (hn : (assignEach es X.env).length = n := by rfl) (hst : (assignEach es X.env).findIdx? (·.1) = none := by rfl) : DGt X vs (.Tuple es k pos) (dgTup n gs) :=
  (pg_tup hc h hn hst).imp fun v σ H Q ⟨Hid, env, M, dv, R, o, r, q, kk⟩ => by
    cases dv with
    | obj a => exact q.elim
    | dat d =>
      cases d with
      | tuple ds =>
        obtain ⟨ql, q⟩ := q
        cases r with
        | tup hs ha => exact ⟨_, _, rfl, hs, by rw [ha.length]; exact ql, Hid, env, M, _, R, o, RpAll.of_fz ha, q, kk⟩
      | _ => exact q.elim
def dAsg (fe : DT) (g : DG) : DTS := fun DD env M => fe env M fun x M1 => g x env M1 DD.nx
theorem ds_asg {tg e : Expr} {fe : DT} {g : DG} (vs : List Nat) (he : DE X e fe) (hg : DGt X vs tg g) (hs : swapsWithSole [tg] e pos.line X.env = pure false := by rfl) (hw : swappedStores [tg] e X.env = pure none := by rfl)
    (h1 : (assignEach [tg] X.env).map (·.2) = [assign tg X.env] := by rfl) : DS X (.Assign [tg] e pos) (dAsg fe g) :=
  (ps_asg he hg hs hw h1).imp fun D σ H ⟨Hid, env, M, DD, o, q, r⟩ => up_of o q fun x M1 v H1 f1 o1 r1 q1 => ⟨Hid, env, M1, x, DD.nx, o1, r1, q1, (r.nx.trans f1).g⟩
/-- name = value: from HandS's ps_set -/
theorem ds_set {st : Stmt} {fe : DT} {i : Nat} (h : PS X st (tAsg (up X.K fe) (gName i))) : DS X st (dAsg fe (dgName i)) :=
  h.imp fun D σ H ⟨Hid, env, M, DD, o, q, r⟩ => up_of o q fun x M1 v H1 f1 o1 r1 q1 => r.nx _ M1 _ H1 f1 (o1.store i r1) q1
end

/-! ### what is walked -/
/-- an iterator of HandS that yields these items while S holds of the store -/
structure ItD (K : PySem.W.Frag) (Hid : Addr → Prop) (J : It) (xs : List DV) (S : Sto → Prop) (M0 : Sto) (H0 : Hp) : Prop where
  go : ∀ Hi M H i, (∀ a, Hi a → Hid a ∨ H0 a = none) → Fr M0 H0 M H → Sok K Hi M H → S M → i < xs.length → J.go i H
  yld : ∀ Hi M H i x H' dv, (∀ a, Hi a → Hid a ∨ H0 a = none) → Fr M0 H0 M H → Sok K Hi M H → S M → xs[i]? = some dv → J.yld i H x H' → Fr M H M H' ∧ Sok K Hi M H' ∧ Rp K Hi M H' x dv
  stop : ∀ Hi M H, (∀ a, Hi a → Hid a ∨ H0 a = none) → Fr M0 H0 M H → Sok K Hi M H → S M → J.stop xs.length H
abbrev DI := Env → Sto → (List DV → (Sto → Prop) → Sto → Prop) → Prop
def upI (K : PySem.W.Frag) (f : DI) : TI := fun σ H R => ∃ Hid env M RR, Ok K Hid M H env σ ∧ f env M RR ∧ ∀ J xs S M' H', Fr M H M' H' → Sok K Hid M' H' → ItD K Hid J xs S M' H' → RR xs S M' → R J H'
abbrev DIt (X : Cx) (tg it : Expr) (f : DI) : Prop := PI X tg it (upI X.K f)
theorem _root_.L2.PI.imp {X : Cx} {tg e : Expr} {t t' : TI} (h : PI X tg e t) (k : ∀ σ H Q, t' σ H Q → t σ H Q) : PI X tg e t' := ⟨fun pins s σ H Q I q => h.run pins s σ H Q I (k σ H Q q)⟩

section
variable {X : Cx} {pos : Pos} {tg it : Expr} {body : List Stmt} {src : DI} {g : DG} {tb : DTS}
/-- for: an invariant over (turn, slots, store) -/
def dFor (src : DI) (g : DG) (tb : DTS) : DTS := fun DD env M => src env M fun xs S M1 => ∃ Pv : Nat → Env → Sto → Prop, Pv 0 env M1 ∧ (∀ i env M, i ≤ xs.length → Pv i env M → S M) ∧
  (∀ i x env M, xs[i]? = some x → Pv i env M → g x env M fun env2 M2 => tb { DD with nx := Pv (i + 1), ct := Pv (i + 1), bk := DD.nx } env2 M2) ∧ ∀ env M, Pv xs.length env M → DD.nx env M
theorem ds_for (vs : List Nat) (hp : PassesOwn (model X.prog X.w) X.A X.env X.xe) (hc : X.calm = true) (hi : DIt X tg it src) (hg : DGt X vs tg g) (hb : DSs X body tb)
    (hs : ∀ x, foldedSetIterable it X.env x = pure x := by intro _; rfl) : DS X (.For tg it body [] pos) (dFor src g tb) :=
  (ps_for hp hc hi hg hb hs).imp fun D σ H ⟨Hid, env, M, DD, o, q, r⟩ => by
    refine ⟨Hid, env, M, _, o, q, fun J xs S M1 H1 f1 s1 it1 ⟨Pv, p0, pS, step, done⟩ => ?_⟩
    refine ⟨fun i m σ H => m = xs.length - i ∧ i ≤ xs.length ∧ ∃ env M, Fr M1 H1 M H ∧ Ok X.K Hid M H env σ ∧ Pv i env M, ⟨xs.length, by simp, Nat.zero_le _, env, M1, Fr.refl _ _, o.keep f1 s1, p0⟩, ?_⟩
    rintro i m σ H ⟨rfl, hi, env, M, f, o2, p⟩
    by_cases hlt : i < xs.length
    · refine .inr ⟨it1.go Hid M H i (fun _ z => .inl z) f o2.sok (pS i env M hi p) hlt, fun σ' H' => ∃ env' M', Fr M1 H1 M' H' ∧ Ok X.K Hid M' H' env' σ' ∧ Pv (i + 1) env' M', fun σ' H' ⟨env', M', f', o', p'⟩ => ⟨xs.length - (i + 1), by omega, rfl, hlt, env', M', f', o', p'⟩, fun x H' y => ?_⟩
      obtain ⟨f2, s2, r2⟩ := it1.yld Hid M H i x H' xs[i] (fun _ z => .inl z) f o2.sok (pS i env M hi p) (by simp [hlt]) y
      refine ⟨Hid, env, M, xs[i], _, o2.keep f2 s2, r2, step i xs[i] env M (by simp [hlt]) p, fun env3 M3 σ3 H3 f3 o3 _ q3 => ?_⟩
      have ff := (f.trans f2).trans f3
      refine ⟨Hid, env3, M3, _, o3, q3, ⟨fun e4 M4 σ4 H4 f4 o4 p4 => ⟨e4, M4, ff.trans f4, o4, p4⟩, fun v H4 p4 => r.rt v H4 ((p4.trans ff).trans f1), fun e4 M4 σ4 H4 f4 o4 p4 => r.nx e4 M4 σ4 H4 (f1.trans (ff.trans f4)) o4 p4, fun e4 M4 σ4 H4 f4 o4 p4 => ⟨e4, M4, ff.trans f4, o4, p4⟩⟩⟩
    · have e : i = xs.length := by omega
      subst e
      exact .inl ⟨it1.stop Hid M H (fun _ z => .inl z) f o2.sok (pS _ env M (Nat.le_refl _) p), r.nx env M σ H (f1.trans f) o2 (done env M p)⟩
def dWhile (c : DTT) (tb : DTS) : DTS := fun DD env M => ∃ (Pv : Env → Sto → Prop) (μ : Env → Sto → Nat), Pv env M ∧ ∀ env M, Pv env M → c env M fun b M1 =>
  if b = true then tb { DD with nx := fun e m => Pv e m ∧ μ e m < μ env M, ct := fun e m => Pv e m ∧ μ e m < μ env M, bk := DD.nx } env M1 else DD.nx env M1
theorem ds_while {c : Expr} {tc : DTT} (hp : PassesOwn (model X.prog X.w) X.A X.env X.xe) (hc : DTs X c tc) (hb : DSs X body tb) : DS X (.While c body [] pos) (dWhile tc tb) :=
  (ps_while hp hc hb).imp fun D σ H ⟨Hid, env, M, DD, o, ⟨Pv, μ, p0, step⟩, r⟩ => by
    refine ⟨fun m σ' H' => ∃ env' M', Fr M H M' H' ∧ Ok X.K Hid M' H' env' σ' ∧ Pv env' M' ∧ m = μ env' M', ⟨_, env, M, Fr.refl _ _, o, p0, rfl⟩, ?_⟩
    rintro m σ1 H1 ⟨env1, M1, f1, o1, p1, rfl⟩
    refine upT_of o1 (step env1 M1 p1) fun b M2 H2 f2 o2 q2 => ?_
    have ff := f1.trans f2
    cases b with
    | true =>
      rw [if_pos rfl] at q2 ⊢
      refine ⟨fun σ' H' => ∃ env' M', Fr M H M' H' ∧ Ok X.K Hid M' H' env' σ' ∧ Pv env' M' ∧ μ env' M' < μ env1 M1, fun σ' H' ⟨e, m, f, o, p, l⟩ => ⟨_, l, e, m, f, o, p, rfl⟩, Hid, env1, M2, _, o2, q2,
        ⟨fun e4 M4 σ4 H4 f4 o4 p4 => ⟨e4, M4, ff.trans f4, o4, p4.1, p4.2⟩, fun v H4 p4 => r.rt v H4 (p4.trans ff), fun e4 M4 σ4 H4 f4 o4 p4 => r.nx e4 M4 σ4 H4 (ff.trans f4) o4 p4, fun e4 M4 σ4 H4 f4 o4 p4 => ⟨e4, M4, ff.trans f4, o4, p4.1, p4.2⟩⟩⟩
    | false =>
      rw [if_neg Bool.false_ne_true] at q2 ⊢
      exact r.nx env1 M2 σ1 H2 ff o2 q2
end

/-! ### comprehensions -/
section
variable {K : PySem.W.Frag} {Hid Hi : Addr → Prop} {M : Sto} {H : Hp}
theorem Fz.hid (h : ∀ a, Hi a → Hid a ∨ H a = none) {v : V} {d : PyData} (r : Fz K H (Fr0 Hid M) v d) : Fz K H (Fr0 Hi M) v d :=
  Fz.mono (fun a xs q f => ⟨q, f.1, fun z => (h a z).elim f.2 fun n => by
    rcases q with q | ⟨_, q⟩ <;> (rw [n] at q; cases q)⟩) (fun _ _ q => q) r
theorem Rp.hid (h : ∀ a, Hi a → Hid a ∨ H a = none) : ∀ {dv : DV} {v : V}, Rp K Hid M H v dv → Rp K Hi M H v dv
  | .dat _, _, r => Fz.hid h r
  | .obj _, _, r => r
theorem RpAll.hid (h : ∀ a, Hi a → Hid a ∨ H a = none) : ∀ {ds : List DV} {vs : List V}, RpAll K Hid M H vs ds → RpAll K Hi M H vs ds
  | _, _, .nil => .nil
  | _, _, .cons r q => .cons (r.hid h) (q.hid h)
theorem Rp.keepT {M' : Sto} {H' : Hp} (t : ∀ a xs, SqT K H a xs → SqT K H' a xs) (f : Fr M H M' H') : ∀ {dv : DV} {v : V}, Rp K Hid M H v dv → Rp K Hid M' H' v dv
  | .dat _, _, h => Fz.mono (fun a xs r q => ⟨(f.rd r q.1).1, (f.rd r q.1).2, q.2⟩) t h
  | .obj a, _, ⟨e, m, q⟩ => ⟨e, by
    have := f.man a (by rw [q]; simp)
    cases e : M' a with
    | none => exact absurd e this
    | some m => exact ⟨m, rfl⟩⟩
theorem RpAll.keepT {M' : Sto} {H' : Hp} (t : ∀ a xs, SqT K H a xs → SqT K H' a xs) (f : Fr M H M' H') : ∀ {ds : List DV} {vs : List V}, RpAll K Hid M H vs ds → RpAll K Hid M' H' vs ds
  | _, _, .nil => .nil
  | _, _, .cons h q => .cons (h.keepT t f) (q.keepT t f)
theorem Sok.hid (s : Sok K Hid M H) (h : ∀ a, Hi a → Hid a ∨ H a = none) (h2 : ∀ a, Hi a → H a ≠ none ∧ M a = none) : Sok K Hi M H :=
  ⟨fun a m e => match m, s.1 a m e with | .lst _, ⟨vs, e2, r⟩ => ⟨vs, e2, r.hid h⟩, h2⟩
end
section
variable {X : Cx} {pos : Pos}
abbrev DTss (X : Cx) (ifs : List Expr) (f : DTT) : Prop := PTs X ifs (upT X.K f)
def dYes : DTT := fun _ M R => R true M
theorem dts_nil : DTss X [] dYes := ⟨fun pins s σ H Q I ⟨Hid, env, M, R, o, q, k⟩ => pts_nil.run pins s σ H Q I (k true M H (Fr.refl _ _) o.sok q)⟩
theorem dts_one {c : Expr} {t : DTT} (h : DTs X c t) : DTss X [c] t := pts_one h
/-- the invariant over (turn, what is made so far, store) -/
def LcInv (vs : List Nat) (g : DG) (tt : DTT) (te : DT) (env : Env) (xs : List DV) (S : Sto → Prop) (M1 : Sto) (fin : List DV → Sto → Prop) : Prop :=
  ∃ Pv : Nat → List DV → Sto → Prop, Pv 0 [] M1 ∧ (∀ i acc M, i ≤ xs.length → Pv i acc M → S M) ∧
  (∀ i x acc M, xs[i]? = some x → Pv i acc M → g x (wipeD env vs) M fun env2 M2 => tt env2 M2 fun b M3 =>
    if b = true then te env2 M3 fun y M4 => acc.length < sizeLine ∧ Pv (i + 1) (acc ++ [y]) M4 else Pv (i + 1) acc M3) ∧
  ∀ acc M, Pv xs.length acc M → fin acc M
def dLc (src : DI) (g : DG) (tt : DTT) (te : DT) (vs : List Nat) : DT := fun env M R => src env M fun xs S M1 => LcInv vs g tt te env xs S M1 fun acc M2 => ∃ ds, acc = ds.map DV.dat ∧ R (.dat (.list ds)) M2
def dLcN (src : DI) (g : DG) (tt : DTT) (te : DT) (vs : List Nat) : DT := fun env M R => src env M fun xs S M1 => LcInv vs g tt te env xs S M1 fun acc M2 => ∀ p, M2 p = none → R (.obj p) (M2.set p (.lst acc))
theorem wipe_wipe (σ : Stt) (vs : List Nat) : wipe (wipe σ vs) vs = wipe σ vs := by
  apply List.ext_getElem?
  intro j
  rw [wipe_at, wipe_length, wipe_at]
  by_cases h : j ∈ vs
  · simp [h]
  · simp [h]
/-- a hidden list changes -/
theorem Fr.later {M1 M : Sto} {H1 H : Hp} {D : Addr} {o' : HO} (f : Fr M1 H1 M H) (n : H1 D = none) : Fr M1 H1 M (upd H D o') :=
  ⟨fun a o e z => by rw [upd_ne (fun y => by subst y; rw [n] at e; cases e)]; exact f.keep a o e z, f.unm, f.man⟩
theorem Rp.hidden {K : PySem.W.Frag} {Hi : Addr → Prop} {M : Sto} {H : Hp} {D : Addr} {xs : List V} {o' : HO} (e : H D = some (.lst xs)) (hd : Hi D) {dv : DV} {v : V} (r : Rp K Hi M H v dv) : Rp K Hi M (upd H D o') v dv := by
  cases dv with
  | obj a => exact r
  | dat d =>
    refine Fz.mono (fun a ys q f => ⟨?_, f⟩) (fun a ys q => ?_) (show Fz K H (Fr0 Hi M) v d from r)
    · have z : a ≠ D := fun z => f.2 (by rw [z]; exact hd)
      rcases q with q | ⟨o, q⟩
      · exact .inl (by rw [upd_ne z]; exact q)
      · exact .inr ⟨o, by rw [upd_ne z]; exact q⟩
    · rcases q with (q | ⟨o, q⟩) | q
      · exact .inl (.inl (by rw [upd_ne (ne_of q e (by intro z; cases z))]; exact q))
      · exact .inl (.inr ⟨o, by rw [upd_ne (ne_of q e (by intro z; cases z))]; exact q⟩)
      · exact .inr q
theorem RpAll.hidden {K : PySem.W.Frag} {Hi : Addr → Prop} {M : Sto} {H : Hp} {D : Addr} {xs : List V} {o' : HO} (e : H D = some (.lst xs)) (hd : Hi D) : ∀ {ds : List DV} {vs : List V}, RpAll K Hi M H vs ds → RpAll K Hi M (upd H D o') vs ds
  | _, _, .nil => .nil
  | _, _, .cons r q => .cons (r.hidden e hd) (q.hidden e hd)
theorem Sok.hidden {K : PySem.W.Frag} {Hi : Addr → Prop} {M : Sto} {H : Hp} {D : Addr} {xs : List V} {o' : HO} (s : Sok K Hi M H) (e : H D = some (.lst xs)) (hd : Hi D) : Sok K Hi M (upd H D o') := by
  refine ⟨fun a m h => ?_, fun a z => ⟨?_, (s.2 a z).2⟩⟩
  · have nd : a ≠ D := fun y => by subst y; rw [(s.2 a hd).2] at h; cases h
    have := s.1 a m h
    cases m with
    | lst ys =>
      obtain ⟨us, e2, r2⟩ := this
      exact ⟨us, by rw [upd_ne nd]; exact e2, r2.hidden e hd⟩
  · by_cases y : a = D
    · subst y; rw [upd_same]; simp
    · rw [upd_ne y]; exact (s.2 a z).1
theorem lc_up {K : PySem.W.Frag} {src : DI} {g : DG} {tt : DTT} {te : DT} {vs : List Nat} {σ : Stt} {H : Hp} {Q : VK} {Hid : Addr → Prop} {env : Env} {M : Sto} {fin : List DV → Sto → Prop} (o : Ok K Hid M H env σ)
    (q : src env M fun xs S M1 => LcInv vs g tt te env xs S M1 fin)
    (k : ∀ D acc avs M2 H2, H D = none → Fr M H M2 H2 → Sok K (fun a => Hid a ∨ a = D) M2 H2 → H2 D = some (.lst avs) → ¬ Hid D → RpAll K (fun a => Hid a ∨ a = D) M2 H2 avs acc → fin acc M2 → Q (.ref D) H2) :
    tLc (upI K src) (upG K vs g) (upT K tt) (up K te) vs σ H Q := by
  refine ⟨Hid, env, M, _, o, q, fun J xs S M1 H1 f1 s1 it1 ⟨Pv, p0, pS, step, done⟩ D hD => ?_⟩
  have nD : ¬ Hid D := fun z => (s1.2 D z).1 hD
  have hh : ∀ a, (Hid a ∨ a = D) → Hid a ∨ H1 a = none := fun a z => z.imp id fun e => by rw [e]; exact hD
  have o1 : Ok K Hid M1 H1 env σ := o.keep f1 s1
  have fD : Fr M1 H1 M1 (upd H1 D (.lst [])) := Fr.alloc _ hD
  have sD : Sok K (fun a => Hid a ∨ a = D) M1 (upd H1 D (.lst [])) := by
    have s0 : Sok K Hid M1 (upd H1 D (.lst [])) := s1.alloc hD
    refine ⟨fun a m e => ?_, fun a z => ?_⟩
    · have := s1.1 a m e
      cases m with
      | lst ys =>
        obtain ⟨us, e2, r2⟩ := this
        exact ⟨us, by rw [upd_ne (fun z => by subst z; rw [hD] at e2; cases e2)]; exact e2, (r2.hid hh).keepT (fun b ys q => s1.tup fD q) fD⟩
    · rcases z with z | z
      · exact s0.2 a z
      · subst z
        exact ⟨by rw [upd_same]; simp, s1.fresh hD⟩
  refine ⟨fun i m H => m = xs.length - i ∧ i ≤ xs.length ∧ ∃ acc avs M, Fr M1 H1 M H ∧ Sok K (fun a => Hid a ∨ a = D) M H ∧ H D = some (.lst avs) ∧ RpAll K (fun a => Hid a ∨ a = D) M H avs acc ∧ Pv i acc M,
    ⟨xs.length, by simp, Nat.zero_le _, [], [], M1, fD, sD, upd_same, .nil, p0⟩, ?_⟩
  rintro i m H2 ⟨rfl, hi, acc, avs, M2, f2, s2, hD2, r2, p⟩
  by_cases hlt : i < xs.length
  · refine .inr ⟨it1.go _ M2 H2 i hh f2 s2 (pS i acc M2 hi p) hlt, fun H' => ∃ acc avs M, Fr M1 H1 M H' ∧ Sok K (fun a => Hid a ∨ a = D) M H' ∧ H' D = some (.lst avs) ∧ RpAll K (fun a => Hid a ∨ a = D) M H' avs acc ∧ Pv (i + 1) acc M,
      fun H' ⟨acc, avs, M, f, s, e, r, p⟩ => ⟨xs.length - (i + 1), by omega, rfl, hlt, acc, avs, M, f, s, e, r, p⟩, fun x H3 y => ?_⟩
    obtain ⟨f3, s3, r3⟩ := it1.yld _ M2 H2 i x H3 xs[i] hh f2 s2 (pS i acc M2 hi p) (by simp [hlt]) y
    have oo : Ok K (fun a => Hid a ∨ a = D) M2 H3 (wipeD env vs) (wipe σ vs) := by
      refine Ok.wipe ⟨o.len, fun j dv e => ?_, s3⟩ vs
      obtain ⟨v, h1, h2⟩ := o1.slot j dv e
      exact ⟨v, h1, (h2.hid hh).keepT (fun b ys q => s1.tup (f2.trans f3) q) (f2.trans f3)⟩
    refine ⟨_, _, M2, xs[i], _, oo, r3, step i xs[i] acc M2 (by simp [hlt]) p, fun env4 M4 σ4 H4 f4 o4 w4 q4 => ⟨w4.trans (wipe_wipe σ vs), upT_of o4 q4 fun b M5 H5 f5 o5 q5 => ?_⟩⟩
    have nM : M2 D = none := (s2.2 D (.inr rfl)).2
    have ff5 := (f3.trans f4).trans f5
    cases b with
    | true =>
      rw [if_pos rfl] at q5 ⊢
      refine up_of o5 q5 fun yv M6 v H6 f6 o6 r6 q6 => ?_
      have ff := ff5.trans f6
      have e6 : H6 D = some (.lst avs) := ff.keep D _ hD2 nM
      have n6 : M6 D = none := ff.unm D (by rw [hD2]; simp) nM
      have r7 : RpAll K (fun a => Hid a ∨ a = D) M6 H6 avs acc := r2.keep s2 ff
      refine ⟨avs, e6, by rw [r7.length]; exact q6.1, acc ++ [yv], avs ++ [v], M6, (f2.trans ff).later hD, Sok.hidden o6.sok e6 (.inr rfl), upd_same, ?_, q6.2⟩
      exact RpAll.hidden e6 (.inr rfl) (RpAll.append r7 (.cons r6 .nil))
    | false =>
      rw [if_neg Bool.false_ne_true] at q5 ⊢
      exact ⟨acc, avs, M5, f2.trans ff5, o5.sok, ff5.keep D _ hD2 nM, r2.keep s2 ff5, q5⟩
  · have e : i = xs.length := by omega
    subst e
    exact .inl ⟨it1.stop _ M2 H2 hh f2 s2 (pS _ acc M2 (Nat.le_refl _) p), k D acc avs M2 H2 (by
      cases e : H D with
      | none => rfl
      | some ob =>
        cases e2 : M D with
        | none => have := f1.keep D ob e e2; rw [hD] at this; cases this
        | some m => exact absurd (s1.fresh hD) (f1.man D (by rw [e2]; simp))) (f1.trans f2) s2 hD2 nD r2 (done acc M2 p)⟩
end

/-- at the end: the list as data -/
theorem lc_fin {K : PySem.W.Frag} {Hid : Addr → Prop} {M M2 : Sto} {H H2 : Hp} {R : DK} {D : Addr} {avs : List V} {ds : List PyData} (f : Fr M H M2 H2) (s : Sok K (fun a => Hid a ∨ a = D) M2 H2) (e : H2 D = some (.lst avs)) (nD : ¬ Hid D)
    (r : RpAll K (fun a => Hid a ∨ a = D) M2 H2 avs (ds.map DV.dat)) (q : R (.dat (.list ds)) M2) : Post K Hid M H R (.ref D) H2 := by
  have h1 : ∀ a, Hid a → (Hid a ∨ a = D) ∨ H2 a = none := fun a z => .inl (.inl z)
  refine ⟨.dat (.list ds), M2, f, s.hid h1 (fun a z => s.2 a (.inl z)), ?_, q⟩
  exact Fz.lst (.inl ⟨.inl e, (s.2 D (.inr rfl)).2, nD⟩) (r.hid h1).fz
theorem lc_finN {K : PySem.W.Frag} {Hid : Addr → Prop} {M M2 : Sto} {H H2 : Hp} {R : DK} {D : Addr} {avs : List V} {acc : List DV} (f : Fr M H M2 H2) (hD : H D = none) (s : Sok K (fun a => Hid a ∨ a = D) M2 H2) (e : H2 D = some (.lst avs)) (nD : ¬ Hid D)
    (r : RpAll K (fun a => Hid a ∨ a = D) M2 H2 avs acc) (q : R (.obj D) (M2.set D (.lst acc))) : Post K Hid M H R (.ref D) H2 := by
  have h1 : ∀ a, Hid a → (Hid a ∨ a = D) ∨ H2 a = none := fun a z => .inl (.inl z)
  have nM : M2 D = none := (s.2 D (.inr rfl)).2
  have t : ∀ a xs, SqT K H2 a xs → SqT K H2 a xs := fun _ _ q => q
  -- D becomes managed: no frozen list lies there
  have gR : ∀ {dv v}, Rp K (fun a => Hid a ∨ a = D) M2 H2 v dv → Rp K Hid (M2.set D (.lst acc)) H2 v dv := fun {dv v} r => by
    cases dv with
    | obj a =>
      obtain ⟨e, m, q⟩ := r
      refine ⟨e, ?_⟩
      by_cases z : a = D
      · subst z; exact ⟨_, Sto.set_same⟩
      · exact ⟨m, by rw [Sto.set_ne z]; exact q⟩
    | dat d => exact Fz.mono (fun a ys q f => ⟨q, by rw [Sto.set_ne (fun z => f.2 (.inr z))]; exact f.1, fun z => f.2 (.inl z)⟩) t (show Fz K H2 _ v d from r)
  have gA : ∀ {ds vs}, RpAll K (fun a => Hid a ∨ a = D) M2 H2 vs ds → RpAll K Hid (M2.set D (.lst acc)) H2 vs ds := fun {ds vs} r => by
    induction r with
    | nil => exact .nil
    | cons h _ ih => exact .cons (gR h) ih
  refine ⟨.obj D, M2.set D (.lst acc), ⟨f.keep, fun a h n => ?_, fun a h => ?_⟩, ⟨fun a m h => ?_, fun a z => ?_⟩, ⟨rfl, _, Sto.set_same⟩, q⟩
  · rw [Sto.set_ne (fun z => by subst z; exact h hD)]; exact f.unm a h n
  · by_cases z : a = D
    · subst z; rw [Sto.set_same]; simp
    · rw [Sto.set_ne z]; exact f.man a h
  · by_cases z : a = D
    · subst z
      rw [Sto.set_same] at h; cases h
      exact ⟨avs, e, gA r⟩
    · rw [Sto.set_ne z] at h
      have := s.1 a m h
      cases m with
      | lst ys => obtain ⟨us, e2, r2⟩ := this; exact ⟨us, e2, gA r2⟩
  · have zD : a ≠ D := fun y => by subst y; exact nD z
    exact ⟨(s.2 a (.inl z)).1, by rw [Sto.set_ne zD]; exact (s.2 a (.inl z)).2⟩

section
variable {X : Cx}
abbrev BlkD (X : Cx) (scope : Scope) (own : List (Str × Nat)) : Prop := BlkOk X.N X.env.scope scope own
theorem de_lc {elt tg iter : Expr} {ifs : List Expr} {scope : Scope} {own : List (Str × Nat)} {pos : Pos} {src : DI} {g : DG} {tt : DTT} {te : DT} (hc : X.calm = true) (hN : X.N.Nodup) (hi : DIt X tg iter src) (ok : BlkOk X.N X.env.scope scope own)
    (hg : ∀ (s : Shared) (H : Hp) (C : Addr) (cl : List (Str × Addr)) (fp : List Addr), DGt (X.blk s H scope (compEnvC scope cl C X.env) fp) (own.map (·.2)) tg g) (ht : ∀ (s : Shared) (H : Hp) (C : Addr) (cl : List (Str × Addr)) (fp : List Addr), DTss (X.blk s H scope (compEnvC scope cl C X.env) fp) ifs tt)
    (he : ∀ (s : Shared) (H : Hp) (C : Addr) (cl : List (Str × Addr)) (fp : List Addr), DE (X.blk s H scope (compEnvC scope cl C X.env) fp) elt te) (hs : ∀ x, foldedSetIterable iter X.env x = pure x := by intro _; rfl) :
    DE X (.ListComp elt [⟨tg, iter, ifs, 0⟩] scope pos) (dLc src g tt te (own.map (·.2))) :=
  (pe_lc hc hN hi ok hg ht he hs).imp fun σ H Q ⟨Hid, env, M, R, o, q, k⟩ => lc_up o q fun D acc avs M2 H2 _ f s e nD r ⟨ds, h1, h2⟩ => k _ _ (lc_fin f s e nD (h1 ▸ r) h2)
theorem de_lcN {elt tg iter : Expr} {ifs : List Expr} {scope : Scope} {own : List (Str × Nat)} {pos : Pos} {src : DI} {g : DG} {tt : DTT} {te : DT} (hc : X.calm = true) (hN : X.N.Nodup) (hi : DIt X tg iter src) (ok : BlkOk X.N X.env.scope scope own)
    (hg : ∀ (s : Shared) (H : Hp) (C : Addr) (cl : List (Str × Addr)) (fp : List Addr), DGt (X.blk s H scope (compEnvC scope cl C X.env) fp) (own.map (·.2)) tg g) (ht : ∀ (s : Shared) (H : Hp) (C : Addr) (cl : List (Str × Addr)) (fp : List Addr), DTss (X.blk s H scope (compEnvC scope cl C X.env) fp) ifs tt)
    (he : ∀ (s : Shared) (H : Hp) (C : Addr) (cl : List (Str × Addr)) (fp : List Addr), DE (X.blk s H scope (compEnvC scope cl C X.env) fp) elt te) (hs : ∀ x, foldedSetIterable iter X.env x = pure x := by intro _; rfl) :
    DE X (.ListComp elt [⟨tg, iter, ifs, 0⟩] scope pos) (dLcN src g tt te (own.map (·.2))) :=
  (pe_lc hc hN hi ok hg ht he hs).imp fun σ H Q ⟨Hid, env, M, R, o, q, k⟩ => lc_up o q fun D acc avs M2 H2 hD f s e nD r h2 => k _ _ (lc_finN f hD s e nD r (h2 D (s.2 D (.inr rfl)).2))
theorem ds_setLc {i : Nat} {y : Str} {py : Pos} {elt tg iter : Expr} {ifs : List Expr} {scope : Scope} {own : List (Str × Nat)} {pos spos : Pos} {src : DI} {g : DG} {tt : DTT} {te : DT} (hc : X.calm = true) (hN : X.N.Nodup) (hy : X.N[i]? = some y) (hyl : X.env.scope.names.lookup y = some .local)
    (hsw : swapsWith (.ListComp elt [⟨tg, iter, ifs, 0⟩] scope pos) (some (.Name y py)) spos.line X.env = pure true) (hi : DIt X tg iter src) (ok : BlkOk X.N X.env.scope scope own)
    (hg : ∀ (s : Shared) (H : Hp) (C : Addr) (cl : List (Str × Addr)) (fp : List Addr), DGt (X.blk s H scope (compEnvC scope cl C X.env) fp) (own.map (·.2)) tg g) (ht : ∀ (s : Shared) (H : Hp) (C : Addr) (cl : List (Str × Addr)) (fp : List Addr), DTss (X.blk s H scope (compEnvC scope cl C X.env) fp) ifs tt)
    (he : ∀ (s : Shared) (H : Hp) (C : Addr) (cl : List (Str × Addr)) (fp : List Addr), DE (X.blk s H scope (compEnvC scope cl C X.env) fp) elt te) (hs : ∀ x, foldedSetIterable iter X.env x = pure x := by intro _; rfl) :
    DS X (.Assign [.Name y py] (.ListComp elt [⟨tg, iter, ifs, 0⟩] scope pos) spos) (dAsg (dLc src g tt te (own.map (·.2))) (dgName i)) :=
  (ps_setLc hc hN hy hyl hsw hi ok hg ht he hs).imp fun D σ H ⟨Hid, env, M, DD, o, q, r⟩ => lc_up o q fun D acc avs M2 H2 hD f s e nD rr ⟨ds, h1, h2⟩ => by
    obtain ⟨dv, M', f', s', r', q'⟩ := lc_fin (R := fun dv M' => DD.nx (env.set i (some dv)) M') f s e nD (h1 ▸ rr) h2
    exact r.nx _ M' _ H2 f' ((o.keep f' s').store i r') q'
theorem ds_setLcN {i : Nat} {y : Str} {py : Pos} {elt tg iter : Expr} {ifs : List Expr} {scope : Scope} {own : List (Str × Nat)} {pos spos : Pos} {src : DI} {g : DG} {tt : DTT} {te : DT} (hc : X.calm = true) (hN : X.N.Nodup) (hy : X.N[i]? = some y) (hyl : X.env.scope.names.lookup y = some .local)
    (hsw : swapsWith (.ListComp elt [⟨tg, iter, ifs, 0⟩] scope pos) (some (.Name y py)) spos.line X.env = pure true) (hi : DIt X tg iter src) (ok : BlkOk X.N X.env.scope scope own)
    (hg : ∀ (s : Shared) (H : Hp) (C : Addr) (cl : List (Str × Addr)) (fp : List Addr), DGt (X.blk s H scope (compEnvC scope cl C X.env) fp) (own.map (·.2)) tg g) (ht : ∀ (s : Shared) (H : Hp) (C : Addr) (cl : List (Str × Addr)) (fp : List Addr), DTss (X.blk s H scope (compEnvC scope cl C X.env) fp) ifs tt)
    (he : ∀ (s : Shared) (H : Hp) (C : Addr) (cl : List (Str × Addr)) (fp : List Addr), DE (X.blk s H scope (compEnvC scope cl C X.env) fp) elt te) (hs : ∀ x, foldedSetIterable iter X.env x = pure x := by intro _; rfl) :
    DS X (.Assign [.Name y py] (.ListComp elt [⟨tg, iter, ifs, 0⟩] scope pos) spos) (dAsg (dLcN src g tt te (own.map (·.2))) (dgName i)) :=
  (ps_setLc hc hN hy hyl hsw hi ok hg ht he hs).imp fun D σ H ⟨Hid, env, M, DD, o, q, r⟩ => lc_up o q fun D acc avs M2 H2 hD f s e nD rr h2 => by
    obtain ⟨dv, M', f', s', r', q'⟩ := lc_finN (R := fun dv M' => DD.nx (env.set i (some dv)) M') f hD s e nD rr (h2 D (s.2 D (.inr rfl)).2)
    exact r.nx _ M' _ H2 f' ((o.keep f' s').store i r') q'
end
end DL
/-! the data layer: calls, functions -/
namespace DL
open PySem PySem.Spec PyProof.Rows L2

/-! ### built-ins by values -/
abbrev DC := List DV → Sto → DK → Prop
def upC (K : PySem.W.Frag) (g : DC) : List V → Hp → VK → Prop := fun vs H Q => ∃ Hid M dvs R, Sok K Hid M H ∧ RpAll K Hid M H vs dvs ∧ g dvs M R ∧ ∀ v H', Post K Hid M H R v H' → Q v H'
abbrev CallD (X : Cx) (f : Value) (g : DC) : Prop := CallR X f (upC X.K g)
abbrev MtD (X : Cx) (id : String) (g : DV → DC) : Prop := MtR X id (fun x xs H Q => ∃ Hid M dx dvs R, Sok X.K Hid M H ∧ Rp X.K Hid M H x dx ∧ RpAll X.K Hid M H xs dvs ∧ g dx dvs M R ∧ ∀ v H', Post X.K Hid M H R v H' → Q v H')
def dCB (g : DC) (fa : DA) : DT := fun env M R => fa env M fun dvs M1 => g dvs M1 R
theorem cb_up {K : PySem.W.Frag} {g : DC} {fa : DA} {σ : Stt} {H : Hp} {Q : VK} (h : up K (dCB g fa) σ H Q) : tCB (upC K g) (upA K fa) σ H Q := by
  obtain ⟨Hid, env, M, R, o, q, k⟩ := h
  exact upA_of o q fun dvs M1 vs H1 f1 o1 r1 q1 => ⟨Hid, M1, dvs, R, o1.sok, r1, q1, fun v H' p => k v H' (p.trans f1)⟩
section
variable {X : Cx} {x : Str} {p pos : Pos} {e : Expr} {es : List Expr} {fa : DA} {id T : String} {g : DC}
theorem de_callB (hc : CallD X (.builtin id) g) (hg : Gl X x) (hm : X.mg x = none) (hv : bootBuiltins x = some (.builtin id)) (ha : DAs X (e :: es) fa) (hn : x ≠ "__name__" := by decide) (hdb : (x == ("__debug__" : Str)) = false := by decide)
    (he : starEach (e :: es) X.env = (false, eval e X.env) :: starEach es X.env := by rfl) (hpl : (backTo pos (starEach es X.env)).any (·.1) = false := by rfl) : DE X (.Call (.Name x p) (e :: es) [] pos) (dCB g fa) :=
  (pe_callB hc hg hm hv ha hn hdb he hpl).imp fun _ _ _ h => cb_up h
theorem de_callTy (hc : CallD X (.type T) g) (hg : Gl X x) (hm : X.mg x = none) (hv : bootBuiltins x = some (.type T)) (ha : DAs X (e :: es) fa) (hn : x ≠ "__name__" := by decide) (hdb : (x == ("__debug__" : Str)) = false := by decide)
    (he : starEach (e :: es) X.env = (false, eval e X.env) :: starEach es X.env := by rfl) (hpl : (backTo pos (starEach es X.env)).any (·.1) = false := by rfl) : DE X (.Call (.Name x p) (e :: es) [] pos) (dCB g fa) :=
  (pe_callTy hc hg hm hv ha hn hdb he hpl).imp fun _ _ _ h => cb_up h
end

/-! ### own defs -/
def upSp (K : PySem.W.Frag) (sp : DC) : Sp := fun vs H Q _ => upC K sp vs H Q
section
variable {X : Cx} {CX : CXT} {k : Nat} {f : Addr} {fd : FuncData} {ps : List Str} {sp : DC} {x : Str} {p pos : Pos} {e : Expr} {es : List Expr} {fa : DA}
theorem de_call (F : FnOk X.prog X.w X.K X.mg X.base CX k f fd ps (upSp X.K sp)) (hr : Room k X.A) (hg : Gl X x) (hm : X.mg x = some (.ref f)) (hk : PySem.W.keepIn X.K (.ref f) = true) (hb : Binds X.K fd ps []) (hx : Passes CX X E0)
    (ha : DAs X (e :: es) fa) (hdb : (x == ("__debug__" : Str)) = false := by decide) (he : starEach (e :: es) X.env = (false, eval e X.env) :: starEach es X.env := by rfl) (hpl : (backTo pos (starEach es X.env)).any (·.1) = false := by rfl) :
    DE X (.Call (.Name x p) (e :: es) [] pos) (dCB sp fa) :=
  (pe_call F hr hg hm hk hb .nil hx ha hdb he hpl).imp fun σ H Q h => by
    obtain ⟨Hid, env, M, R, o, q, k⟩ := h
    exact upA_of o q fun dvs M1 vs H1 f1 o1 r1 q1 => by
      rw [List.append_nil]
      exact ⟨Hid, M1, dvs, R, o1.sok, r1, q1, fun v H' p => k v H' (p.trans f1)⟩
end
/-- the objects that a thing names -/
def objs : MO → List Addr
  | .lst xs => xs.filterMap fun x => match x with | .obj a => some a | _ => none
/-- what is handed out behind a def: garbage dropped, a new list told as data. M0: the store at the entry -/
inductive Wk (M0 : Sto) : DV → Sto → DV → Sto → Prop
  | id (dv : DV) (M : Sto) : Wk M0 dv M dv M
  | dat (d : PyData) {M M' : Sto} : (∀ a m, M' a = some m → M a = some m) → (∀ a, M0 a ≠ none → M' a ≠ none) → (∀ a m, M' a = some m → M0 a = some m ∨ ∀ b ∈ objs m, M' b ≠ none) → Wk M0 (.dat d) M (.dat d) M'
  | obj (p : Addr) {M M' : Sto} : M' p ≠ none → (∀ a m, M' a = some m → M a = some m) → (∀ a, M0 a ≠ none → M' a ≠ none) → (∀ a m, M' a = some m → M0 a = some m ∨ ∀ b ∈ objs m, M' b ≠ none) → Wk M0 (.obj p) M (.obj p) M'
  | frz (p : Addr) (ds : List PyData) {M M' : Sto} : M p = some (.lst (ds.map DV.dat)) → M' p = none → (∀ a m, M' a = some m → M a = some m) → (∀ a, M0 a ≠ none → M' a ≠ none) →
      (∀ a m, M' a = some m → M0 a = some m ∨ ∀ b ∈ objs m, M' b ≠ none) → Wk M0 (.obj p) M (.dat (.list ds)) M'
section
variable {K : PySem.W.Frag} {Hid : Addr → Prop} {M0 M M' : Sto} {H0 H : Hp}
theorem Rp.sub (sub : ∀ a m, M' a = some m → M a = some m) {dv : DV} {v : V} (h : ∀ b, dv = .obj b → M' b ≠ none) (r : Rp K Hid M H v dv) : Rp K Hid M' H v dv := by
  cases dv with
  | obj b =>
    refine ⟨r.1, ?_⟩
    cases e : M' b with
    | none => exact absurd e (h b rfl)
    | some m => exact ⟨m, rfl⟩
  | dat d =>
    refine Fz.mono (fun a ys q f => ⟨q, ?_, f.2⟩) (fun _ _ q => q) (show Fz K H (Fr0 Hid M) v d from r)
    cases e : M' a with
    | none => rfl
    | some m => have := sub a m e; rw [f.1] at this; cases this
theorem RpAll.sub (sub : ∀ a m, M' a = some m → M a = some m) : ∀ {ds : List DV} {vs : List V}, (∀ b, DV.obj b ∈ ds → M' b ≠ none) → RpAll K Hid M H vs ds → RpAll K Hid M' H vs ds
  | _, _, _, .nil => .nil
  | _, _, h, .cons r q => .cons (r.sub sub fun b e => h b (by rw [e]; exact List.mem_cons_self)) (q.sub sub fun b m => h b (List.mem_cons_of_mem _ m))
theorem mem_objs {xs : List DV} {b : Addr} (h : DV.obj b ∈ xs) : b ∈ objs (.lst xs) := List.mem_filterMap.mpr ⟨_, h, rfl⟩
theorem of_rpAll : ∀ {ds : List DV} {vs : List V}, RpAll K Hid M H vs ds → ∀ b, DV.obj b ∈ ds → M b ≠ none
  | _, _, .nil, _, h => by cases h
  | _, _, .cons r q, b, h => by
    rcases List.mem_cons.mp h with e | h
    · subst e
      obtain ⟨_, m, e⟩ := r
      rw [e]; simp
    · exact of_rpAll q b h
theorem Sok.sub (s0 : Sok K Hid M0 H0) (s : Sok K Hid M H) (sub : ∀ a m, M' a = some m → M a = some m) (dom : ∀ a, M0 a ≠ none → M' a ≠ none) (clo : ∀ a m, M' a = some m → M0 a = some m ∨ ∀ b ∈ objs m, M' b ≠ none) : Sok K Hid M' H := by
  refine ⟨fun a m e => ?_, fun a z => ⟨(s.2 a z).1, ?_⟩⟩
  · have h1 := s.1 a m (sub a m e)
    cases m with
    | lst ys =>
      obtain ⟨vs, e2, r2⟩ := h1
      refine ⟨vs, e2, r2.sub sub fun b hb => ?_⟩
      rcases clo a _ e with h | h
      · obtain ⟨us, _, r3⟩ := s0.1 a _ h
        exact dom b (of_rpAll r3 b hb)
      · exact h b (mem_objs hb)
  · cases e : M' a with
    | none => rfl
    | some m => have := sub a m e; rw [(s.2 a z).2] at this; cases this
theorem Fr.sub (f : Fr M0 H0 M H) (sub : ∀ a m, M' a = some m → M a = some m) (dom : ∀ a, M0 a ≠ none → M' a ≠ none) : Fr M0 H0 M' H :=
  ⟨f.keep, fun a h n => by
    cases e : M' a with
    | none => rfl
    | some m => (have := sub a m e; rw [f.unm a h n] at this; cases this), dom⟩
theorem Post.wk {R R' : DK} {v : V} (s0 : Sok K Hid M0 H0) (p : Post K Hid M0 H0 R' v H) (h : ∀ dv M, R' dv M → ∃ dv' M', Wk M0 dv M dv' M' ∧ R dv' M') : Post K Hid M0 H0 R v H := by
  obtain ⟨dv, M, f, s, r, q⟩ := p
  obtain ⟨dv', M', wk, q'⟩ := h dv M q
  cases wk with
  | id => exact ⟨_, _, f, s, r, q'⟩
  | dat d sub dom clo => exact ⟨_, _, f.sub sub dom, s0.sub s sub dom clo, r.sub sub (fun b e => by cases e), q'⟩
  | obj p hp sub dom clo => exact ⟨_, _, f.sub sub dom, s0.sub s sub dom clo, r.sub sub (fun b e => by cases e; exact hp), q'⟩
  | frz p ds e n sub dom clo =>
    obtain ⟨rfl, m, em⟩ := r
    obtain ⟨vs, e2, r2⟩ := s.1 p _ e
    have r3 := (r2.sub (M' := M') sub fun b hb => by
      obtain ⟨d, _, hd⟩ := List.mem_map.mp hb
      cases hd).fz
    refine ⟨.dat (.list ds), _, f.sub sub dom, s0.sub s sub dom clo, Fz.lst (.inl ⟨.inl e2, n, fun z => ?_⟩) r3, q'⟩
    have := (s.2 p z).2
    rw [e] at this; cases this
end
/-- slots at the entry -/
def startD (n : Nat) (dvs : List DV) : Env := dvs.map some ++ List.replicate (n - dvs.length) none
theorem ok_start {K : PySem.W.Frag} {Hid : Addr → Prop} {M : Sto} {H : Hp} {N : List Str} {vs : List V} {dvs : List DV} (s : Sok K Hid M H) (r : RpAll K Hid M H vs dvs) : Ok K Hid M H (startD N.length dvs) (L2.start N vs) := by
  have hl := r.length
  refine ⟨by simp [startD, L2.start, hl], fun i dv e => ?_, s⟩
  unfold startD at e
  by_cases hi : i < dvs.length
  · rw [List.getElem?_append_left (by simpa using hi), List.getElem?_map] at e
    cases e2 : dvs[i]? with
    | none => rw [e2] at e; cases e
    | some d =>
      rw [e2] at e; cases e
      obtain ⟨v, h1, h2⟩ := r.get e2
      refine ⟨v, ?_, h2⟩
      unfold L2.start
      rw [List.getElem?_append_left (by simp [hl]; exact hi), List.getElem?_map, h1]; rfl
  · rw [List.getElem?_append_right (by simpa using hi), List.getElem?_replicate] at e
    split at e <;> cases e
/-- THE RULE for a def that raises nothing: its body's reading at the parameters, from each entry -/
theorem fn_ok {P : Program} {w : World} {K : PySem.W.Frag} {mg : Str → Option Value} {base : Heap} {x qual : Str} {params : Arguments} {body : List Stmt} {scope : Scope} {dvs : List V} {kws : List (Str × V)} {f : Addr} {fd : FuncData} {CX : CXT} {N ps : List Str} {k : Nat} {sp : DC}
    (F : FunD K x qual params body scope dvs kws f fd) (S : FnScope N ps scope) (len : ∀ dvs M R, sp dvs M R → dvs.length = ps.length) (t : DTS)
    (hbody : ∀ (cdv : Value) (A : Around) (outer : List PySem.Env) (s : Shared) (H : Hp) (E : XK), Room k (A.deeper (envOfC qual scope s.heap.objs.size f cdv)) → DSs (cxOf CX P w K mg base N qual scope f cdv A outer s H E) body t)
    (read : ∀ dvs M R, sp dvs M R → t { nx := fun _ M' => ∃ dv' M'', Wk M (.dat .none) M' dv' M'' ∧ R dv' M'', rt := fun dv M' => ∃ dv' M'', Wk M dv M' dv' M'' ∧ R dv' M'' } (startD N.length dvs) M) :
    FnOk P w K mg base CX (k + 1) f fd ps (upSp K sp) := by
  refine F.ok S (fun vs H Q E ⟨Hid, M, dvs, R, s, r, h, _⟩ => by rw [r.length]; exact len _ _ _ h) fun cdv A outer s H vs Q E hr ⟨Hid, M, dvs, R, sk, r, h, k⟩ => ⟨_, hbody cdv A outer s H E hr, ?_⟩
  refine ⟨Hid, _, M, _, ok_start sk r, read dvs M R h, ⟨fun env' M' σ' H' f o q => ?_, fun v H' p => k v H' (p.wk sk fun _ _ z => z), fun _ _ _ _ _ _ z => z.elim, fun _ _ _ _ _ _ z => z.elim⟩⟩
  exact k .non H' (Post.wk sk ⟨.dat .none, M', f, o.sok, Fz.non, q⟩ fun dv M z => z)
end DL
/-! the data layer: operators, comparisons -/
namespace DL
open PySem PySem.Spec PyProof.Rows L2

/-! ### readers -/
/-- the list that a value stands for -/
def lstOf (M : Sto) : DV → Option (List DV)
  | .dat (.list ds) => some (ds.map DV.dat)
  | .obj a => match M a with
    | some (.lst xs) => some xs
    | none => none
  | _ => none
/-- a list's or a tuple's items -/
def seqOf (M : Sto) : DV → Option (List DV)
  | .dat (.tuple ds) => some (ds.map DV.dat)
  | x => lstOf M x
/-- as data -/
def datOf (M : Sto) : DV → Option PyData
  | .dat d => some d
  | .obj a => match M a with
    | some (.lst xs) => (dats xs).map PyData.list
    | none => none
section
variable {K : PySem.W.Frag} {Hid : Addr → Prop} {M : Sto} {H : Hp} {v : V} {dv : DV} {xs : List DV} {d : PyData}
theorem lstOf_sq (s : Sok K Hid M H) (r : Rp K Hid M H v dv) (h : lstOf M dv = some xs) : ∃ a vs, v = .ref a ∧ SqL K H a vs ∧ RpAll K Hid M H vs xs := by
  cases dv with
  | obj a =>
    obtain ⟨rfl, m, e⟩ := r
    cases m with
    | lst ys =>
      simp only [lstOf, e] at h
      cases h
      obtain ⟨vs, e2, r2⟩ := s.1 a _ e
      exact ⟨a, vs, rfl, SqL.of e2, r2⟩
  | dat d =>
    cases d with
    | list ds =>
      simp only [lstOf, Option.some.injEq] at h
      subst h
      cases r with
      | lst ha q => exact ⟨_, _, rfl, ha.sq, RpAll.of_fz q⟩
    | _ => simp [lstOf] at h
theorem seqOf_sq (s : Sok K Hid M H) (r : Rp K Hid M H v dv) (h : seqOf M dv = some xs) : ∃ a vs, v = .ref a ∧ (SqL K H a vs ∨ SqT K H a vs) ∧ RpAll K Hid M H vs xs := by
  cases dv with
  | obj a => obtain ⟨b, vs, e, h1, h2⟩ := lstOf_sq s r (show lstOf M (.obj a) = some xs from h); exact ⟨b, vs, e, .inl h1, h2⟩
  | dat d =>
    cases d with
    | tuple ds =>
      simp only [seqOf, Option.some.injEq] at h
      subst h
      cases r with
      | tup ha q => exact ⟨_, _, rfl, .inr ha, RpAll.of_fz q⟩
    | list ds => obtain ⟨b, vs, e, h1, h2⟩ := lstOf_sq s r (show lstOf M (.dat (.list ds)) = some xs from h); exact ⟨b, vs, e, .inl h1, h2⟩
    | _ => simp [seqOf, lstOf] at h
theorem datOf_dp (s : Sok K Hid M H) (r : Rp K Hid M H v dv) (h : datOf M dv = some d) : Dp K H v d := by
  cases dv with
  | dat e => cases h; exact Fz.dp r
  | obj a =>
    obtain ⟨rfl, m, e⟩ := r
    cases m with
    | lst ys =>
      simp only [datOf, e, Option.map_eq_some_iff] at h
      obtain ⟨ds, h1, rfl⟩ := h
      obtain ⟨vs, e2, r2⟩ := s.1 a _ e
      rw [dats_inv h1] at r2
      exact .lst (SqL.of e2) (FzAll.dp r2.fz)
end
/-- plain data of some depth -/
def Pl (n : Nat) (d : PyData) : Prop := d.plain = true ∧ d.depth ≤ n
theorem Pl.int {n i} : Pl n (.int i) := ⟨rfl, Nat.zero_le _⟩
theorem Pl.bool {n i} : Pl n (.bool i) := ⟨rfl, Nat.zero_le _⟩
theorem Pl.str {n i} : Pl n (.str i) := ⟨rfl, Nat.zero_le _⟩
theorem Pl.none {n} : Pl n .none := ⟨rfl, Nat.zero_le _⟩
theorem plAll {n : Nat} : ∀ {xs : List PyData}, (∀ x ∈ xs, Pl n x) → PyData.plainAll xs = true ∧ PyData.depthAll xs ≤ n
  | [], _ => ⟨rfl, Nat.zero_le _⟩
  | x :: xs, h => by
    have h1 := h x List.mem_cons_self
    have h2 := plAll fun y hy => h y (List.mem_cons_of_mem _ hy)
    refine ⟨by rw [PyData.plainAll, h1.1, h2.1]; rfl, ?_⟩
    have := h1.2
    have := h2.2
    simp only [PyData.depthAll]
    omega
theorem Pl.tup {n : Nat} {xs : List PyData} (h : ∀ x ∈ xs, Pl n x) : Pl (n + 1) (.tuple xs) := by
  obtain ⟨h1, h2⟩ := plAll h
  refine ⟨h1, ?_⟩
  simp only [PyData.depth]; omega
theorem Pl.lst {n : Nat} {xs : List PyData} (h : ∀ x ∈ xs, Pl n x) : Pl (n + 1) (.list xs) := by
  obtain ⟨h1, h2⟩ := plAll h
  refine ⟨h1, ?_⟩
  simp only [PyData.depth]; omega
theorem Pl.mono {n m : Nat} {d : PyData} (h : Pl n d) (l : n ≤ m) : Pl m d := ⟨h.1, Nat.le_trans h.2 l⟩

section
variable {X : Cx}
/-! ### arithmetic -/
def dInt (C : Int → Int → Prop) (f : Int → Int → Int) : D2 := fun x y M R => match x, y with
  | .dat (.int i), .dat (.int j) => C i j ∧ R (.dat (.int (f i j))) M
  | _, _ => False
theorem dInt_inv {C : Int → Int → Prop} {f : Int → Int → Int} {x y : DV} {M : Sto} {R : DK} (h : dInt C f x y M R) : ∃ i j, x = .dat (.int i) ∧ y = .dat (.int j) ∧ C i j ∧ R (.dat (.int (f i j))) M := by
  cases x with
  | obj a => exact h.elim
  | dat d =>
    cases d with
    | int i =>
      cases y with
      | obj a => exact h.elim
      | dat e =>
        cases e with
        | int j => exact ⟨i, j, rfl, rfl, h⟩
        | _ => exact h.elim
    | _ => exact h.elim
theorem opd_int {fn : Value → Value → Sem Value} {C : Int → Int → Prop} {f : Int → Int → Int} (ho : OpR X fn (rI C fun i j => .int (f i j))) : OpD X fn (dInt C f) :=
  ho.imp fun x y H Q ⟨Hid, M, dx, dy, R, s, rx, ry, q, k⟩ => by
    obtain ⟨i, j, rfl, rfl, c, q⟩ := dInt_inv q
    cases rx
    cases ry
    exact ⟨i, j, rfl, rfl, c, k _ H (Post.same (dv := .dat (.int (f i j))) s (Fz.int _) q)⟩
def CTrue : Int → Int → Prop := fun _ _ => True
theorem od_sub : OpD X (binaryOp .Sub) (dInt CTrue fun i j => i - j) := opd_int (op_sub.imp fun x y H Q ⟨i, j, a, b, _, q⟩ => ⟨i, j, a, b, q⟩)
theorem od_mul : OpD X (binaryOp .Mult) (dInt CMul fun i j => i * j) := opd_int op_mul
theorem od_fdiv : OpD X (binaryOp .FloorDiv) (dInt CDiv fun i j => i / j) := opd_int op_fdiv
theorem od_mod : OpD X (binaryOp .Mod) (dInt (fun _ j => 0 < j) fun i j => i % j) := opd_int op_mod
theorem od_pow : OpD X (binaryOp .Pow) (dInt CPow fun i j => i ^ j.toNat) := opd_int op_pow
/-- + : ints, texts, lists, tuples -/
def dAdd : D2 := fun x y M R => match x, y with
  | .dat (.int i), .dat (.int j) => R (.dat (.int (i + j))) M
  | .dat (.str a), .dat (.str b) => a.length + b.length ≤ sizeLine ∧ R (.dat (.str (a ++ b))) M
  | .dat (.tuple ds), .dat (.tuple es) => ds.length + es.length ≤ sizeLine ∧ R (.dat (.tuple (ds ++ es))) M
  | x, y => match lstOf M x, lstOf M y with
    | some xs, some ys => xs.length + ys.length ≤ sizeLine ∧ match dats (xs ++ ys) with
      | some ds => R (.dat (.list ds)) M
      | none => False
    | _, _ => False
def dAddL (x y : DV) (M : Sto) (R : DK) : Prop := ∃ xs ys ds, lstOf M x = some xs ∧ lstOf M y = some ys ∧ xs.length + ys.length ≤ sizeLine ∧ dats (xs ++ ys) = some ds ∧ R (.dat (.list ds)) M
theorem dAddL_of {x y : DV} {M : Sto} {R : DK} (h : match lstOf M x, lstOf M y with
    | some xs, some ys => xs.length + ys.length ≤ sizeLine ∧ (match dats (xs ++ ys) with
      | some ds => R (.dat (.list ds)) M
      | none => False)
    | _, _ => False) : dAddL x y M R := by
  cases e1 : lstOf M x with
  | none => rw [e1] at h; exact h.elim
  | some xs =>
    cases e2 : lstOf M y with
    | none => rw [e1, e2] at h; exact h.elim
    | some ys =>
      rw [e1, e2] at h
      obtain ⟨h1, h2⟩ := h
      cases e3 : dats (xs ++ ys) with
      | none => rw [e3] at h2; exact h2.elim
      | some ds => rw [e3] at h2; exact ⟨xs, ys, ds, e1, e2, h1, e3, h2⟩
theorem cat_any {pins : List (Addr × Obj)} {s : Shared} {σ : Stt} {H : Hp} {a b : Addr} {xs ys : List V} {Q : VK} {E : Value → Shared → Prop} (I : Inv X pins σ H s) (ha : SqL X.K H a xs) (hb : SqL X.K H b ys) (hz : xs.length + ys.length ≤ sizeLine)
    (q : ∀ p, H p = none → Q (.ref p) (upd H p (.lst (xs ++ ys)))) : wpAny (model X.prog X.w) X.A (binaryOp .Add (.ref a) (.ref b)) (EP X pins σ Q) E s := by
  obtain ⟨its, r1, p1, _⟩ := I.list ha
  obtain ⟨its2, r2, p2, _⟩ := I.list hb
  have l1 := r1.length
  have l2 := r2.length
  obtain ⟨⟨cls, dd, data, sl⟩, ho, hc, n, hd⟩ := p1.isList
  obtain ⟨⟨cls2, dd2, data2, sl2⟩, ho2, hc2, n2, hd2⟩ := p2.isList
  simp only at hc hd hc2 hd2
  subst hc hd hc2 hd2
  have e : its.toArray ++ its2.toArray = (its ++ its2).toArray := by simp
  refine PySem.concat_meets ⟨_, ho, rfl⟩ ⟨_, ho2, rfl⟩ PySem.noFill_list_add PySem.seq_list_add PySem.F.slot_list_add PySem.F.entry_list_add (PySem.F.args_list_add_2 _ _) (list_addW a b its.toArray its2.toArray n n2 dd dd2 sl sl2 (by simp; omega)) ⟨ho, ho2, ?_⟩
  rw [e]
  exact ⟨.ref _, _, I.lnew (t' := s.toks) (r1.append r2) (by rw [List.length_append]; omega), rfl, q _ I.fresh⟩
theorem od_add : OpD X (binaryOp .Add) dAdd := by
  intro pins s σ H x y v u Q I rx ry ⟨Hid, M, dx, dy, R, sk, hx, hy, q, k⟩
  have lists : dAddL dx dy M R → wpAny (model X.prog X.w) X.A (binaryOp .Add v u) (EP X pins σ Q) X.xe s := fun ⟨xs, ys, ds, e1, e2, hz, e3, q⟩ => by
    obtain ⟨a, vs, rfl, h1, r1⟩ := lstOf_sq sk hx e1
    obtain ⟨b, us, rfl, h2, r2⟩ := lstOf_sq sk hy e2
    cases rx; cases ry
    refine cat_any I h1 h2 (by rw [r1.length, r2.length]; exact hz) fun p hp => k _ _ ?_
    have r3 := RpAll.append r1 r2
    rw [dats_inv e3] at r3
    exact post_lst sk hp r3.fz q
  cases dx with
  | obj a => exact lists (dAddL_of (x := .obj a) (y := dy) (by cases dy with | obj b => exact q | dat e => cases e <;> exact q))
  | dat d =>
    cases d with
    | int i =>
      cases dy with
      | obj b => exact lists (dAddL_of (x := .dat (.int i)) (y := .obj b) q)
      | dat e =>
        cases e with
        | int j =>
          cases hx; cases hy
          exact op_add pins s σ H _ _ v u Q I rx ry ⟨i, j, rfl, rfl, k _ H (Post.same (dv := .dat (.int (i + j))) sk (Fz.int _) q)⟩
        | _ => exact lists (dAddL_of (x := .dat (.int i)) (y := .dat _) q)
    | str a =>
      cases dy with
      | obj b => exact lists (dAddL_of (x := .dat (.str a)) (y := .obj b) q)
      | dat e =>
        cases e with
        | str b =>
          cases hx; cases hy
          exact op_add_str pins s σ H _ _ v u Q I rx ry ⟨a, b, rfl, rfl, q.1, k _ H (Post.same (dv := .dat (.str (a ++ b))) sk (Fz.str _) q.2)⟩
        | _ => exact lists (dAddL_of (x := .dat (.str a)) (y := .dat _) q)
    | tuple ds =>
      cases dy with
      | obj b => exact lists (dAddL_of (x := .dat (.tuple ds)) (y := .obj b) q)
      | dat e =>
        cases e with
        | tuple es =>
          obtain ⟨hz, q⟩ := q
          cases hx with
          | tup h1 a1 =>
            rename_i a vs
            cases hy with
            | tup h2 a2 =>
              rename_i b us
              have f3 := FzAll.append a1 a2
              refine op_catA pins s σ H _ _ v u Q I rx ry ⟨_, _, _, _, rfl, rfl, h1, h2, by rw [a1.length, a2.length]; exact hz, fun e0 => ?_, fun _ e0 => ?_, fun _ _ p hp => k _ _ (post_tup sk hp f3 q)⟩
              · subst e0
                cases a1
                exact k _ H (Post.same (dv := .dat (.tuple es)) sk (Fz.tup h2 a2) q)
              · subst e0
                cases a2
                rw [List.append_nil] at q
                exact k _ H (Post.same (dv := .dat (.tuple ds)) sk (Fz.tup h1 a1) q)
        | _ => exact lists (dAddL_of (x := .dat (.tuple ds)) (y := .dat _) q)
    | none => exact lists (dAddL_of (x := .dat .none) (y := dy) (by cases dy with | obj b => exact q | dat e => cases e <;> exact q))
    | bool c => exact lists (dAddL_of (x := .dat (.bool c)) (y := dy) (by cases dy with | obj b => exact q | dat e => cases e <;> exact q))
    | list c => exact lists (dAddL_of (x := .dat (.list c)) (y := dy) (by cases dy with | obj b => exact q | dat e => cases e <;> exact q))
    | dict c => exact lists (dAddL_of (x := .dat (.dict c)) (y := dy) (by cases dy with | obj b => exact q | dat e => cases e <;> exact q))

/-! ### comparisons -/
def dRel (C : PyData → PyData → Prop) (f : PyData → PyData → Bool) : D2 := fun x y M R => match datOf M x, datOf M y with
  | some d, some e => C d e ∧ R (.dat (.bool (f d e))) M
  | _, _ => False
theorem opd_rel {fn : Value → Value → Sem Value} {C : PyData → PyData → Prop} {f : PyData → PyData → Bool}
    (ho : ∀ (s : Shared) (v u : Value) (d e : PyData) (as bs : List Addr) (Q : Value → Shared → Prop), Reads s.heap v d as → Reads s.heap u e bs → C d e → Q (.bool (f d e)) s → wpAny (model X.prog X.w) X.A (fn v u) Q X.xe s) : OpD X fn (dRel C f) := by
  intro pins s σ H x y v u Q I rx ry ⟨Hid, M, dx, dy, R, sk, hx, hy, q, k⟩
  unfold dRel at q
  cases e1 : datOf M dx with
  | none => rw [e1] at q; exact q.elim
  | some d =>
    cases e2 : datOf M dy with
    | none => rw [e1, e2] at q; exact q.elim
    | some e =>
      rw [e1, e2] at q
      obtain ⟨as, r1⟩ := Dp.reads I d x v (datOf_dp sk hx e1) rx
      obtain ⟨bs, r2⟩ := Dp.reads I e y u (datOf_dp sk hy e2) ry
      exact ho s v u d e as bs _ r1 r2 q.1 ⟨.bl _, H, I, rfl, k _ H (Post.same (dv := .dat (.bool (f d e))) sk (Fz.bl _) q.2)⟩
def CEq (d e : PyData) : Prop := Pl 60 d ∧ e.plain = true
def CCmp (d e : PyData) : Prop := PySem.W.alike d e = true ∧ d ≠ .none ∧ d.depth ≤ 60
theorem od_eq (hu : X.A.units + 64 < cLine) : OpD X (compareOp .Eq) (dRel CEq PyData.eqv) := opd_rel fun s v u d e as bs Q r1 r2 c q =>
  SeqAt.eq_plain r1 r2 c.1.1 c.2 (by have := c.1.2; omega) q
theorem od_ne (hu : X.A.units + 64 < cLine) : OpD X (compareOp .NotEq) (dRel CEq fun d e => !PyData.eqv d e) := opd_rel fun s v u d e as bs Q r1 r2 c q =>
  SeqAt.ne_plain r1 r2 c.1.1 c.2 (by have := c.1.2; omega) q
theorem od_lt (hu : X.A.units + 64 < cLine) : OpD X (compareOp .Lt) (dRel CCmp PySem.W.dataLt) := opd_rel fun s v u d e as bs Q r1 r2 c q =>
  PySem.W.lt_data r1 r2 c.1 c.2.1 (by have := c.2.2; omega) q
theorem od_gt (hu : X.A.units + 64 < cLine) : OpD X (compareOp .Gt) (dRel CCmp fun d e => PySem.W.dataLt e d) := opd_rel fun s v u d e as bs Q r1 r2 c q =>
  PySem.W.gt_data r1 r2 c.1 c.2.1 (by have := c.2.2; omega) q
theorem od_le (hu : X.A.units + 64 < cLine) : OpD X (compareOp .LtE) (dRel CCmp fun d e => !PySem.W.dataLt e d) := opd_rel fun s v u d e as bs Q r1 r2 c q =>
  PySem.W.le_data r1 r2 c.1 c.2.1 (by have := c.2.2; omega) q
theorem od_ge (hu : X.A.units + 64 < cLine) : OpD X (compareOp .GtE) (dRel CCmp fun d e => !PySem.W.dataLt d e) := opd_rel fun s v u d e as bs Q r1 r2 c q =>
  PySem.W.ge_data r1 r2 c.1 c.2.1 (by have := c.2.2; omega) q
/-- x in y: y a list, a tuple of plain data; a sign in a text -/
def dIn (neg : Bool) : D2 := fun x y M R => match x, y with
  | .dat (.str a), .dat (.str z) => ∃ c, a = ⟨#[c]⟩ ∧ R (.dat (.bool (neg ^^ decide (c ∈ z.cps.toList)))) M
  | x, y => match datOf M x, datOf M y with
    | some d, some (.list xs) => Pl 60 d ∧ PyData.plainAll xs = true ∧ R (.dat (.bool (neg ^^ xs.any fun e => PyData.eqv e d))) M
    | some d, some (.tuple xs) => Pl 60 d ∧ PyData.plainAll xs = true ∧ R (.dat (.bool (neg ^^ xs.any fun e => PyData.eqv e d))) M
    | _, _ => False
def dInS (neg : Bool) (x y : DV) (M : Sto) (R : DK) : Prop := ∃ d xs, datOf M x = some d ∧ (datOf M y = some (.list xs) ∨ datOf M y = some (.tuple xs)) ∧ Pl 60 d ∧ PyData.plainAll xs = true ∧ R (.dat (.bool (neg ^^ xs.any fun e => PyData.eqv e d))) M
theorem dIn_inv {neg : Bool} {x y : DV} {M : Sto} {R : DK} (h : dIn neg x y M R) : (∃ c z, x = .dat (.str ⟨#[c]⟩) ∧ y = .dat (.str z) ∧ R (.dat (.bool (neg ^^ decide (c ∈ z.cps.toList)))) M) ∨ dInS neg x y M R := by
  have gen : (match datOf M x, datOf M y with
    | some d, some (.list xs) => Pl 60 d ∧ PyData.plainAll xs = true ∧ R (.dat (.bool (neg ^^ xs.any fun e => PyData.eqv e d))) M
    | some d, some (.tuple xs) => Pl 60 d ∧ PyData.plainAll xs = true ∧ R (.dat (.bool (neg ^^ xs.any fun e => PyData.eqv e d))) M
    | _, _ => False) → dInS neg x y M R := fun h => by
    cases e1 : datOf M x with
    | none => rw [e1] at h; exact h.elim
    | some d =>
      cases e2 : datOf M y with
      | none => rw [e1, e2] at h; exact h.elim
      | some e =>
        rw [e1, e2] at h
        cases e with
        | list xs => exact ⟨d, xs, e1, .inl e2, h⟩
        | tuple xs => exact ⟨d, xs, e1, .inr e2, h⟩
        | _ => exact h.elim
  unfold dIn at h
  split at h
  · obtain ⟨c, rfl, q⟩ := h
    exact .inl ⟨c, _, rfl, rfl, q⟩
  · exact .inr (gen h)
theorem od_in (hu : X.A.units + 64 < cLine) : OpD X (compareOp .In) (dIn false) := by
  intro pins s σ H x y v u Q I rx ry ⟨Hid, M, dx, dy, R, sk, hx, hy, q, k⟩
  rcases dIn_inv q with ⟨c, z, rfl, rfl, q'⟩ | ⟨d, xs, e1, e2, p1, p2, q'⟩
  · cases hx; cases hy
    refine op_in_sign pins s σ H _ _ v u Q I rx ry ⟨c, z, rfl, rfl, k _ H (Post.same (dv := .dat (.bool _)) sk (Fz.bl _) ?_)⟩
    simpa using q'
  · obtain ⟨as, r1⟩ := Dp.reads I d x v (datOf_dp sk hx e1) rx
    have fin : EP X pins σ Q (.bool (xs.any fun e => PyData.eqv e d)) s := ⟨.bl _, H, I, rfl, k _ H (Post.same (dv := .dat (.bool _)) sk (Fz.bl _) (by simpa using q'))⟩
    have := p1.2
    rcases e2 with e2 | e2
    · obtain ⟨bs, r2⟩ := Dp.reads I _ y u (datOf_dp sk hy e2) ry
      exact SeqAt.in_list_data r2 r1 p2 p1.1 (by omega) fin
    · obtain ⟨bs, r2⟩ := Dp.reads I _ y u (datOf_dp sk hy e2) ry
      exact SeqAt.in_tuple_data r2 r1 p2 p1.1 (by omega) fin
theorem od_notIn (hu : X.A.units + 64 < cLine) : OpD X (compareOp .NotIn) (dIn true) := by
  intro pins s σ H x y v u Q I rx ry ⟨Hid, M, dx, dy, R, sk, hx, hy, q, k⟩
  rcases dIn_inv q with ⟨c, z, rfl, rfl, q'⟩ | ⟨d, xs, e1, e2, p1, p2, q'⟩
  · cases hx; cases hy
    obtain ⟨t, rfl⟩ := rx
    obtain ⟨t', rfl⟩ := ry
    exact PyProof.Rows.notIn_str (fin_bl I (k (.bl (!decide (c ∈ z.cps.toList))) H (Post.same (dv := .dat (.bool _)) sk (Fz.bl _) (by simpa using q'))) (by rw [PySem.StrLaws.found_one z c]))
  · obtain ⟨as, r1⟩ := Dp.reads I d x v (datOf_dp sk hx e1) rx
    have fin : EP X pins σ Q (.bool (!xs.any fun e => PyData.eqv e d)) s := ⟨.bl _, H, I, rfl, k _ H (Post.same (dv := .dat (.bool _)) sk (Fz.bl _) (by simpa using q'))⟩
    have := p1.2
    rcases e2 with e2 | e2
    · obtain ⟨bs, r2⟩ := Dp.reads I _ y u (datOf_dp sk hy e2) ry
      exact SeqAt.notIn_list_data r2 r1 p2 p1.1 (by omega) fin
    · obtain ⟨bs, r2⟩ := Dp.reads I _ y u (datOf_dp sk hy e2) ry
      exact SeqAt.notIn_tuple_data r2 r1 p2 p1.1 (by omega) fin
/-- is None, is not None -/
def isNon : DV → Bool
  | .dat .none => true
  | _ => false
def dIsN (neg : Bool) : D2 := fun x y M R => y = .dat .none ∧ R (.dat (.bool (neg ^^ isNon x))) M
theorem isN_of {K : PySem.W.Frag} {Hid : Addr → Prop} {M : Sto} {H : Hp} {v : V} {dv : DV} (r : Rp K Hid M H v dv) : decide (v = .non) = isNon dv := by
  cases dv with
  | obj a => obtain ⟨rfl, _⟩ := r; rfl
  | dat d => cases r <;> rfl
theorem od_isN : OpD X (compareOp .Is) (dIsN false) := op_isN.imp fun x y H Q ⟨Hid, M, dx, dy, R, s, rx, ry, ⟨e, q⟩, k⟩ => by
  subst e
  cases ry
  exact ⟨rfl, k _ H (Post.same (dv := .dat (.bool (decide (x = .non)))) s (Fz.bl _) (by rw [isN_of rx]; simpa using q))⟩
theorem od_notN : OpD X (compareOp .IsNot) (dIsN true) := op_notN.imp fun x y H Q ⟨Hid, M, dx, dy, R, s, rx, ry, ⟨e, q⟩, k⟩ => by
  subst e
  cases ry
  exact ⟨rfl, k _ H (Post.same (dv := .dat (.bool (!decide (x = .non)))) s (Fz.bl _) (by rw [isN_of rx]; simpa using q))⟩
/-- chains -/
def dChain (g g' : D2) (fa fb fc : DT) : DT := fun env M R => fa env M fun x M1 => fb env M1 fun y M2 => g x y M2 fun z M3 => match z with
  | .dat (.bool k) => if k = true then fc env M3 fun w M4 => g' y w M4 R else R (.dat (.bool false)) M3
  | _ => False
end
section
variable {X : Cx} {pos : Pos} {a b c : Expr} {fa fb fc : DT} {op op' : CmpOp} {g g' : D2}
theorem chain_up {K : PySem.W.Frag} {σ : Stt} {H : Hp} {Q : VK} (h : up K (dChain g g' fa fb fc) σ H Q) : tChain (up2 K g) (up2 K g') (up K fa) (up K fb) (up K fc) σ H Q := by
  obtain ⟨Hid, env, M, R, o, q, k⟩ := h
  refine up_of o q fun x M1 vx H1 f1 o1 r1 q1 => up_of o1 q1 fun y M2 vy H2 f2 o2 r2 q2 => ?_
  refine ⟨Hid, M2, x, y, _, o2.sok, r1.keep o1.sok f2, r2, q2, fun v H3 ⟨z, M3, f3, s3, r3, q3⟩ => ?_⟩
  cases z with
  | obj a => exact q3.elim
  | dat d =>
    cases d with
    | bool k' =>
      cases r3
      refine ⟨k', rfl, ?_⟩
      have ff := (f1.trans f2).trans f3
      cases k' with
      | true =>
        rw [if_pos rfl]
        refine up_of (o2.keep f3 s3) (show fc env M3 (fun w M4 => g' y w M4 R) from q3) fun w M4 vw H4 f4 o4 r4 q4 => ⟨Hid, M4, y, w, R, o4.sok, (r2.keep o2.sok f3).keep s3 f4, r4, q4, fun v H5 p => k v H5 (p.trans (ff.trans f4))⟩
      | false =>
        rw [if_neg Bool.false_ne_true]
        exact k (.bl false) H3 ⟨.dat (.bool false), M3, ff, s3, Fz.bl false, q3⟩
    | _ => exact q3.elim
theorem de_chain (ho : OpD X (compareOp op) g) (ho' : OpD X (compareOp op') g') (ha : DE X a fa) (hb : DE X b fb) (hc : DE X c fc)
    (hm : lastMarks [op, op'] [b, c] = false := by with_unfolding_all rfl) : DE X (.Compare a [op, op'] [b, c] pos) (dChain g g' fa fb fc) := (pe_chain ho ho' ha hb hc hm).imp fun _ _ _ h => chain_up h
theorem dt_chain (ho : OpD X (compareOp op) g) (ho' : OpD X (compareOp op') g') (ha : DE X a fa) (hb : DE X b fb) (hc : DE X c fc)
    (hm : lastMarks [op, op'] [b, c] = false := by with_unfolding_all rfl) : DTs X (.Compare a [op, op'] [b, c] pos) (dB (dChain g g' fa fb fc)) :=
  (pt_chain ho ho' ha hb hc hm).imp fun σ H Q ⟨Hid, env, M, R, o, q, k⟩ => chain_up (up_of o q fun x M1 v H1 f1 o1 r1 q1 => by
    obtain ⟨b, rfl, q2⟩ := dB_inv q1
    cases r1
    exact ⟨b, rfl, k b M1 H1 f1 o1.sok q2⟩)
end
end DL
/-! the data layer: subscripts, slices, built-ins -/
namespace DL
open PySem PySem.Spec PyProof.Rows L2

section
variable {X : Cx} {pos : Pos}
/-! ### isinstance -/
/-- a value's class -/
def tyD : DV → String
  | .obj _ => "list"
  | .dat .none => "NoneType"
  | .dat (.bool _) => "bool"
  | .dat (.int _) => "int"
  | .dat (.str _) => "str"
  | .dat (.list _) => "list"
  | .dat (.tuple _) => "tuple"
  | .dat (.dict _) => "dict"
theorem kitD {pins : List (Addr × Obj)} {s : Shared} {σ : Stt} {H : Hp} {Hid : Addr → Prop} {M : Sto} {v : V} {u : Value} {dv : DV} (I : Inv X pins σ H s) (sk : Sok X.K Hid M H) (r : Rp X.K Hid M H v dv) (ru : RelV v u) :
    ∃ P : Heap → Prop, PySem.W.KitX X.K u (.type (tyD dv)) P ∧ P s.heap ∧ u ≠ .builtin "__main__.__loader__#opaque" := by
  cases dv with
  | obj a =>
    obtain ⟨rfl, m, e⟩ := r
    cases ru
    cases m with
    | lst ys =>
      obtain ⟨vs, e2, _⟩ := sk.1 a _ e
      obtain ⟨its, _, ⟨o, n, h1, h2, _⟩, _⟩ := I.list (SqL.of e2)
      exact ⟨_, PySem.W.kitx_list, ⟨o, h1, h2⟩, fun z => nomatch z⟩
  | dat d =>
    cases r with
    | non => cases ru; exact ⟨_, PySem.W.kitx_none, True.intro, fun z => nomatch z⟩
    | bl b => cases ru; exact ⟨_, PySem.W.kitx_bool, True.intro, fun z => nomatch z⟩
    | int i => obtain ⟨t, rfl⟩ := ru; exact ⟨_, PySem.W.kitx_int, True.intro, fun z => nomatch z⟩
    | str x => obtain ⟨t, rfl⟩ := ru; exact ⟨_, PySem.W.kitx_str, True.intro, fun z => nomatch z⟩
    | lst h _ =>
      cases ru
      obtain ⟨its, _, ⟨o, n, h1, h2, _⟩, _⟩ := I.list h.sq
      exact ⟨_, PySem.W.kitx_list, ⟨o, h1, h2⟩, fun z => nomatch z⟩
    | tup h _ =>
      cases ru
      obtain ⟨its, _, ⟨o, h1, h2, _⟩, _⟩ := I.tuple h
      exact ⟨_, PySem.W.kitx_tuple, ⟨o, h1, h2⟩, fun z => nomatch z⟩
/-- whether a class is, or is under, another one -/
def isiB (a T : String) : Bool := a == T || (a == "bool" && T == "int")
theorem isiB_ok (dv : DV) (T : String) (h : T = "str" ∨ T = "int" ∨ T = "bool" ∨ T = "tuple" ∨ T = "list" ∨ T = "dict") : kitB (tyD dv) T = some (isiB (tyD dv) T) := by
  have k : ∀ a ∈ ["list", "NoneType", "bool", "int", "str", "tuple", "dict"], ∀ T ∈ ["str", "int", "bool", "tuple", "list", "dict"], kitB a T = some (isiB a T) := by decide +kernel
  refine k _ ?_ _ (by rcases h with h | h | h | h | h | h <;> subst h <;> simp)
  cases dv with
  | obj a => simp [tyD]
  | dat d => cases d <;> simp [tyD]
def dIsi (T : String) (fe : DT) : DT := fun env M R => fe env M fun x M1 => R (.dat (.bool (isiB (tyD x) T))) M1
theorem de_isi {e eT : Expr} {fe : DT} {T : String} {p : Pos} (hg : Gl X "isinstance") (hm : X.mg "isinstance" = none) (he : DE X e fe) (hT : PE X eT (tC (.ty T))) (hh : T = "str" ∨ T = "int" ∨ T = "bool" ∨ T = "tuple" ∨ T = "list" ∨ T = "dict" := by decide)
    (hs : starEach [e, eT] X.env = (false, eval e X.env) :: starEach [eT] X.env := by rfl) (hs2 : starEach [eT] X.env = (false, eval eT X.env) :: starEach [] X.env := by rfl) (hpl : (backTo pos (starEach [eT] X.env)).any (·.1) = false := by rfl) :
    DE X (.Call (.Name "isinstance" p) [e, eT] [] pos) (dIsi T fe) := by
  have hc : CallR X (.builtin "isinstance") (fun xs H Q => ∃ v dv Hid M, xs = [v, .ty T] ∧ Sok X.K Hid M H ∧ Rp X.K Hid M H v dv ∧ Q (.bl (isiB (tyD dv) T)) H) := by
    intro pins s σ H xs us Q I r ⟨v, dv, Hid, M, e, sk, rr, q⟩
    subst e
    obtain ⟨u1, u2, rfl, r1, r2⟩ := vals2 r
    cases r2
    obtain ⟨P, Z, p, hx⟩ := kitD I sk rr r1
    exact PySem.W.kia_one Z I.kIn p (kit_ty (isiB_ok dv T hh)) hx fun tk => ⟨.bl _, H, I.tok tk, rfl, q⟩
  refine (pe_callB hc hg hm (by decide +kernel) (pa_cons he (pa_cons hT pa_nil hs2) hs) (by decide) (by decide) hs hpl).imp fun σ H Q ⟨Hid, env, M, R, o, q, k⟩ => ?_
  refine up_of o q fun x M1 v H1 f1 o1 r1 q1 => ?_
  exact ⟨v, x, Hid, M1, rfl, o1.sok, r1, k _ H1 ⟨.dat (.bool _), M1, f1, o1.sok, Fz.bl _, q1⟩⟩

/-! ### subscripts -/
theorem atI_rp {K : PySem.W.Frag} {Hid : Addr → Prop} {M : Sto} {H : Hp} {vs : List V} {xs : List DV} {i : Int} {dv : DV} (r : RpAll K Hid M H vs xs) (h : atI xs i = some dv) : ∃ v, atI vs i = some v ∧ Rp K Hid M H v dv := by
  unfold atI at h ⊢
  rw [r.length]
  cases e : ixN xs.length i with
  | none => rw [e] at h; cases h
  | some j => rw [e] at h; exact r.get h
/-- x[i] -/
def dIx : D2 := fun x i M R => match i with
  | .dat (.int i) => match x with
    | .dat (.str z) => z.length ≤ sizeLine ∧ ∃ c, atI z.cps.toList i = some c ∧ R (.dat (.str ⟨#[c]⟩)) M
    | x => ∃ xs, seqOf M x = some xs ∧ ∃ dv, atI xs i = some dv ∧ R dv M
  | _ => False
theorem dIx_inv {x i : DV} {M : Sto} {R : DK} (h : dIx x i M R) : ∃ j, i = .dat (.int j) ∧ ((∃ z c, x = .dat (.str z) ∧ z.length ≤ sizeLine ∧ atI z.cps.toList j = some c ∧ R (.dat (.str ⟨#[c]⟩)) M) ∨ ∃ xs dv, seqOf M x = some xs ∧ atI xs j = some dv ∧ R dv M) := by
  unfold dIx at h
  split at h
  · refine ⟨_, rfl, ?_⟩
    split at h
    · obtain ⟨h1, c, h2, h3⟩ := h
      exact .inl ⟨_, c, rfl, h1, h2, h3⟩
    · obtain ⟨xs, h1, dv, h2, h3⟩ := h
      exact .inr ⟨xs, dv, h1, h2, h3⟩
  · exact h.elim
theorem id_ix : IxR X (up2 X.K dIx) := by
  intro value slice pins s σ H x y v u Q I rx ry ⟨Hid, M, dx, dy, R, sk, hx, hy, q, k⟩ hs
  obtain ⟨j, rfl, q'⟩ := dIx_inv q
  cases hy
  rcases q' with ⟨z, c, rfl, hz, hc, q⟩ | ⟨xs, dv, e1, e2, q⟩
  · cases hx
    exact ix_str value slice pins s σ H _ _ v u Q I rx ry ⟨z, j, c, rfl, rfl, hz, hc, k _ H (Post.same (dv := .dat (.str _)) sk (Fz.str _) q)⟩ hs
  · obtain ⟨a, vs, rfl, hq, r⟩ := seqOf_sq sk hx e1
    obtain ⟨w, h1, h2⟩ := atI_rp r e2
    rcases hq with hq | hq
    · exact ix_list value slice pins s σ H _ _ v u Q I rx ry ⟨a, vs, j, w, rfl, rfl, hq, h1, k _ H (Post.same sk h2 q)⟩ hs
    · exact ix_tup value slice pins s σ H _ _ v u Q I rx ry ⟨a, vs, j, w, rfl, rfl, hq, h1, k _ H (Post.same sk h2 q)⟩ hs
theorem de_ix {a b : Expr} {fa fb : DT} (ha : DE X a fa) (hb : DE X b fb) (hs : PlainIx b := by exact fun _ _ => rfl) : DE X (.Subscript a b pos) (d2 dIx fa fb) := (pe_ix id_ix ha hb hs).imp fun _ _ _ h => d2_up h

/-! ### slices -/
abbrev DO := Env → Sto → (Option Int → Sto → Prop) → Prop
def upO (K : PySem.W.Frag) (f : DO) : Stt → Hp → (Option Int → Hp → Prop) → Prop := fun σ H Q => ∃ Hid env M R, Ok K Hid M H env σ ∧ f env M R ∧ ∀ o M' H', Fr M H M' H' → Sok K Hid M' H' → R o M' → Q o H'
abbrev DOp (X : Cx) (e : Option Expr) (f : DO) : Prop := PO X e (upO X.K f)
def dNoPart : DO := fun _ M R => R none M
def dPart (f : DT) : DO := fun env M R => f env M fun x M1 => match x with
  | .dat (.int i) => R (some i) M1
  | _ => False
theorem _root_.L2.PO.imp {X : Cx} {e : Option Expr} {t t' : TO} (h : PO X e t) (k : ∀ σ H Q, t' σ H Q → t σ H Q) : PO X e t' := ⟨fun pins s σ H Q I q => h.run pins s σ H Q I (k σ H Q q)⟩
theorem do_none : DOp X none dNoPart := po_none.imp fun σ H Q ⟨Hid, env, M, R, o, q, k⟩ => k none M H (Fr.refl _ _) o.sok q
theorem do_some {e : Expr} {f : DT} (h : DE X e f) : DOp X (some e) (dPart f) := (po_some h).imp fun σ H Q ⟨Hid, env, M, R, o, q, k⟩ => up_of o q fun x M1 v H1 f1 o1 r1 q1 => by
  cases x with
  | obj a => exact q1.elim
  | dat d =>
    cases d with
    | int i => cases r1; exact ⟨i, rfl, k (some i) M1 H1 f1 o1.sok q1⟩
    | _ => exact q1.elim
/-- the items of xs[lo:hi] -/
def cutD {α : Type} (xs : List α) (lo hi : Option Int) : List α := (xs.drop (HT.sIx xs.length 0 lo)).take (HT.sIx xs.length xs.length hi - HT.sIx xs.length 0 lo)
def dSlV (x : DV) (lo hi : Option Int) (M : Sto) (R : DK) : Prop := match x with
  | .dat (.str z) => z.length ≤ sizeLine ∧ R (.dat (.str (cutS z lo hi))) M
  | .dat (.tuple ds) => R (.dat (.tuple (cutD ds lo hi))) M
  | x => ∃ xs ds, lstOf M x = some xs ∧ dats (cutD xs lo hi) = some ds ∧ R (.dat (.list ds)) M
def dSl (fe : DT) (tl th : DO) : DT := fun env M R => fe env M fun x M1 => tl env M1 fun l M2 => th env M2 fun u M3 => dSlV x l u M3 R
theorem cut_fz {K : PySem.W.Frag} {H : Hp} {F : Addr → Prop} {vs : List V} {ds : List PyData} (r : FzAll K H F vs ds) (lo hi : Option Int) : FzAll K H F (cutV vs lo hi) (cutD ds lo hi) := by
  unfold cutV cutD
  rw [r.length]
  exact (r.drop _).take _
theorem RpAll.take {K : PySem.W.Frag} {Hid : Addr → Prop} {M : Sto} {H : Hp} : ∀ {ds : List DV} {vs : List V} (n : Nat), RpAll K Hid M H vs ds → RpAll K Hid M H (vs.take n) (ds.take n)
  | _, _, 0, _ => by simpa using .nil
  | _, _, _ + 1, .nil => by simpa using .nil
  | _, _, n + 1, .cons h q => by simpa using .cons h (RpAll.take n q)
theorem RpAll.drop {K : PySem.W.Frag} {Hid : Addr → Prop} {M : Sto} {H : Hp} : ∀ {ds : List DV} {vs : List V} (n : Nat), RpAll K Hid M H vs ds → RpAll K Hid M H (vs.drop n) (ds.drop n)
  | _, _, 0, h => by simpa using h
  | _, _, _ + 1, .nil => by simpa using .nil
  | _, _, n + 1, .cons h q => by simpa using RpAll.drop n q
theorem cut_rp {K : PySem.W.Frag} {Hid : Addr → Prop} {M : Sto} {H : Hp} {vs : List V} {ds : List DV} (r : RpAll K Hid M H vs ds) (lo hi : Option Int) : RpAll K Hid M H (cutV vs lo hi) (cutD ds lo hi) := by
  unfold cutV cutD
  rw [r.length]
  exact (r.drop _).take _
theorem cutD_whole {α : Type} (xs : List α) (lo hi : Option Int) (h : HT.sIx xs.length 0 lo = 0 ∧ HT.sIx xs.length xs.length hi = xs.length) : cutD xs lo hi = xs := by
  unfold cutD
  rw [h.1, h.2]
  simp
theorem sd_list {Hid : Addr → Prop} {M : Sto} {H : Hp} {x : V} {dx : DV} {xs : List DV} {ds : List PyData} {R : DK} {lo hi : Option Int} (sk : Sok X.K Hid M H) (hx : Rp X.K Hid M H x dx) (e1 : lstOf M dx = some xs) (e2 : dats (cutD xs lo hi) = some ds) (q : R (.dat (.list ds)) M) :
    rSlL X.K x lo hi H (Post X.K Hid M H R) := by
  obtain ⟨a, vs, rfl, hq, r⟩ := lstOf_sq sk hx e1
  have r2 := cut_rp r lo hi
  rw [dats_inv e2] at r2
  exact ⟨a, vs, rfl, hq, fun p hp => post_lst sk hp r2.fz q⟩
theorem rSlL_mono {K : PySem.W.Frag} {x : V} {lo hi : Option Int} {H : Hp} {Q Q' : VK} (h : rSlL K x lo hi H Q) (k : ∀ v H', Q v H' → Q' v H') : rSlL K x lo hi H Q' := by
  obtain ⟨a, xs, e, hq, q⟩ := h
  exact ⟨a, xs, e, hq, fun p hp => k _ _ (q p hp)⟩
theorem sd_any : SlR X (fun x lo hi H Q => ∃ Hid M dx R, Sok X.K Hid M H ∧ Rp X.K Hid M H x dx ∧ dSlV dx lo hi M R ∧ ∀ v H', Post X.K Hid M H R v H' → Q v H') := by
  intro pins s σ H x v vl vu lo hi sl Q I rx hs pl pu ⟨Hid, M, dx, R, sk, hx, q, k⟩
  cases dx with
  | obj a =>
    obtain ⟨xs, ds, e1, e2, q⟩ := q
    exact sl_list pins s σ H _ v vl vu lo hi sl Q I rx hs pl pu (rSlL_mono (sd_list sk hx e1 e2 q) k)
  | dat d =>
    cases d with
    | str z => cases hx; exact sl_str pins s σ H _ v vl vu lo hi sl Q I rx hs pl pu ⟨z, rfl, q.1, k _ H (Post.same (dv := .dat (.str _)) sk (Fz.str _) q.2)⟩
    | tuple ds =>
      have q : R (.dat (.tuple (cutD ds lo hi))) M := q
      cases hx with
      | tup h1 h2 =>
        refine sl_tupA pins s σ H _ v vl vu lo hi sl Q I rx hs pl pu ⟨_, _, rfl, h1, fun w => ?_, fun _ p hp => k _ _ (post_tup sk hp (cut_fz h2 lo hi) q)⟩
        rw [h2.length] at w
        rw [cutD_whole ds lo hi w] at q
        exact k _ H (Post.same (dv := .dat (.tuple ds)) sk (Fz.tup h1 h2) q)
    | none => obtain ⟨xs, ds, e1, e2, q⟩ := q; exact sl_list pins s σ H _ v vl vu lo hi sl Q I rx hs pl pu (rSlL_mono (sd_list sk hx e1 e2 q) k)
    | bool c => obtain ⟨xs, ds, e1, e2, q⟩ := q; exact sl_list pins s σ H _ v vl vu lo hi sl Q I rx hs pl pu (rSlL_mono (sd_list sk hx e1 e2 q) k)
    | int c => obtain ⟨xs, ds, e1, e2, q⟩ := q; exact sl_list pins s σ H _ v vl vu lo hi sl Q I rx hs pl pu (rSlL_mono (sd_list sk hx e1 e2 q) k)
    | list c => obtain ⟨xs, ds, e1, e2, q⟩ := q; exact sl_list pins s σ H _ v vl vu lo hi sl Q I rx hs pl pu (rSlL_mono (sd_list sk hx e1 e2 q) k)
    | dict c => obtain ⟨xs, ds, e1, e2, q⟩ := q; exact sl_list pins s σ H _ v vl vu lo hi sl Q I rx hs pl pu (rSlL_mono (sd_list sk hx e1 e2 q) k)
theorem de_slice {e : Expr} {lo hi : Option Expr} {fe : DT} {tl th : DO} {p2 : Pos} (he : DE X e fe) (hl : DOp X lo tl) (hu : DOp X hi th) : DE X (.Subscript e (.Slice lo hi none p2) pos) (dSl fe tl th) :=
  (pe_slice sd_any he hl hu).imp fun σ H Q ⟨Hid, env, M, R, o, q, k⟩ => up_of o q fun x M1 v H1 f1 o1 r1 q1 => by
    refine ⟨Hid, env, M1, _, o1, q1, fun l M2 H2 f2 s2 q2 => ⟨Hid, env, M2, _, o1.keep f2 s2, q2, fun u M3 H3 f3 s3 q3 => ?_⟩⟩
    exact ⟨Hid, M3, x, R, s3, (r1.keep o1.sok f2).keep s2 f3, q3, fun w H4 p => k w H4 (p.trans ((f1.trans f2).trans f3))⟩
end
end DL
/-! the data layer: built-ins -/
namespace DL
open PySem PySem.Spec PyProof.Rows L2

section
variable {X : Cx} {pos : Pos}
/-! ### len, tuple, list, str, int -/
def dLen : DC := fun dvs M R => match dvs with
  | [.dat (.str z)] => z.length ≤ sizeLine ∧ R (.dat (.int z.length)) M
  | [x] => ∃ xs, seqOf M x = some xs ∧ R (.dat (.int xs.length)) M
  | _ => False
theorem dLen_inv {dvs : List DV} {M : Sto} {R : DK} (h : dLen dvs M R) : ∃ x, dvs = [x] ∧ ((∃ z, x = .dat (.str z) ∧ z.length ≤ sizeLine ∧ R (.dat (.int z.length)) M) ∨ ∃ xs, seqOf M x = some xs ∧ R (.dat (.int xs.length)) M) := by
  unfold dLen at h
  split at h
  · exact ⟨_, rfl, .inl ⟨_, rfl, h⟩⟩
  · exact ⟨_, rfl, .inr h⟩
  · exact h.elim
theorem rp1 {K : PySem.W.Frag} {Hid : Addr → Prop} {M : Sto} {H : Hp} {vs : List V} {x : DV} (r : RpAll K Hid M H vs [x]) : ∃ v, vs = [v] ∧ Rp K Hid M H v x := by
  cases r with
  | cons h q => cases q; exact ⟨_, rfl, h⟩
theorem rp2 {K : PySem.W.Frag} {Hid : Addr → Prop} {M : Sto} {H : Hp} {vs : List V} {x y : DV} (r : RpAll K Hid M H vs [x, y]) : ∃ v u, vs = [v, u] ∧ Rp K Hid M H v x ∧ Rp K Hid M H u y := by
  cases r with
  | cons h q =>
    obtain ⟨u, rfl, h2⟩ := rp1 q
    exact ⟨_, _, rfl, h, h2⟩
theorem cd_len : CallD X (.builtin "len") dLen := by
  intro pins s σ H xs us Q I r ⟨Hid, M, dvs, R, sk, rr, q, k⟩
  obtain ⟨x, rfl, q'⟩ := dLen_inv q
  obtain ⟨v, rfl, rv⟩ := rp1 rr
  rcases q' with ⟨z, rfl, hz, q⟩ | ⟨xs, e, q⟩
  · cases rv
    obtain ⟨u, rfl, ru⟩ := vals1 r
    exact call_len pins s σ H _ _ Q I r ⟨_, _, rfl, ⟨hz, rfl⟩, k _ H (Post.same (dv := .dat (.int _)) sk (Fz.int _) q)⟩
  · obtain ⟨a, vs, rfl, hq, r2⟩ := seqOf_sq sk rv e
    refine call_len_seq pins s σ H _ us Q I r ⟨a, vs, rfl, hq, k _ H (Post.same (dv := .dat (.int _)) sk (Fz.int _) ?_)⟩
    rw [r2.length]; exact q
def dTupleOf : DC := fun dvs M R => ∃ x xs ds, dvs = [x] ∧ seqOf M x = some xs ∧ dats xs = some ds ∧ R (.dat (.tuple ds)) M
theorem cd_tuple : CallD X (.type "tuple") dTupleOf := by
  intro pins s σ H xs us Q I r hh0
  obtain ⟨Hid, M, dvs, R, sk, rr, ⟨x, xs', ds, rfl, e1, e2, q⟩, k⟩ := hh0
  obtain ⟨v, rfl, rv⟩ := rp1 rr
  obtain ⟨a, vs, rfl, hq, r2⟩ := seqOf_sq sk rv e1
  rw [dats_inv e2] at r2
  rcases hq with hq | hq
  · exact call_tuple_of pins s σ H _ us Q I r ⟨a, vs, rfl, .inl ⟨hq, fun l hl => k _ _ (post_tup sk hl r2.fz q)⟩⟩
  · exact call_tuple_of pins s σ H _ us Q I r ⟨a, vs, rfl, .inr ⟨hq, k _ H (Post.same (dv := .dat (.tuple ds)) sk (Fz.tup hq r2.fz) q)⟩⟩
def dListOf : DC := fun dvs M R => ∃ x xs ds, dvs = [x] ∧ seqOf M x = some xs ∧ dats xs = some ds ∧ R (.dat (.list ds)) M
def dListOfN : DC := fun dvs M R => ∃ x xs, dvs = [x] ∧ seqOf M x = some xs ∧ ∀ p, M p = none → R (.obj p) (M.set p (.lst xs))
theorem cd_list : CallD X (.type "list") dListOf := by
  intro pins s σ H xs us Q I r hh0
  obtain ⟨Hid, M, dvs, R, sk, rr, ⟨x, xs', ds, rfl, e1, e2, q⟩, k⟩ := hh0
  obtain ⟨v, rfl, rv⟩ := rp1 rr
  obtain ⟨a, vs, rfl, hq, r2⟩ := seqOf_sq sk rv e1
  rw [dats_inv e2] at r2
  exact call_list_of pins s σ H _ us Q I r ⟨a, vs, rfl, hq, fun l hl => k _ _ (post_lst sk hl r2.fz q)⟩
theorem cd_listN : CallD X (.type "list") dListOfN := by
  intro pins s σ H xs us Q I r hh0
  obtain ⟨Hid, M, dvs, R, sk, rr, ⟨x, xs', rfl, e1, q⟩, k⟩ := hh0
  obtain ⟨v, rfl, rv⟩ := rp1 rr
  obtain ⟨a, vs, rfl, hq, r2⟩ := seqOf_sq sk rv e1
  exact call_list_of pins s σ H _ us Q I r ⟨a, vs, rfl, hq, fun l hl => k _ _ (post_lstN sk hl r2 (q l (sk.fresh hl)))⟩
def dStrInt : DC := fun dvs M R => ∃ i, dvs = [.dat (.int i)] ∧ i.natAbs.log2 < 1920 ∧ R (.dat (.str (toString i))) M
theorem cd_str : CallD X (.type "str") dStrInt := by
  intro pins s σ H xs us Q I r hh0
  obtain ⟨Hid, M, dvs, R, sk, rr, ⟨i, rfl, h, q⟩, k⟩ := hh0
  obtain ⟨v, rfl, rv⟩ := rp1 rr
  cases rv
  exact call_str_int pins s σ H _ us Q I r ⟨i, rfl, h, k _ H (Post.same (dv := .dat (.str _)) sk (Fz.str _) q)⟩
def dIntOf : DC := fun dvs M R => match dvs with
  | [.dat (.str a)] => ∃ n, PySem.intText? a = some n ∧ a.length ≤ 640 ∧ R (.dat (.int n)) M
  | [.dat (.int i)] => R (.dat (.int i)) M
  | [.dat (.bool b)] => R (.dat (.int (if b then 1 else 0))) M
  | _ => False
theorem cd_int : CallD X (.type "int") dIntOf := by
  intro pins s σ H xs us Q I r ⟨Hid, M, dvs, R, sk, rr, q, k⟩
  unfold dIntOf at q
  split at q
  · obtain ⟨n, h1, h2, q⟩ := q
    obtain ⟨v, rfl, rv⟩ := rp1 rr
    cases rv
    exact call_int_str pins s σ H _ us Q I r ⟨_, n, rfl, h1, h2, k _ H (Post.same (dv := .dat (.int _)) sk (Fz.int _) q)⟩
  · obtain ⟨v, rfl, rv⟩ := rp1 rr
    cases rv
    exact call_int1 pins s σ H _ us Q I r (.inl ⟨_, rfl, k _ H (Post.same (dv := .dat (.int _)) sk (Fz.int _) q)⟩)
  · obtain ⟨v, rfl, rv⟩ := rp1 rr
    cases rv
    exact call_int1 pins s σ H _ us Q I r (.inr ⟨_, rfl, k _ H (Post.same (dv := .dat (.int _)) sk (Fz.int _) q)⟩)
  · exact q.elim

/-! ### all, any -/
def dAll (neg : Bool) : DC := fun dvs M R => ∃ (x : DV) (xs : List DV) (bs : List Bool), dvs = [x] ∧ lstOf M x = some xs ∧ xs = bs.map (fun b => DV.dat (.bool b)) ∧ R (.dat (.bool (if neg then bs.any id else bs.all id))) M
theorem lst_reads {pins : List (Addr × Obj)} {s : Shared} {σ : Stt} {H : Hp} {K : PySem.W.Frag} {Hid : Addr → Prop} {M : Sto} {a : Addr} {vs : List V} {ds : List PyData} (I : Inv X pins σ H s) (hq : SqL X.K H a vs) (r : RpAll X.K Hid M H vs (ds.map DV.dat)) :
    ∃ its : List Value, Vals vs its ∧ s.heap.IsList a its.toArray ∧ vs.length ≤ sizeLine ∧ ∃ as, ReadsAll s.heap its ds as := by
  obtain ⟨its, rv, pl, hz⟩ := I.list hq
  obtain ⟨as, h⟩ := Dp.readsAll I ds vs its r.fz.dp rv
  exact ⟨its, rv, pl.isList, hz, as, h⟩
theorem plain_bools (bs : List Bool) : PyData.plainAll (bs.map PyData.bool) = true := by
  induction bs with
  | nil => rfl
  | cons b bs ih => simp [PyData.plainAll, PyData.plain, ih]
theorem truthy_any (bs : List Bool) : (bs.map PyData.bool).any PyData.truthy = bs.any id := by
  induction bs with
  | nil => rfl
  | cons b bs ih => simp [PyData.truthy, ih]
theorem truthy_all (bs : List Bool) : (bs.map PyData.bool).all PyData.truthy = bs.all id := by
  induction bs with
  | nil => rfl
  | cons b bs ih => simp [PyData.truthy, ih]
theorem cd_all (hh : X.A.handled = none) : CallD X (.builtin "all") (dAll false) := by
  intro pins s σ H xs us Q I r hh0
  obtain ⟨Hid, M, dvs, R, sk, rr, ⟨x, xs', bs, rfl, e1, rfl, q⟩, k⟩ := hh0
  obtain ⟨v, rfl, rv⟩ := rp1 rr
  obtain ⟨a, vs, rfl, hq, r2⟩ := lstOf_sq sk rv e1
  obtain ⟨u, rfl, ru⟩ := vals1 r
  cases ru
  have r3 : RpAll X.K Hid M H vs ((bs.map PyData.bool).map DV.dat) := by rw [List.map_map]; exact r2
  obtain ⟨its, rvs, hl, hz, as, hr⟩ := lst_reads (K := X.K) I hq r3
  refine PySem.W.all_list_data hh hl (xs := bs.map PyData.bool) (by simpa using hr) (plain_bools bs) (fun x hx => by obtain ⟨b, _, rfl⟩ := List.mem_map.mp hx; trivial) fun h' tk kp => ?_
  rw [truthy_all]
  exact ⟨.bl _, H, I.kept (t' := tk) kp, rfl, k _ H (Post.same (dv := .dat (.bool _)) sk (Fz.bl _) q)⟩
theorem cd_any (hh : X.A.handled = none) : CallD X (.builtin "any") (dAll true) := by
  intro pins s σ H xs us Q I r hh0
  obtain ⟨Hid, M, dvs, R, sk, rr, ⟨x, xs', bs, rfl, e1, rfl, q⟩, k⟩ := hh0
  obtain ⟨v, rfl, rv⟩ := rp1 rr
  obtain ⟨a, vs, rfl, hq, r2⟩ := lstOf_sq sk rv e1
  obtain ⟨u, rfl, ru⟩ := vals1 r
  cases ru
  have r3 : RpAll X.K Hid M H vs ((bs.map PyData.bool).map DV.dat) := by rw [List.map_map]; exact r2
  obtain ⟨its, rvs, hl, hz, as, hr⟩ := lst_reads (K := X.K) I hq r3
  refine PySem.W.any_list_data hh hl (xs := bs.map PyData.bool) (by simpa using hr) (plain_bools bs) (fun x hx => by obtain ⟨b, _, rfl⟩ := List.mem_map.mp hx; trivial) fun h' tk kp => ?_
  rw [truthy_any]
  exact ⟨.bl _, H, I.kept (t' := tk) kp, rfl, k _ H (Post.same (dv := .dat (.bool _)) sk (Fz.bl _) q)⟩

/-! ### sorted -/
def dSorted : DC := fun dvs M R => ∃ x xs ds, dvs = [x] ∧ lstOf M x = some xs ∧ dats xs = some ds ∧ PySem.W.AllAlike ds ∧ PySem.W.Sortable ds ∧ (∀ d ∈ ds, d.depth ≤ 50) ∧ R (.dat (.list (ds.mergeSort (PySem.W.dataLe false id)))) M
theorem each_vals {K : PySem.W.Frag} {H : Hp} {F : Addr → Prop} : ∀ {vs : List V} {its : List Value} {ds : List PyData}, Vals vs its → FzAll K H F vs ds → PySem.W.EachIs (fun u d => ∃ v, RelV v u ∧ Fz K H F v d) its ds
  | _, _, _, .nil, .nil => .nil
  | _, _, _, .cons r t, .cons h q => .cons ⟨_, r, h⟩ (each_vals t q)
theorem vals_each {K : PySem.W.Frag} {H : Hp} {F : Addr → Prop} : ∀ {its : List Value} {ds : List PyData}, PySem.W.EachIs (fun u d => ∃ v, RelV v u ∧ Fz K H F v d) its ds → ∃ vs, Vals vs its ∧ FzAll K H F vs ds
  | _, _, .nil => ⟨[], .nil, .nil⟩
  | _, _, .cons ⟨v, r, h⟩ t => let ⟨vs, a, b⟩ := vals_each t; ⟨v :: vs, .cons r a, .cons h b⟩
theorem cd_sorted (hu : X.A.units + 64 < cLine) : CallD X (.builtin "sorted") dSorted := by
  intro pins s σ H xs us Q I r hh0
  obtain ⟨Hid, M, dvs, R, sk, rr, ⟨x, xs', ds, rfl, e1, e2, al, so, dp, q⟩, k⟩ := hh0
  obtain ⟨v, rfl, rv⟩ := rp1 rr
  obtain ⟨a, vs, rfl, hq, r2⟩ := lstOf_sq sk rv e1
  rw [dats_inv e2] at r2
  obtain ⟨u, rfl, ru⟩ := vals1 r
  cases ru
  obtain ⟨its, rvs, pl, hz⟩ := I.list hq
  have ea := each_vals rvs r2.fz
  refine PySem.W.sorted_data (enc := id) (bs := ds) pl.isList ea (ea.mono fun u d ⟨v, h1, h2⟩ => Dp.reads I d v u h2.dp h1) (by simpa using al) (by simpa using so) (by rw [← ea.length, ← rvs.length]; exact hz) (fun d hd => by have := dp d hd; simp only [id]; omega) fun out ho eo => ?_
  obtain ⟨ws, w1, w2⟩ := vals_each eo
  obtain ⟨ep, he⟩ := PyProof.Rows.sortedAll_at s.heap its out.toArray
  have hf : H (s.heap.objs.size + 1) = none := I.hok.fresh (Nat.le_succ _)
  refine ⟨.ref _, upd H (s.heap.objs.size + 1) (.lst ws), I.laid (t' := s.toks) (fun _ _ => PyProof.Rows.sortedAll_old) (Nat.le_succ _) ⟨?_, out, ep, w1, he⟩, rfl, k _ _ (post_lst sk hf w2 q)⟩
  rw [w1.length, ho, ← ea.length, ← rvs.length]; exact hz
end
end DL
/-! the data layer: methods, items stored, what is walked -/
namespace DL
open PySem PySem.Spec PyProof.Rows L2

section
variable {X : Cx} {pos : Pos}
/-! ### methods -/
def tyOk (T : String) (x : DV) (M : Sto) : Prop := (T = "str" ∧ ∃ z, x = .dat (.str z)) ∨ (T = "list" ∧ ∃ xs, lstOf M x = some xs)
theorem tyOk_V {K : PySem.W.Frag} {Hid : Addr → Prop} {M : Sto} {H : Hp} {T : String} {x : DV} {v : V} (sk : Sok K Hid M H) (r : Rp K Hid M H v x) (h : tyOk T x M) : tyV K T v H := by
  rcases h with ⟨rfl, z, rfl⟩ | ⟨rfl, xs, e⟩
  · cases r; rfl
  · obtain ⟨a, vs, rfl, hq, _⟩ := lstOf_sq sk r e
    exact .inl ⟨rfl, vs, hq⟩
def dM (T : String) (g : DV → DC) (fo : DT) (fa : DA) : DT := fun env M R => fo env M fun x M1 => tyOk T x M1 ∧ fa env M1 fun dvs M2 => g x dvs M2 R
def dM0 (T : String) (g : DV → DC) (fo : DT) : DT := fun env M R => fo env M fun x M1 => tyOk T x M1 ∧ g x [] M1 R
theorem de_bm {o e : Expr} {es : List Expr} {fo : DT} {fa : DA} {name : Str} {apos cpos : Pos} {T id : String} {g : DV → DC} (pa : PlainAttrs T) (slot : Slot T name id) (hty : typeOf (.builtin id) = pure (.type "method_descriptor")) (hm : MtD X id g) (ho : DE X o fo) (ha : DAs X (e :: es) fa)
    (hbase : attributeBase o name X.env (eval o X.env) = eval o X.env := by rfl)
    (hfew : ((backTo cpos (starEach (e :: es) X.env)).all (fun x => !x.1) && (backToKw cpos (keywordEach [] X.env)).all (fun x => x.1.isSome)
      && decide ((e :: es).length + ([] : List Keyword).length + (if ([] : List Keyword).isEmpty then 0 else 1) < 30)) = true := by rfl)
    (hline : (apos.endLine == cpos.line) = true := by rfl) (hs : starEach (e :: es) X.env = (false, eval e X.env) :: starEach es X.env := by rfl) (hplain : (backTo cpos (starEach es X.env)).any (·.1) = false := by rfl) :
    DE X (.Call (.Attribute o name apos) (e :: es) [] cpos) (dM T g fo fa) :=
  (pe_bm pa slot hty hm ho ha hbase hfew hline hs hplain).imp fun σ H Q ⟨Hid, env, M, R, o, q, k⟩ => up_of o q fun x M1 v H1 f1 o1 r1 ⟨t, q1⟩ =>
    ⟨tyOk_V o1.sok r1 t, upA_of o1 q1 fun dvs M2 vs H2 f2 o2 r2 q2 => ⟨Hid, M2, x, dvs, R, o2.sok, r1.keep o1.sok f2, r2, q2, fun w H3 p => k w H3 (p.trans (f1.trans f2))⟩⟩
theorem de_bm0 {o : Expr} {fo : DT} {name : Str} {apos cpos : Pos} {T id : String} {g : DV → DC} (pa : PlainAttrs T) (slot : Slot T name id) (hty : typeOf (.builtin id) = pure (.type "method_descriptor")) (hm : MtD X id g) (ho : DE X o fo)
    (hbase : attributeBase o name X.env (eval o X.env) = eval o X.env := by rfl) (hline : (apos.endLine == cpos.line) = true := by rfl) : DE X (.Call (.Attribute o name apos) [] [] cpos) (dM0 T g fo) :=
  (pe_bm0 pa slot hty hm ho hbase hline).imp fun σ H Q ⟨Hid, env, M, R, o, q, k⟩ => up_of o q fun x M1 v H1 f1 o1 r1 ⟨t, q1⟩ =>
    ⟨tyOk_V o1.sok r1 t, ⟨Hid, M1, x, [], R, o1.sok, r1, .nil, q1, fun w H3 p => k w H3 (p.trans f1)⟩⟩
def dAppend : DV → DC := fun x dvs M R => ∃ a xs y, x = .obj a ∧ dvs = [y] ∧ M a = some (.lst xs) ∧ xs.length < sizeLine ∧ R (.dat .none) (M.set a (.lst (xs ++ [y])))
theorem put_post {K : PySem.W.Frag} {Hid : Addr → Prop} {M : Sto} {H : Hp} {a : Addr} {m : MO} {xs : List DV} {vs : List V} {R : DK} {v : V} {dv : DV} (sk : Sok K Hid M H) (e : M a = some m) (r : RpAll K Hid M H vs xs)
    (rv : ∀ M' H', Fr M H M' H' → Rp K Hid M' H' v dv) (q : R dv (M.set a (.lst xs))) : Post K Hid M H R v (upd H a (.lst vs)) := by
  have h := sk.put (a := a) (by rw [e]; simp) r
  exact ⟨dv, _, h.1, h.2, rv _ _ h.1, q⟩
theorem md_append : MtD X "list.append" dAppend := by
  intro pins s σ H x xs v us Q I rx rxs h
  obtain ⟨Hid, M, dx, dvs, R, sk, hx, hxs, ⟨a, ys, y, rfl, rfl, e, hz, q⟩, k⟩ := h
  obtain ⟨rfl, m, e'⟩ := hx
  obtain ⟨w, rfl, rw'⟩ := rp1 hxs
  obtain ⟨vs, e2, r2⟩ := sk.1 a _ e
  exact mt_append pins s σ H _ _ v us Q I rx rxs ⟨a, vs, w, rfl, rfl, e2, by rw [r2.length]; exact hz, k _ _ (put_post (dv := .dat .none) sk e (r2.append (.cons rw' .nil)) (fun _ _ _ => Fz.non) q)⟩
def dExtend : DV → DC := fun x dvs M R => ∃ a xs y ys, x = .obj a ∧ dvs = [y] ∧ M a = some (.lst xs) ∧ lstOf M y = some ys ∧ (∃ d, y = .dat d) ∧ xs.length + ys.length ≤ sizeLine ∧ R (.dat .none) (M.set a (.lst (xs ++ ys)))
def dReverse : DV → DC := fun x dvs M R => ∃ a xs, x = .obj a ∧ dvs = [] ∧ M a = some (.lst xs) ∧ R (.dat .none) (M.set a (.lst xs.reverse))
theorem md_reverse : MtD X "list.reverse" dReverse := by
  intro pins s σ H x xs v us Q I rx rxs h
  obtain ⟨Hid, M, dx, dvs, R, sk, hx, hxs, ⟨a, ys, rfl, rfl, e, q⟩, k⟩ := h
  obtain ⟨rfl, m, e'⟩ := hx
  cases hxs
  obtain ⟨vs, e2, r2⟩ := sk.1 a _ e
  exact mt_reverse pins s σ H _ _ v us Q I rx rxs ⟨a, vs, rfl, rfl, e2, k _ _ (put_post (dv := .dat .none) sk e r2.rev (fun _ _ _ => Fz.non) q)⟩
def dClear : DV → DC := fun x dvs M R => ∃ a xs, x = .obj a ∧ dvs = [] ∧ M a = some (.lst xs) ∧ R (.dat .none) (M.set a (.lst []))
theorem md_clear : MtD X "list.clear" dClear := by
  intro pins s σ H x xs v us Q I rx rxs h
  obtain ⟨Hid, M, dx, dvs, R, sk, hx, hxs, ⟨a, ys, rfl, rfl, e, q⟩, k⟩ := h
  obtain ⟨rfl, m, e'⟩ := hx
  cases hxs
  obtain ⟨vs, e2, r2⟩ := sk.1 a _ e
  exact mt_clear pins s σ H _ _ v us Q I rx rxs ⟨a, vs, rfl, rfl, e2, k _ _ (put_post (dv := .dat .none) sk e .nil (fun _ _ _ => Fz.non) q)⟩
/-- z.split(y) -/
def dSplit : DV → DC := fun x dvs M R => ∃ a b, x = .dat (.str a) ∧ dvs = [.dat (.str b)] ∧ (b.length == 0) = false ∧ a.length + 2 ≤ sizeLine ∧ R (.dat (.list ((Txt.split a b).map PyData.str))) M
theorem fz_strs {K : PySem.W.Frag} {H : Hp} {F : Addr → Prop} : ∀ ys : List Str, FzAll K H F (ys.map V.str) (ys.map PyData.str)
  | [] => .nil
  | y :: ys => .cons (.str y) (fz_strs ys)
theorem fz_strs_inv {K : PySem.W.Frag} {H : Hp} {F : Addr → Prop} : ∀ {vs : List V} {ys : List Str}, FzAll K H F vs (ys.map PyData.str) → vs = ys.map V.str
  | _, [], h => by cases h; rfl
  | _, y :: ys, h => by
    cases h with
    | cons h q => cases h; rw [fz_strs_inv q]; rfl
theorem md_split : MtD X "str.split" dSplit := by
  intro pins s σ H x xs v us Q I rx rxs h
  obtain ⟨Hid, M, dx, dvs, R, sk, hx, hxs, ⟨a, b, rfl, rfl, hb, hz, q⟩, k⟩ := h
  obtain ⟨w, rfl, rw'⟩ := rp1 hxs
  cases hx; cases rw'
  exact mt_split pins s σ H _ _ v us Q I rx rxs ⟨a, b, rfl, rfl, hb, hz, fun p hp => k _ _ (post_lst sk hp (fz_strs _) q)⟩
def dJoin : DV → DC := fun x dvs M R => ∃ a y xs ys, x = .dat (.str a) ∧ dvs = [y] ∧ seqOf M y = some xs ∧ xs = ys.map (fun z => DV.dat (.str z)) ∧ (ys.map (·.length)).sum + ys.length * a.length ≤ 16777216 ∧ R (.dat (.str (Txt.join a ys))) M
theorem md_join : MtD X "str.join" dJoin := by
  intro pins s σ H x xs v us Q I rx rxs h
  obtain ⟨Hid, M, dx, dvs, R, sk, hx, hxs, ⟨a, y, zs, ys, rfl, rfl, e, rfl, hz, q⟩, k⟩ := h
  obtain ⟨w, rfl, rw'⟩ := rp1 hxs
  cases hx
  obtain ⟨b, vs, rfl, hq, r2⟩ := seqOf_sq sk rw' e
  have r3 : RpAll X.K Hid M H vs ((ys.map PyData.str).map DV.dat) := by rw [List.map_map]; exact r2
  have := fz_strs_inv r3.fz
  subst this
  exact mt_join pins s σ H _ _ v us Q I rx rxs ⟨a, b, ys, rfl, rfl, hq, hz, k _ H (Post.same (dv := .dat (.str _)) sk (Fz.str _) q)⟩

/-! ### o[i] = v -/
def dgSub (fo fi : DT) : DG := fun dv env M R => fo env M fun o M1 => fi env M1 fun i M2 => ∃ a xs k j, o = .obj a ∧ i = .dat (.int k) ∧ M2 a = some (.lst xs) ∧ ixN xs.length k = some j ∧ R env (M2.set a (.lst (xs.set j dv)))
theorem dg_sub {vs : List Nat} {o i : Expr} {fo fi : DT} (ho : DE X o fo) (hi : DE X i fi)
    (ha : ∀ v, assign (.Subscript o i pos) X.env v = (do
      let ov ← holding [v] (eval o X.env)
      let iv ← holding [v, ov] (eval i X.env)
      standAt pos
      holding [v, ov, iv] (setItem ov iv v)
      release [v, ov, iv] []) := by intro _; rfl) : DGt X vs (.Subscript o i pos) (dgSub fo fi) :=
  (pg_sub ho hi set_list ha).imp fun v σ H Q ⟨Hid, env, M, dv, R, ok, r, q, k⟩ => by
    refine up_of ok q fun x M1 vo H1 f1 o1 r1 q1 => up_of o1 q1 fun y M2 vi H2 f2 o2 r2 q2 => ?_
    obtain ⟨a, xs, kk, j, rfl, rfl, e, hj, q3⟩ := q2
    obtain ⟨rfl, _⟩ := r1
    cases r2
    obtain ⟨ws, e2, r3⟩ := o2.sok.1 a _ e
    have h := o2.sok.put (a := a) (by rw [e]; simp) (r3.set j ((r.keep ok.sok f1).keep o1.sok f2))
    exact ⟨a, ws, kk, j, rfl, rfl, e2, by rw [r3.length]; exact hj, k env _ σ _ ((f1.trans f2).trans h.1) (o2.keep h.1 h.2) rfl q3⟩

/-! ### sources -/
theorem _root_.L2.PI.or {X : Cx} {tg e : Expr} {t t' : TI} (h : PI X tg e t) (h' : PI X tg e t') : PI X tg e (fun σ H R => t σ H R ∨ t' σ H R) :=
  ⟨fun pins s σ H R I q => q.elim (h.run pins s σ H R I) (h'.run pins s σ H R I)⟩
def dSrc (fe : DT) : DI := fun env M RR => fe env M fun x M1 => ∃ xs, seqOf M1 x = some xs ∧ RR xs (fun M => seqOf M x = some xs) M1
theorem seq_here {K : PySem.W.Frag} {Hid Hi : Addr → Prop} {M0 M : Sto} {H0 H : Hp} {x : DV} {xs : List DV} {v : V} (s0 : Sok K Hid M0 H0) (r0 : Rp K Hid M0 H0 v x) (hh : ∀ a, Hi a → Hid a ∨ H0 a = none) (f : Fr M0 H0 M H) (s : Sok K Hi M H) (e : seqOf M x = some xs) :
    ∃ a vs, v = .ref a ∧ (SqL K H a vs ∨ SqT K H a vs) ∧ RpAll K Hi M H vs xs :=
  seqOf_sq s ((r0.hid hh).keepT (fun _ _ q => s0.tup f q) f) e
/-- a value is a list or it is not -/
def isL (M : Sto) : DV → Bool
  | .dat (.tuple _) => false
  | _ => true
theorem seqOf_list {K : PySem.W.Frag} {Hid : Addr → Prop} {M : Sto} {H : Hp} {v : V} {dv : DV} {xs : List DV} (s : Sok K Hid M H) (r : Rp K Hid M H v dv) (h : seqOf M dv = some xs) (hl : isL M dv = true) : ∃ a vs, v = .ref a ∧ SqL K H a vs ∧ RpAll K Hid M H vs xs := by
  cases dv with
  | obj a => exact lstOf_sq s r h
  | dat d => cases d with
    | tuple ds => cases hl
    | _ => exact lstOf_sq s r h
theorem seqOf_tup {K : PySem.W.Frag} {Hid : Addr → Prop} {M : Sto} {H : Hp} {v : V} {dv : DV} {xs : List DV} (r : Rp K Hid M H v dv) (h : seqOf M dv = some xs) (hl : isL M dv = false) : ∃ a vs, v = .ref a ∧ SqT K H a vs ∧ RpAll K Hid M H vs xs := by
  cases dv with
  | obj a => cases hl
  | dat d => cases d with
    | tuple ds =>
      cases h
      cases r with
      | tup ha q => exact ⟨_, _, rfl, ha, RpAll.of_fz q⟩
    | _ => cases hl
def iAny (K : PySem.W.Frag) (tl : TE) : TI := fun σ H R => tl σ H fun x H1 => ∃ a, x = .ref a ∧ (((∃ xs, SqL K H1 a xs) ∧ R (Itl K a) H1) ∨ ((∃ xs, SqT K H1 a xs) ∧ R (Itt K a) H1))
theorem pi_any {tg l : Expr} {tl : TE} (hl : PE X l tl) : PI X tg l (iAny X.K tl) := by
  refine ⟨fun pn sh st Hh RR Iv hh => ?_⟩
  refine thn (hl.run pn sh st Hh _ Iv hh) fun val sh1 fin => ?_
  obtain ⟨x, H1, I1, r1, a, ea, alt⟩ := fin
  subst ea
  cases r1
  have kp : ∀ (ob : Obj), Inv X pn st H1 { sh1 with heap := sh1.heap.push ob, toks := sh1.toks } := fun ob => I1.kept fun b o e => Heap.get?_push_of_some _ e
  have fresh : ∀ b ∈ [sh1.heap.objs.size], FpOk X pn H1 b := fun b hb => by
    obtain rfl : b = sh1.heap.objs.size := List.mem_singleton.mp hb
    exact I1.fpOk (Nat.le_refl _) (I1.hok.fresh (Nat.le_refl _))
  rcases alt with ⟨⟨xs, hq⟩, q⟩ | ⟨⟨xs, hq⟩, q⟩
  · obtain ⟨its, rv, p, hz⟩ := I1.list hq
    exact wpAny_pyIter_list p.isList ⟨_, [_], _, _, H1, rfl, kp _, turn_list a _, ⟨_, Heap.get?_push_size _ rfl, rfl, rfl⟩, fresh, q⟩
  · obtain ⟨its, rv, p, hz⟩ := I1.tuple hq
    exact wpAny_pyIter_tuple (show sh1.heap.IsTuple a its.toArray from p) ⟨_, [_], _, _, H1, rfl, kp _, turn_tuple a _, ⟨_, Heap.get?_push_size _ rfl, rfl, rfl⟩, fresh, q⟩
theorem itd_list {Hid : Addr → Prop} {M0 : Sto} {H0 : Hp} {x : DV} {xs : List DV} {a : Addr} (K : PySem.W.Frag) (s0 : Sok K Hid M0 H0) (r0 : Rp K Hid M0 H0 (.ref a) x) (hl : isL M0 x = true) : ItD K Hid (Itl K a) xs (fun M => seqOf M x = some xs) M0 H0 := by
  have here : ∀ {Hi : Addr → Prop} {M : Sto} {H : Hp}, (∀ a, Hi a → Hid a ∨ H0 a = none) → Fr M0 H0 M H → Sok K Hi M H → seqOf M x = some xs → ∃ vs, SqL K H a vs ∧ RpAll K Hi M H vs xs := fun {Hi M H} hh f s e => by
    obtain ⟨b, vs, eb, h1, h2⟩ := seqOf_list s ((r0.hid hh).keepT (fun _ _ q => s0.tup f q) f) e (by cases x with | obj _ => rfl | dat d => cases d <;> first | rfl | exact hl)
    cases eb
    exact ⟨vs, h1, h2⟩
  refine ⟨fun Hi M H i hh f s e hi => ?_, fun Hi M H i v H' dv hh f s e hx y => ?_, fun Hi M H hh f s e => ?_⟩
  · obtain ⟨vs, h1, h2⟩ := here hh f s e
    have hv : i < vs.length := by rw [h2.length]; exact hi
    exact ⟨vs, vs[i], h1, by simp [hv]⟩
  · obtain ⟨vs, h1, h2⟩ := here hh f s e
    obtain ⟨rfl, y⟩ := y
    obtain ⟨w, w1, w2⟩ := h2.get hx
    have := y vs h1
    rw [w1] at this; cases this
    exact ⟨Fr.refl _ _, s, w2⟩
  · obtain ⟨vs, h1, h2⟩ := here hh f s e
    exact ⟨vs, h1, by rw [h2.length]; exact Nat.le_refl _⟩
theorem itd_tup {Hid : Addr → Prop} {M0 : Sto} {H0 : Hp} {x : DV} {xs : List DV} {a : Addr} (K : PySem.W.Frag) (s0 : Sok K Hid M0 H0) (r0 : Rp K Hid M0 H0 (.ref a) x) (hl : isL M0 x = false) : ItD K Hid (Itt K a) xs (fun M => seqOf M x = some xs) M0 H0 := by
  have here : ∀ {Hi : Addr → Prop} {M : Sto} {H : Hp}, (∀ a, Hi a → Hid a ∨ H0 a = none) → Fr M0 H0 M H → Sok K Hi M H → seqOf M x = some xs → ∃ vs, SqT K H a vs ∧ RpAll K Hi M H vs xs := fun {Hi M H} hh f s e => by
    obtain ⟨b, vs, eb, h1, h2⟩ := seqOf_tup ((r0.hid hh).keepT (fun _ _ q => s0.tup f q) f) e (by cases x with | obj _ => exact hl | dat d => cases d <;> first | rfl | exact hl)
    cases eb
    exact ⟨vs, h1, h2⟩
  refine ⟨fun Hi M H i hh f s e hi => ?_, fun Hi M H i v H' dv hh f s e hx y => ?_, fun Hi M H hh f s e => ?_⟩
  · obtain ⟨vs, h1, h2⟩ := here hh f s e
    have hv : i < vs.length := by rw [h2.length]; exact hi
    exact ⟨vs, vs[i], h1, by simp [hv]⟩
  · obtain ⟨vs, h1, h2⟩ := here hh f s e
    obtain ⟨rfl, y⟩ := y
    obtain ⟨w, w1, w2⟩ := h2.get hx
    have := y vs h1
    rw [w1] at this; cases this
    exact ⟨Fr.refl _ _, s, w2⟩
  · obtain ⟨vs, h1, h2⟩ := here hh f s e
    exact ⟨vs, h1, by rw [h2.length]; exact Nat.le_refl _⟩
theorem di_seq {tg e : Expr} {fe : DT} (he : DE X e fe) : DIt X tg e (dSrc fe) :=
  (pi_any he).imp fun σ H RR ⟨Hid, env, M, R, o, q, k⟩ => up_of o q fun x M1 v H1 f1 o1 r1 ⟨xs, e1, q1⟩ => by
    by_cases hl : isL M1 x = true
    · obtain ⟨a, vs, rfl, h1, h2⟩ := seqOf_list o1.sok r1 e1 hl
      exact ⟨a, rfl, .inl ⟨⟨vs, h1⟩, k _ xs _ M1 H1 f1 o1.sok (itd_list X.K o1.sok r1 hl) q1⟩⟩
    · have hl : isL M1 x = false := by simpa using hl
      obtain ⟨a, vs, rfl, h1, h2⟩ := seqOf_tup r1 e1 hl
      exact ⟨a, rfl, .inr ⟨⟨vs, h1⟩, k _ xs _ M1 H1 f1 o1.sok (itd_tup X.K o1.sok r1 hl) q1⟩⟩
/-- range(n), range(a, b) -/
def rangeL (lo : Int) (n : Nat) : List DV := (List.range n).map fun (i : Nat) => DV.dat (.int (lo + i))
theorem itd_range (K : PySem.W.Frag) (Hid : Addr → Prop) (lo : Int) (n : Nat) (M0 : Sto) (H0 : Hp) : ItD K Hid (Itr lo n) (rangeL lo n) (fun _ => True) M0 H0 := by
  refine ⟨fun Hi M H i hh f s e hi => by
    have : i < n := by simpa [rangeL] using hi
    exact this, fun Hi M H i v H' dv hh f s e hx y => ?_, fun Hi M H hh f s e => by simp [rangeL, Itr]⟩
  obtain ⟨rfl, rfl⟩ := y
  refine ⟨Fr.refl _ _, s, ?_⟩
  simp only [rangeL, List.getElem?_map, Option.map_eq_some_iff] at hx
  obtain ⟨j, h1, rfl⟩ := hx
  have : j = i := by
    have := List.getElem?_eq_some_iff.mp h1
    obtain ⟨h2, h3⟩ := this
    simpa using h3.symm
  subst this
  exact Fz.int _
def dRange1 (fa : DA) : DI := fun env M RR => fa env M fun dvs M1 => ∃ j : Int, dvs = [.dat (.int j)] ∧ -(2 ^ 62) ≤ j ∧ j < 2 ^ 62 ∧ RR (rangeL 0 j.toNat) (fun _ => True) M1
def dRange2 (fa : DA) : DI := fun env M RR => fa env M fun dvs M1 => ∃ i j : Int, dvs = [.dat (.int i), .dat (.int j)] ∧ (-(2 ^ 62) ≤ i ∧ i < 2 ^ 62 ∧ -(2 ^ 62) ≤ j ∧ j < 2 ^ 62) ∧ RR (rangeL i (j - i).toNat) (fun _ => True) M1
theorem di_range1 {tg a : Expr} {fa : DA} {p : Pos} (hg : Gl X "range") (hm : X.mg "range" = none) (ha : DAs X [a] fa) (hs : starEach [a] X.env = [(false, eval a X.env)] := by rfl) : DIt X tg (.Call (.Name "range" p) [a] [] pos) (dRange1 fa) :=
  (pi_range1 hg hm ha hs).imp fun σ H RR ⟨Hid, env, M, R, o, q, k⟩ => upA_of o q fun dvs M1 vs H1 f1 o1 r1 q1 => by
    obtain ⟨j, rfl, b1, b2, q2⟩ := q1
    obtain ⟨v, rfl, rv⟩ := rp1 r1
    cases rv
    exact ⟨j, rfl, b1, b2, k _ _ _ M1 H1 f1 o1.sok (itd_range _ _ _ _ _ _) q2⟩
theorem di_range2 {tg a b : Expr} {fa : DA} {p : Pos} (hg : Gl X "range") (hm : X.mg "range" = none) (ha : DAs X [a, b] fa) (hs : starEach [a, b] X.env = [(false, eval a X.env), (false, eval b X.env)] := by rfl) (hs2 : starEach [b] X.env = [(false, eval b X.env)] := by rfl) :
    DIt X tg (.Call (.Name "range" p) [a, b] [] pos) (dRange2 fa) :=
  (pi_range2 hg hm ha hs hs2).imp fun σ H RR ⟨Hid, env, M, R, o, q, k⟩ => upA_of o q fun dvs M1 vs H1 f1 o1 r1 q1 => by
    obtain ⟨i, j, rfl, b1, q2⟩ := q1
    obtain ⟨v, u, rfl, rv, ru⟩ := rp2 r1
    cases rv; cases ru
    exact ⟨i, j, rfl, b1, k _ _ _ M1 H1 f1 o1.sok (itd_range _ _ _ _ _ _) q2⟩
end
end DL
/-! the data layer: len(set(texts)) -/
namespace DL
open PySem PySem.Spec PyProof.Rows L2
/-- each thing once, in order of its first place -/
def uniq : List Str → List Str → List Str
  | acc, [] => acc
  | acc, x :: xs => uniq (if x ∈ acc then acc else acc ++ [x]) xs
theorem uniq_snoc (x : Str) : ∀ (xs acc : List Str), uniq acc (xs ++ [x]) = if x ∈ uniq acc xs then uniq acc xs else uniq acc xs ++ [x]
  | [], acc => rfl
  | y :: ys, acc => by
    show uniq _ (ys ++ [x]) = _
    exact uniq_snoc x ys _
theorem uniq_le : ∀ (xs acc : List Str), (uniq acc xs).length ≤ acc.length + xs.length
  | [], acc => by simp [uniq]
  | y :: ys, acc => by
    have := uniq_le ys (if y ∈ acc then acc else acc ++ [y])
    unfold uniq
    by_cases h : y ∈ acc
    · rw [if_pos h] at this ⊢; simp at this ⊢; omega
    · rw [if_neg h] at this ⊢; simp at this ⊢; omega
theorem uniq_nodup : ∀ {xs acc : List Str}, (acc ++ xs).Nodup → uniq acc xs = acc ++ xs
  | [], acc, _ => by simp [uniq]
  | y :: ys, acc, h => by
    have hy : y ∉ acc := fun m => by
      have := (List.nodup_append.mp h).2.2 y m y List.mem_cons_self
      exact this rfl
    unfold uniq
    rw [if_neg hy, uniq_nodup (by simpa using h)]
    simp
theorem uniq_lt : ∀ {xs acc : List Str}, ¬ xs.Nodup ∨ (∃ x ∈ xs, x ∈ acc) → (uniq acc xs).length < acc.length + xs.length
  | [], acc, h => by
    rcases h with h | ⟨x, hx, _⟩
    · exact absurd List.nodup_nil h
    · cases hx
  | y :: ys, acc, h => by
    by_cases hy : y ∈ acc
    · unfold uniq
      rw [if_pos hy]
      have := uniq_le ys acc
      simp; omega
    · unfold uniq
      rw [if_neg hy]
      have : (uniq (acc ++ [y]) ys).length < (acc ++ [y]).length + ys.length := by
        refine uniq_lt ?_
        rcases h with h | ⟨x, hx, ha⟩
        · by_cases hm : y ∈ ys
          · exact .inr ⟨y, hm, by simp⟩
          · exact .inl fun n => h (List.nodup_cons.mpr ⟨hm, n⟩)
        · rcases List.mem_cons.mp hx with e | hx
          · subst e; exact absurd ha hy
          · exact .inr ⟨x, hx, by simp [ha]⟩
      simp at this ⊢; omega
theorem uniq_all {xs : List Str} : decide ((uniq [] xs).length = xs.length) = decide xs.Nodup := by
  by_cases h : xs.Nodup
  · have := uniq_nodup (acc := []) (by simpa using h)
    rw [this]; simp [h]
  · have := uniq_lt (acc := []) (.inl h)
    have n : ¬ (uniq [] xs).length = xs.length := by simp at this; omega
    simp [h, n]
/-- the set there of the first texts -/
abbrev Met (P : Program) (w : World) (h : Heap) (a : Addr) (ys : List Str) : Prop := h.SetOf (PySem.strKind P w) a (fun z => decide (z ∈ ys)) ys.length
theorem Met.at {P : Program} {w : World} {h h' : Heap} {a : Addr} {ys : List Str} (m : Met P w h a ys) (k : ∀ o, h.get? a = some o → h'.get? a = some o) : Met P w h' a ys := by
  obtain ⟨o, r1, r2, r3, e, rr⟩ := m
  exact ⟨o, r1, r2, r3, k o e, rr⟩
section
variable {P : Program} {w : World} {A : Around} {R : Result → Shared → Prop} {it : Addr} {fp wr : List Addr} {G : Array GenState → Array GenState → Prop} {Pv : Nat → Value → Prop} {St : Nat → Shared → Prop}
theorem met_loop (xs : List Str) (W : WalksS P w A.in1 it fp wr G xs.length Pv St) (a : Addr) (ha : a ∉ fp) (hv : ∀ i v, Pv i v → ∃ t, v = .str (xs.getD i Str.empty) t) (hb : xs.length + 1 < scanBound) :
    ∀ (k i : Nat) (s : Shared), k = xs.length - i → i ≤ xs.length → St i s → Met P w s.heap a (uniq [] (xs.take i)) →
      (∀ s', Moved (a :: wr) G s s' → Met P w s'.heap a (uniq [] xs) → R (.ok (.ret .none)) s') → codeAny (model P w) A (.builtin "set.update.loop" ⟨[.ref a, .ref it], []⟩) R s := by
  have haw : a ∉ wr := fun z => ha (W.sub a z)
  have more : ∀ b ∈ wr, b ∈ a :: wr := fun b z => List.mem_cons_of_mem a z
  intro k
  induction k with
  | zero =>
    intro i s hk hi st m fin
    obtain rfl : i = xs.length := by omega
    rw [List.take_length] at m
    refine codeAny_builtin PyProof.Rows.F.entry_set_update_loop ?_
    rw [Around.under_plainId PyProof.Rows.F.plain_set_update_loop _]
    refine wpAny_bind (W.done s _ _ st fun s2 mv => ?_)
    exact wpAny_pure (fin s2 (mv.mono more) (m.at fun o e => mv.heap a o haw e))
  | succ k ih =>
    intro i s hk hi st m fin
    have lt : i < xs.length := by omega
    refine codeAny_builtin PyProof.Rows.F.entry_set_update_loop ?_
    rw [Around.under_plainId PyProof.Rows.F.plain_set_update_loop _]
    refine wpAny_bind (W.item i s _ _ lt st fun v s2 pv st2 mv => ?_)
    obtain ⟨tk, rfl⟩ := hv i v pv
    have m2 : Met P w s2.heap a (uniq [] (xs.take i)) := m.at fun o e => mv.heap a o haw e
    refine wpAny_bind (wpAny_holding ?_)
    unfold setAdd
    refine wpAny_holding (wpAny_bind ((PySem.strKind P w).pyHash (k := xs.getD i Str.empty) (strKind_is _ _ _ _) ?_))
    have room : (uniq [] (xs.take i)).length + 1 < scanBound := by
      have := uniq_le (xs.take i) []
      simp at this
      omega
    refine wpAny_setAddHashed_of (knd := PySem.strKind P w) (s := { s2 with toks := s2.toks + 1 }) (strKind_is _ _ _ _) rfl m2 room fun h3 sb m3 => ?_
    have e1 : xs.take (i + 1) = xs.take i ++ [xs.getD i Str.empty] := by
      rw [List.take_add_one, List.getD_eq_getElem?_getD, List.getElem?_eq_getElem lt]; rfl
    have m4 : Met P w h3 a (uniq [] (xs.take (i + 1))) := by
      refine SetOf_congr m3 (fun z => ?_) ?_
      · rw [e1, uniq_snoc]
        by_cases q : xs.getD i Str.empty ∈ uniq [] (xs.take i)
        · rw [if_pos q]
          by_cases q2 : z = xs.getD i Str.empty
          · rw [q2]; simp only [decide_eq_true q, Bool.true_or]
          · simp only [q2, decide_false, Bool.or_false]
        · rw [if_neg q]
          simp only [List.mem_append, List.mem_singleton, Bool.decide_or]
      · rw [e1, uniq_snoc]
        by_cases q : xs.getD i Str.empty ∈ uniq [] (xs.take i)
        · rw [if_pos q, if_pos (decide_eq_true q)]
        · rw [if_neg q, if_neg (by simpa using q), List.length_append]; rfl
    refine wpAny_pure ⟨plainId_quiet PyProof.Rows.F.plain_set_update_loop _, ih (i + 1) _ (by omega) lt (W.frame _ s2 _ _ st2 (Nat.le_succ _) fun b z o e => ?_) m4 fun s5 mv5 m5 => ?_⟩
    · rw [sb.2 b (fun y : b = a => ha (y ▸ z))]
      exact e
    · refine fin s5 (Moved.trans W.gtrans ((mv.mono more).then_heap (Nat.le_succ _) fun b o z e => ?_) mv5) m5
      rw [sb.2 b (fun y : b = a => z (y ▸ List.mem_cons_self))]
      exact e
end
/-- a new set, as the maker leaves it -/
abbrev setObj (led : Bool) : Obj := { cls := .type "set", dict := none, data := .set #[] 0 (.fresh 0 0 led) }
section
variable {P : Program} {w : World} {A : Around} {E : Value → Shared → Prop} {s : Shared}
set_option maxHeartbeats 8000000 in
theorem call_setT {l : Addr} {items : Array Value} {xs : List Str} {Q : Value → Shared → Prop} (calm : A.handled = none) (hl : s.heap.IsTuple l items) (hi : PyProof.Rows.StrsAre items.toList xs) (hb : xs.length + 1 < scanBound)
    (fin : ∀ (h' : Heap) (tk : Nat), Met P w h' s.heap.objs.size (uniq [] xs) → (∀ b o, s.heap.get? b = some o → h'.get? b = some o) → Q (.ref s.heap.objs.size) { s with heap := h', toks := tk }) :
    wpAny (model P w) A (call (.type "set") [.ref l]) Q E s := by
  obtain ⟨c, tl, hmro⟩ := PySem.F.called_set.mro
  have q1 := PySem.F.called_set.made
  have q2 := PySem.F.called_set.sub
  have q3 := PySem.F.called_set.notType
  have q4 := PySem.F.called_set.canCreate
  have q5 := PySem.F.typeCall_set_1 (.ref l)
  refine wpAny_call (codeAny_of_tree ?_)
  refine wpAny_pure ⟨Code.quiet_builtin _ (by decide +kernel), codeAny_builtin PySem.F.entry_type_call ?_⟩
  rw [Around.under_plain (weight_type_call_type "set" [.ref l] []) rfl]
  repeat (any_goals (first | assumption | wp_step))
  refine codeAny_mono (code_set_new_1 (.ref l) (E := E) (Q₁ := fun v u => ∃ led : Bool, v = .ref s.heap.objs.size ∧ u = { s with heap := s.heap.push (setObj led) }) fun led => ⟨led, rfl, rfl⟩) fun r u hr => ?_
  match r, hr with
  | .error e, hr => exact hr
  | .ok (.ret v), hr =>
    obtain ⟨led, rfl, rfl⟩ := hr
    have new : (s.heap.push (setObj led)).get? s.heap.objs.size = some (setObj led) := Heap.get?_push_size _ rfl
    have ty : Shared.TypeIs { s with heap := s.heap.push (setObj led) } (.ref s.heap.objs.size) "set" := ⟨_, new, rfl⟩
    have q6 := PySem.F.called_set.init.lookup
    have q7 := PySem.F.called_set.init.bind (.ref s.heap.objs.size)
    repeat (any_goals (first | assumption | wp_step))
    refine codeAny_mono (codeAny_call_builtin (R := wants (fun v u => v = .none ∧ ∃ h' tk, u = { s with heap := h', toks := tk } ∧ Met P w h' s.heap.objs.size (uniq [] xs) ∧ ∀ b o, s.heap.get? b = some o → h'.get? b = some o) E)
      PySem.F.called_set.init.plain PySem.F.entry_set_init (check_set_init_1 ty ?_)) fun r2 u2 hr2 => ?_
    · obtain ⟨ol, hol, hcl, nl, hdl⟩ := hl
      obtain ⟨ocls, odict, odata, oslots⟩ := ol
      simp only at hcl hdl
      subst hcl hdl
      have old : (s.heap.push (setObj led)).get? l = some { cls := .type "tuple", dict := odict, data := .seq items nl, slots := oslots } := Heap.get?_push_of_some _ hol
      have c1 := PySem.F.sub_tuple_set
      have c2 := PySem.F.sub_tuple_frozenset
      have c3 : (Value.type "tuple" == Value.type "dict") = false := by decide
      have tl1 : (s.heap.push (setObj led)).IsTuple l items := ⟨_, old, rfl, nl, rfl⟩
      unfold Builtin.«set.__init__» noKeywords Builtin.Frozenset.updateFrom
      generalize hPI : pyIter = PI
      wp_walk
      subst hPI
      have lts : l < s.heap.objs.size := Heap.lt_size hol
      have z1 : (s.heap.push (setObj led)).objs.size = s.heap.objs.size + 1 := Heap.size_push ..
      have n1 : l ≠ (s.heap.push (setObj led)).objs.size := by rw [z1]; exact Nat.ne_of_lt (Nat.lt_succ_of_lt lts)
      have n2 : s.heap.objs.size ∉ [(s.heap.push (setObj led)).objs.size, l] := by
        rw [z1]
        intro m
        rcases List.mem_cons.mp m with e | m
        · exact absurd e (Nat.ne_of_lt (Nat.lt_succ_self _))
        · exact absurd (List.mem_singleton.mp m) (Nat.ne_of_gt lts)
      have len : items.size = xs.length := by rw [← StrsAre.len_eq hi, Array.length_toList]
      have W := (Walks.tuple (prog := P) (w := w) (A := A.in1.in1.in1) (by simp [calm]) (s.heap.push (setObj led)).objs.size l n1 items).toS
      rw [len] at W
      refine wpAny_pyIter_tuple tl1 (wpAny_bind (wpAny_runValue ?_))
      refine met_loop xs W s.heap.objs.size n2 (fun i v hv => SS.strs_at hi i v (by rw [Array.getElem?_toList]; exact hv)) hb _ 0 _ rfl (Nat.zero_le _) ⟨⟨_, Heap.get?_push_size _ rfl, rfl, rfl⟩, tl1.push _⟩ ?_ ?_
      · have g := Heap.get?_push_of_some { cls := .type "tuple_iterator", data := .fields #[.ref l, .int 0 0] } new
        exact SetOf_congr ((setObjOf_fresh (knd := PySem.strKind P w) led).setOf g (by unfold scanBound; omega)) (fun _ => rfl) rfl
      · intro s3 mv m3
        obtain ⟨h3, g3, d3, tk3, os3⟩ := s3
        obtain rfl : g3 = s.gens := mv.gens
        obtain rfl : d3 = s.drawn := mv.drawn
        obtain rfl : os3 = s.os := mv.os
        refine wpAny_pure (wpAny_pure ⟨rfl, h3, tk3, rfl, m3, fun b o e => ?_⟩)
        have lb := Heap.lt_size e
        refine mv.heap b o (fun m => ?_) (Heap.get?_push_of_some _ (Heap.get?_push_of_some _ e))
        rw [z1] at m
        rcases List.mem_cons.mp m with e | m
        · exact absurd e (Nat.ne_of_lt lb)
        · exact absurd (List.mem_singleton.mp m) (Nat.ne_of_lt (Nat.lt_succ_of_lt lb))
    · match r2, hr2 with
      | .error e, hr2 => exact hr2
      | .ok (.ret v), hr2 =>
        obtain ⟨rfl, h', tk, rfl, m, k⟩ := hr2
        repeat (any_goals (first | assumption | wp_step))
        exact fin _ _ m k
      | .ok .next, hr2 => exact hr2.elim
      | .ok .brk, hr2 => exact hr2.elim
      | .ok .cont, hr2 => exact hr2.elim
  | .ok .next, hr => exact hr.elim
  | .ok .brk, hr => exact hr.elim
  | .ok .cont, hr => exact hr.elim
end
/-- len(set(t)), t a tuple of texts -/
def dLenSet (fa : DT) : DT := fun env M R => fa env M fun x M1 => ∃ xs : List Str, x = .dat (.tuple (xs.map PyData.str)) ∧ xs.length ≤ 4000 ∧ R (.dat (.int ((uniq [] xs).length : Nat))) M1
theorem strsOf : ∀ {ys : List Str} {us : List Value}, Vals (ys.map V.str) us → StrsAre us ys
  | [], _, .nil => .nil
  | y :: ys, _, .cons r t => by
    obtain ⟨k, rfl⟩ := r
    exact .cons y k (strsOf t)
theorem de_lenSet {X : Cx} {a : Expr} {fa : DT} {p p2 q pos : Pos} (hc : X.calm = true) (hg : Gl X "len") (hm : X.mg "len" = none) (hg2 : Gl X "set") (hm2 : X.mg "set" = none) (ha : DE X a fa)
    (na : starEach [a] X.env = (false, eval a X.env) :: starEach [] X.env := by rfl) : DE X (.Call (.Name "len" p) [.Call (.Name "set" p2) [a] [] q] [] pos) (dLenSet fa) := by
  refine ⟨fun pins s σ H Q I h => ?_⟩
  obtain ⟨Hid, env, M, R, o, q0, k⟩ := h
  refine Call_ (ld_blt I hg hm boot_len ?_)
  refine PyProof.Rows.callWith_builtin1 (PyProof.Rows.args_cons ?_ rfl) rfl rfl
  refine Call_ (ld_blt I hg2 hm2 boot_set ?_)
  refine PyProof.Rows.callWith_type1 (PyProof.Rows.args_cons (thn (ha.run pins s σ H _ I (up_of (Q := fun v H1 => ∃ l, ∃ xs : List Str, v = V.ref l ∧ SqT X.K H1 l (xs.map V.str) ∧ xs.length ≤ 4000 ∧ Q (.int ((uniq [] xs).length : Nat)) H1) o q0 fun x M1 v H1 f1 o1 r1 q1 => ?_)) fun v s1 hv => PyProof.Rows.args_nil ?_) na) na rfl
  · obtain ⟨xs, rfl, hl, q2⟩ := q1
    cases r1 with
    | tup ht hz =>
      rw [fz_strs_inv hz] at ht
      exact ⟨_, xs, rfl, ht, hl, k _ _ ⟨.dat (.int _), M1, f1, o1.sok, Fz.int _, q2⟩⟩
  · obtain ⟨x, H1, I1, r1, l, xs, rfl, hq, hl, q1⟩ := hv
    cases r1
    obtain ⟨its, r, pl, hz⟩ := I1.tuple hq
    refine call_setT (I1.ok.hd hc) pl (by simpa using strsOf r) (by unfold scanBound; omega) fun h' tk m kk => ?_
    refine PyProof.Rows.args_nil ?_
    obtain ⟨ob, es, ep, t, ho, hex, hd, _, _, _, hf, hn⟩ := m
    have I2 : Inv X pins σ H1 { s1 with heap := h', toks := tk } := I1.kept kk
    have := uniq_le xs []
    simp at this
    exact call_len_set ho hex hd hf (by rw [hn]; omega) ⟨.int (uniq [] xs).length, H1, I2.tok _, ⟨_, by rw [hn]⟩, q1⟩
end DL
/-! the data layer: zip, texts walked, slices with a step, module names -/
namespace DL
open PySem PySem.Spec PyProof.Rows L2
section
variable {X : Cx} {pos : Pos}
/-! ### module names, is of bools -/
theorem de_globI {x : Str} {i : Int} {u : Value} (hg : Gl X x) (hm : X.mg x = some u) (r : RelV (.int i) u) (hd : (x == ("__debug__" : Str)) = false := by decide) : DE X (.Name x pos) (dC (.int i)) := de_const (pe_glob hg hm r hd) fun _ _ _ => .int i
theorem de_globS {x : Str} {z : Str} {u : Value} (hg : Gl X x) (hm : X.mg x = some u) (r : RelV (.str z) u) (hd : (x == ("__debug__" : Str)) = false := by decide) : DE X (.Name x pos) (dC (.str z)) := de_const (pe_glob hg hm r hd) fun _ _ _ => .str z
def dIsB (p : Bool → Bool → Bool) : D2 := fun x y M R => ∃ a b, x = .dat (.bool a) ∧ y = .dat (.bool b) ∧ R (.dat (.bool (p a b))) M
theorem od_isB : OpD X (compareOp .Is) (dIsB fun a b => decide (a = b)) :=
  op_isBl.imp fun x y H Q ⟨Hid, M, dx, dy, R, s, rx, ry, ⟨a, b, e1, e2, q⟩, k⟩ => by
    subst e1 e2
    cases rx; cases ry
    exact ⟨a, b, rfl, rfl, k _ H (Post.same (dv := .dat (.bool _)) s (Fz.bl _) q)⟩
theorem od_isNotB : OpD X (compareOp .IsNot) (dIsB fun a b => !decide (a = b)) :=
  op_notBl.imp fun x y H Q ⟨Hid, M, dx, dy, R, s, rx, ry, ⟨a, b, e1, e2, q⟩, k⟩ => by
    subst e1 e2
    cases rx; cases ry
    exact ⟨a, b, rfl, rfl, k _ H (Post.same (dv := .dat (.bool _)) s (Fz.bl _) q)⟩

/-! ### signs of a text -/
def signs (z : Str) : List DV := z.cps.toList.map fun c => DV.dat (.str ⟨#[c]⟩)
def dSigns (fe : DT) : DI := fun env M RR => fe env M fun x M1 => ∃ z, x = .dat (.str z) ∧ RR (signs z) (fun _ => True) M1
theorem di_str {tg e : Expr} {fe : DT} (he : DE X e fe) : DIt X tg e (dSigns fe) :=
  (pi_str he).imp fun σ H RR ⟨Hid, env, M, R, o, q, k⟩ => up_of o q fun x M1 v H1 f1 o1 r1 ⟨z, e, q1⟩ => by
    subst e
    cases r1
    refine ⟨z, rfl, k _ _ _ M1 H1 f1 o1.sok ⟨fun Hi M H i hh f s e hi => ?_, fun Hi M H i v H' dv hh f s e hx y => ?_, fun Hi M H hh f s e => ?_⟩ q1⟩
    · have : i < z.cps.size := by simpa [signs] using hi
      exact this
    · obtain ⟨rfl, c, hc, rfl⟩ := y
      have : dv = .dat (.str ⟨#[c]⟩) := by
        simp only [signs, List.getElem?_map, Array.getElem?_toList, hc, Option.map_some, Option.some.injEq] at hx
        exact hx.symm
      subst this
      exact ⟨Fr.refl _ _, s, Fz.str _⟩
    · show z.cps.size ≤ _
      simp [signs]

/-! ### xs[a::b] -/
def pickG {α : Type} (xs : List α) (lo hi st : Option Int) : List α := (PySem.sliceRange (sliceBounds lo hi st xs.length).1 (sliceBounds lo hi st xs.length).2.1 (sliceBounds lo hi st xs.length).2.2).filterMap (xs[·]?)
theorem rp_pick {K : PySem.W.Frag} {Hid : Addr → Prop} {M : Sto} {H : Hp} {ds : List DV} {vs : List V} (r : RpAll K Hid M H vs ds) : ∀ is : List Nat, RpAll K Hid M H (is.filterMap (vs[·]?)) (is.filterMap (ds[·]?))
  | [] => .nil
  | i :: is => by
    have ih := rp_pick r is
    cases e : ds[i]? with
    | none =>
      have : vs[i]? = none := by
        rw [List.getElem?_eq_none_iff] at e ⊢
        rw [r.length]; exact e
      rw [List.filterMap_cons, List.filterMap_cons, e, this]; exact ih
    | some d =>
      obtain ⟨v, h1, h2⟩ := r.get e
      rw [List.filterMap_cons, List.filterMap_cons, e, h1]; exact .cons h2 ih
theorem vals_pick {vs : List V} {us : List Value} (r : Vals vs us) : ∀ is : List Nat, Vals (is.filterMap (vs[·]?)) (is.filterMap (us[·]?))
  | [] => .nil
  | i :: is => by
    have ih := vals_pick r is
    cases e : vs[i]? with
    | none =>
      have : us[i]? = none := by
        rw [List.getElem?_eq_none_iff] at e ⊢
        rw [← r.length]; exact e
      rw [List.filterMap_cons, List.filterMap_cons, e, this]; exact ih
    | some d =>
      obtain ⟨v, h1, h2⟩ := r.get e
      rw [List.filterMap_cons, List.filterMap_cons, e, h1]; exact .cons h2 ih
def dSl3 (fe : DT) (a b : Int) : DT := fun env M R => fe env M fun x M1 => ∃ xs ds, lstOf M1 x = some xs ∧ xs.length ≤ 1000 ∧ dats (pickG xs (some a) none (some b)) = some ds ∧ ds.length ≤ sizeLine ∧ R (.dat (.list ds)) M1
theorem de_slice3 {e : Expr} {fe : DT} {a b : Int} {k1 k2 : Nat} {p1 p2 p3 : Pos} (he : DE X e fe) (hb : b ≠ 0 := by decide) : DE X (.Subscript e (.Slice (some (.Constant (.int a) k1 p1)) none (some (.Constant (.int b) k2 p2)) p3) pos) (dSl3 fe a b) := by
  refine ⟨fun pins s σ H Q I h => ?_⟩
  obtain ⟨Hid, env, M, R, o, q, k⟩ := h
  refine Subscript_ (thn (he.run pins s σ H _ I (up_of (Q := fun v H1 => ∃ l xs, v = V.ref l ∧ SqL X.K H1 l xs ∧ (pickG xs (some a) none (some b)).length ≤ sizeLine ∧ ∀ p, H1 p = none → Q (.ref p) (upd H1 p (.lst (pickG xs (some a) none (some b))))) o q fun x M1 v H1 f1 o1 r1 q1 => ?_)) fun v s1 hv => ?_)
  · obtain ⟨xs, ds, e1, _, e2, hz, q1⟩ := q1
    obtain ⟨l, vs, rfl, hq, r⟩ := lstOf_sq o1.sok r1 e1
    have r2 := rp_pick r (PySem.sliceRange (sliceBounds (some a) none (some b) xs.length).1 (sliceBounds (some a) none (some b) xs.length).2.1 (sliceBounds (some a) none (some b) xs.length).2.2)
    have e3 : pickG vs (some a) none (some b) = (PySem.sliceRange (sliceBounds (some a) none (some b) xs.length).1 (sliceBounds (some a) none (some b) xs.length).2.1 (sliceBounds (some a) none (some b) xs.length).2.2).filterMap (vs[·]?) := by unfold pickG; rw [r.length]
    rw [← e3] at r2
    have r3 : RpAll X.K Hid M1 H1 (pickG vs (some a) none (some b)) (pickG xs (some a) none (some b)) := r2
    rw [dats_inv e2] at r3
    exact ⟨l, vs, rfl, hq, by rw [r3.length, List.length_map]; exact hz, fun p hp => k _ _ (Post.trans f1 (post_lst o1.sok hp r3.fz q1))⟩
  · obtain ⟨x, H1, I1, r1, l, xs, rfl, hx, hz, q⟩ := hv
    cases r1
    have hlo : PO X (some (.Constant (.int a) k1 p1)) (tPart (tC (.int a))) := po_some pe_int
    have hst : PO X (some (.Constant (.int b) k2 p2)) (tPart (tC (.int b))) := po_some pe_int
    refine wpAny_Slice (thn (hlo.run pins s1 σ H1 (fun o H2 => o = some a ∧ H2 = H1) I1 ⟨a, rfl, rfl, rfl⟩) fun vl s2 ⟨l', H2, I2, pl, el, e2⟩ => ?_)
    subst el e2
    refine thn (po_none.run pins s2 σ H2 (fun o H3 => o = none ∧ H3 = H2) I2 ⟨rfl, rfl⟩) fun vu s3 ⟨u, H3, I3, pu, eu, e3⟩ => ?_
    subst eu e3
    refine thn (hst.run pins s3 σ H3 (fun o H4 => o = some b ∧ H4 = H3) I3 ⟨b, rfl, rfl, rfl⟩) fun vs s4 ⟨o', H4, I4, ps, eo, e4⟩ => ?_
    subst eo e4
    have I5 : Inv X pins σ H4 { s4 with heap := s4.heap.push { cls := .type "slice", data := .fields #[vl, vu, vs] } } := I4.kept (t' := s4.toks) fun b ob q => Heap.get?_push_of_some _ q
    obtain ⟨its, r, ht, hl⟩ := I5.list hx
    refine tail_any (s := { s4 with heap := s4.heap.push { cls := .type "slice", data := .fields #[vl, vu, vs] } }) (ops := [.ref l, .ref s4.heap.objs.size]) ht.isList.typeIs (PySem.slot_list_getitem.lookup) ?_ (by with_unfolding_all rfl)
    refine wpAny_getItem_list_slice ht.isList (Heap.IsSliceOf.new _ vl vu vs) pl pu ps (fun e => hb (Option.some.inj e)) ?_ (by rw [List.size_toArray, ← r.length]; exact hl)
    have e5 : slicePick its.toArray (some a) none (some b) = (pickG its (some a) none (some b)).toArray := by
      unfold slicePick pickG
      simp only [List.size_toArray, List.getElem?_toArray]
    rw [e5]
    refine ⟨.ref _, _, I5.laid (t' := s4.toks) (o := .lst (pickG xs (some a) none (some b))) (fun b ob q => Heap.get?_push_of_some _ q) (Nat.le_refl _) ?_, rfl, q _ (I5.hok.fresh (Nat.le_refl _))⟩
    have r6 : Vals (pickG xs (some a) none (some b)) (pickG its (some a) none (some b)) := by
      have := vals_pick r (PySem.sliceRange (sliceBounds (some a) none (some b) its.length).1 (sliceBounds (some a) none (some b) its.length).2.1 (sliceBounds (some a) none (some b) its.length).2.2)
      unfold pickG
      rw [r.length]
      exact this
    exact ⟨hz, _, 0, r6, Heap.get?_push_size _ rfl⟩

/-! ### for a, b in zip(xs, ys) -/
def pairsD (ds es : List PyData) : List DV := (ds.zip es).map fun p => DV.dat (.tuple [p.1, p.2])
def dZip (fa : DA) : DI := fun env M RR => fa env M fun dvs M1 => ∃ x y ds es, dvs = [x, y] ∧ seqOf M1 x = some (ds.map DV.dat) ∧ seqOf M1 y = some (es.map DV.dat) ∧ isL M1 x = isL M1 y ∧
  RR (pairsD ds es) (fun M => seqOf M x = some (ds.map DV.dat) ∧ seqOf M y = some (es.map DV.dat)) M1
theorem pairs_at {ds es : List PyData} {i : Nat} {dv : DV} (h : (pairsD ds es)[i]? = some dv) : ∃ d e, ds[i]? = some d ∧ es[i]? = some e ∧ dv = .dat (.tuple [d, e]) := by
  unfold pairsD at h
  rw [List.getElem?_map] at h
  cases e : (ds.zip es)[i]? with
  | none => rw [e] at h; cases h
  | some p =>
    rw [e] at h; cases h
    obtain ⟨h1, h2⟩ := List.getElem?_zip_eq_some.mp e
    exact ⟨p.1, p.2, h1, h2, rfl⟩
theorem isL_keep {M M' : Sto} {x : DV} : isL M' x = isL M x := by
  cases x with
  | obj _ => rfl
  | dat d => cases d <;> rfl
theorem pair_post {K : PySem.W.Frag} {Hi : Addr → Prop} {M : Sto} {H : Hp} {T : Addr} {u v : V} {d e : PyData} (s : Sok K Hi M H) (hT : H T = none) (r1 : Rp K Hi M H u (.dat d)) (r2 : Rp K Hi M H v (.dat e)) :
    Fr M H M (upd H T (.tup [u, v])) ∧ Sok K Hi M (upd H T (.tup [u, v])) ∧ Rp K Hi M (upd H T (.tup [u, v])) (.ref T) (.dat (.tuple [d, e])) :=
  ⟨Fr.alloc _ hT, s.alloc hT, Fz.tup (SqT.of upd_same) (.cons (r1.keep s (Fr.alloc _ hT)) (.cons (r2.keep s (Fr.alloc _ hT)) .nil))⟩
theorem itd_zipL {Hid : Addr → Prop} {M0 : Sto} {H0 : Hp} {x y : DV} {ds es : List PyData} {a b : Addr} (K : PySem.W.Frag) (s0 : Sok K Hid M0 H0) (r0 : Rp K Hid M0 H0 (.ref a) x) (r0' : Rp K Hid M0 H0 (.ref b) y) (hx : isL M0 x = true) (hy : isL M0 y = true) :
    ItD K Hid (Itz K a b) (pairsD ds es) (fun M => seqOf M x = some (ds.map DV.dat) ∧ seqOf M y = some (es.map DV.dat)) M0 H0 := by
  have here : ∀ {Hi : Addr → Prop} {M : Sto} {H : Hp} {x : DV} {a : Addr} {ds : List PyData}, Rp K Hid M0 H0 (.ref a) x → isL M0 x = true → (∀ a, Hi a → Hid a ∨ H0 a = none) → Fr M0 H0 M H → Sok K Hi M H → seqOf M x = some (ds.map DV.dat) → ∃ vs, SqL K H a vs ∧ RpAll K Hi M H vs (ds.map DV.dat) := fun {Hi M H x a ds} r0 hl hh f s e => by
    obtain ⟨b, vs, eb, h1, h2⟩ := seqOf_list s ((r0.hid hh).keepT (fun _ _ q => s0.tup f q) f) e (by rw [isL_keep (M := M0)]; exact hl)
    cases eb
    exact ⟨vs, h1, h2⟩
  refine ⟨fun Hi M H i hh f s e hi => ?_, fun Hi M H i v H' dv hh f s e hx' yy => ?_, fun Hi M H hh f s e => ?_⟩
  · obtain ⟨vs, h1, h2⟩ := here r0 hx hh f s e.1
    obtain ⟨us, h3, h4⟩ := here r0' hy hh f s e.2
    have hi : i < ds.length ∧ i < es.length := Nat.lt_min.mp (by simpa [pairsD] using hi)
    have l1 : i < vs.length := by rw [h2.length, List.length_map]; exact hi.1
    have l2 : i < us.length := by rw [h4.length, List.length_map]; exact hi.2
    exact ⟨vs, us, vs[i], us[i], h1, h3, by simp [l1], by simp [l2]⟩
  · obtain ⟨vs, h1, h2⟩ := here r0 hx hh f s e.1
    obtain ⟨us, h3, h4⟩ := here r0' hy hh f s e.2
    obtain ⟨T, u, v', rfl, hT, rfl, g1, g2⟩ := yy
    obtain ⟨d, e', e1, e2, rfl⟩ := pairs_at hx'
    obtain ⟨w1, w2, w3⟩ := h2.get (i := i) (d := .dat d) (by rw [List.getElem?_map, e1]; rfl)
    obtain ⟨z1, z2, z3⟩ := h4.get (i := i) (d := .dat e') (by rw [List.getElem?_map, e2]; rfl)
    have := g1 vs h1
    rw [w2] at this; cases this
    have := g2 us h3
    rw [z2] at this; cases this
    exact pair_post s hT w3 z3
  · obtain ⟨vs, h1, h2⟩ := here r0 hx hh f s e.1
    obtain ⟨us, h3, h4⟩ := here r0' hy hh f s e.2
    refine ⟨vs, us, h1, h3, ?_⟩
    rw [h2.length, h4.length]
    simp [pairsD]
    omega
theorem itd_zipT {Hid : Addr → Prop} {M0 : Sto} {H0 : Hp} {x y : DV} {ds es : List PyData} {a b : Addr} (K : PySem.W.Frag) (s0 : Sok K Hid M0 H0) (r0 : Rp K Hid M0 H0 (.ref a) x) (r0' : Rp K Hid M0 H0 (.ref b) y) (hx : isL M0 x = false) (hy : isL M0 y = false) :
    ItD K Hid (RZ.ItzT K a b) (pairsD ds es) (fun M => seqOf M x = some (ds.map DV.dat) ∧ seqOf M y = some (es.map DV.dat)) M0 H0 := by
  have here : ∀ {Hi : Addr → Prop} {M : Sto} {H : Hp} {x : DV} {a : Addr} {ds : List PyData}, Rp K Hid M0 H0 (.ref a) x → isL M0 x = false → (∀ a, Hi a → Hid a ∨ H0 a = none) → Fr M0 H0 M H → Sok K Hi M H → seqOf M x = some (ds.map DV.dat) → ∃ vs, SqT K H a vs ∧ RpAll K Hi M H vs (ds.map DV.dat) := fun {Hi M H x a ds} r0 hl hh f s e => by
    obtain ⟨b, vs, eb, h1, h2⟩ := seqOf_tup ((r0.hid hh).keepT (fun _ _ q => s0.tup f q) f) e (by rw [isL_keep (M := M0)]; exact hl)
    cases eb
    exact ⟨vs, h1, h2⟩
  refine ⟨fun Hi M H i hh f s e hi => ?_, fun Hi M H i v H' dv hh f s e hx' yy => ?_, fun Hi M H hh f s e => ?_⟩
  · obtain ⟨vs, h1, h2⟩ := here r0 hx hh f s e.1
    obtain ⟨us, h3, h4⟩ := here r0' hy hh f s e.2
    have hi : i < ds.length ∧ i < es.length := Nat.lt_min.mp (by simpa [pairsD] using hi)
    have l1 : i < vs.length := by rw [h2.length, List.length_map]; exact hi.1
    have l2 : i < us.length := by rw [h4.length, List.length_map]; exact hi.2
    exact ⟨vs, us, vs[i], us[i], h1, h3, by simp [l1], by simp [l2]⟩
  · obtain ⟨vs, h1, h2⟩ := here r0 hx hh f s e.1
    obtain ⟨us, h3, h4⟩ := here r0' hy hh f s e.2
    obtain ⟨T, u, v', rfl, hT, rfl, g1, g2⟩ := yy
    obtain ⟨d, e', e1, e2, rfl⟩ := pairs_at hx'
    obtain ⟨w1, w2, w3⟩ := h2.get (i := i) (d := .dat d) (by rw [List.getElem?_map, e1]; rfl)
    obtain ⟨z1, z2, z3⟩ := h4.get (i := i) (d := .dat e') (by rw [List.getElem?_map, e2]; rfl)
    have := g1 vs h1
    rw [w2] at this; cases this
    have := g2 us h3
    rw [z2] at this; cases this
    exact pair_post s hT w3 z3
  · obtain ⟨vs, h1, h2⟩ := here r0 hx hh f s e.1
    obtain ⟨us, h3, h4⟩ := here r0' hy hh f s e.2
    refine ⟨vs, us, h1, h3, ?_⟩
    rw [h2.length, h4.length]
    simp [pairsD]
    omega
theorem di_zip {e e2 : Expr} {fa : DA} {p tpos : Pos} {elts : List Expr} {kk : Nat} (hg : Gl X "zip") (hm : X.mg "zip" = none) (ha : DAs X [e, e2] fa)
    (hs : starEach [e, e2] X.env = (false, eval e X.env) :: starEach [e2] X.env := by rfl) (hpl : (backTo pos (starEach [e2] X.env)).any (·.1) = false := by rfl) : DIt X (.Tuple elts kk tpos) (.Call (.Name "zip" p) [e, e2] [] pos) (dZip fa) :=
  (RZ.pi_zipA hg hm ha hs hpl).imp fun σ H RR ⟨Hid, env, M, R, o, q, k⟩ => upA_of o q fun dvs M1 vs H1 f1 o1 r1 q1 => by
    obtain ⟨x, y, ds, es, rfl, e1, e2, el, q2⟩ := q1
    obtain ⟨v, u, rfl, rv, ru⟩ := rp2 r1
    by_cases hl : isL M1 x = true
    · obtain ⟨a, xs, rfl, h1, h2⟩ := seqOf_list o1.sok rv e1 hl
      obtain ⟨b, ys, rfl, h3, h4⟩ := seqOf_list o1.sok ru e2 (el ▸ hl)
      exact ⟨a, b, xs, ys, rfl, .inl ⟨h1, h3, k _ _ _ M1 H1 f1 o1.sok (itd_zipL X.K o1.sok rv ru hl (el ▸ hl)) q2⟩⟩
    · have hl : isL M1 x = false := by simpa using hl
      obtain ⟨a, xs, rfl, h1, h2⟩ := seqOf_tup rv e1 hl
      obtain ⟨b, ys, rfl, h3, h4⟩ := seqOf_tup ru e2 (el ▸ hl)
      exact ⟨a, b, xs, ys, rfl, .inr ⟨h1, h3, k _ _ _ M1 H1 f1 o1.sok (itd_zipT X.K o1.sok rv ru hl (el ▸ hl)) q2⟩⟩
end
end DL
/-! the data layer: tuple(zip(xs, ys)) of two lists -/
namespace DL
open PySem PySem.Spec PyProof.Rows L2
theorem zip_lenless : typeLookup (.type "zip") "__len__" = pure none := by rw [typeLookup_type, builtinLookup_eq_fast]; kernel_rfl
theorem zip_hintless : typeLookup (.type "zip") "__length_hint__" = pure none := by rw [typeLookup_type, builtinLookup_eq_fast]; kernel_rfl
theorem sql_mono {K : PySem.W.Frag} {H H' : Hp} (g : ∀ c o, H c = some o → H' c = some o) {a : Addr} {xs : List V} (q : SqL K H a xs) : SqL K H' a xs := by
  rcases q with (q | ⟨o, q⟩) | q
  · exact .inl (.inl (g _ _ q))
  · exact .inl (.inr ⟨o, g _ _ q⟩)
  · exact .inr q
structure ZS (h : Heap) (H : Hp) (z TI TO i1 i2 a b : Addr) (i : Nat) : Prop where
  ti : IsPair h TI (.ref i1) (.ref i2)
  h1 : h.IsListIter i1 a i
  h2 : h.IsListIter i2 b i
  zz : (IsZip h z TI TO .none ∧ ∃ u v, IsPair h TO u v) ∨ ∃ T f xs oT, IsZipHeld h z TI TO T f ∧ H T = some (.tup xs) ∧ h.get? T = some oT
  tO : ∃ o, h.get? TO = some o
def PrAt (H : Hp) (xs ys : List V) (Ts : List Addr) : Prop := ∀ (j : Nat) T, Ts[j]? = some T → ∃ x y, xs[j]? = some x ∧ ys[j]? = some y ∧ H T = some (.tup [x, y])
abbrev Grow (H H' : Hp) : Prop := ∀ c o, H c = some o → H' c = some o
abbrev listO (acc : Array Value) (c : Nat) : Obj := { cls := .type "list", dict := none, data := .seq acc c, slots := #[] }
section
variable {X : Cx} {pins : List (Addr × Obj)} {σ : Stt} {R : Result → Shared → Prop} {A : Around} {H0 : Hp} {z TI TO i1 i2 a b S : Addr} {xs ys : List V} {res : Value}
theorem zip_loop (hA : A.handled = none) (D : ZipApart z TI TO i1 i2 a b) (n : Nat) (hn : n = min xs.length ys.length) (hz : n ≤ sizeLine) (dS : S ∉ [z, TI, TO, i1, i2, a, b]) :
    ∀ (k i : Nat) (s : Shared) (H : Hp) (acc : Array Value) (c : Nat) (Ts : List Addr), k = n - i → i ≤ n → Inv X pins σ H s → (∀ c ∈ [z, TI, TO, i1, i2, S], FpOk X pins H c) → ZS s.heap H z TI TO i1 i2 a b i → SqL X.K H a xs → SqL X.K H b ys →
      s.heap.get? S = some (listO acc c) → acc.toList = Ts.map Value.ref → Ts.length = i → PrAt H xs ys Ts → Grow H0 H →
      (∀ s' H' acc' c' Ts', Inv X pins σ H' s' → (∀ c ∈ [z, TI, TO, i1, i2, S], FpOk X pins H' c) → s'.heap.get? S = some (listO acc' c') → acc'.toList = Ts'.map Value.ref → Ts'.length = n → PrAt H' xs ys Ts' → Grow H0 H' → R (.ok (.ret res)) s') →
      codeAny (model X.prog X.w) A (.builtin "list.extend.loop" ⟨[.ref S, .ref z, res], []⟩) R s := by
  have dd : S ≠ z ∧ S ≠ TI ∧ S ≠ TO ∧ S ≠ i1 ∧ S ≠ i2 ∧ S ≠ a ∧ S ≠ b := by simpa using dS
  obtain ⟨d1, d2, d3, d4, d5, d6, d7⟩ := dd
  have m5 : ∀ b ∈ [z, TI, TO, i1, i2], b ∈ [z, TI, TO, i1, i2, S] := fun b hb => List.mem_append_left [S] hb
  intro k
  induction k with
  | zero =>
    intro i s H acc c Ts hk hi I fp zs qa qb hS ea el pr gr fin
    obtain rfl : i = n := by omega
    obtain ⟨its, rv, p, _⟩ := I.list qa
    obtain ⟨its2, rv2, p2, _⟩ := I.list qb
    have l1 := rv.length
    have l2 := rv2.length
    have hend : its.toArray[i]? = none ∨ its2.toArray[i]? = none := by
      by_cases q : xs.length ≤ ys.length
      · exact .inl (by simp; omega)
      · exact .inr (by simp; omega)
    refine codeAny_builtin PySem.F.entry_extend_loop ?_
    rw [Around.under_plainId PySem.F.plain_extend_loop _]
    have fin' : ∀ h', (∀ b o, b ∉ [z, TI, TO, i1, i2] → s.heap.get? b = some o → h'.get? b = some o) → R (.ok (.ret res)) { s with heap := h' } := fun h' kk =>
      fin _ H acc c Ts (I.turnedL (t' := s.toks) (ch := [z, TI, TO, i1, i2]) kk fun b hb => fp b (m5 b hb)) fp (kk S _ (by simp; exact ⟨d1, d2, d3, d4, d5⟩) hS) ea el pr gr
    refine wpAny_bind (?_ : wpAny _ _ (pyNext (.ref z)) _ _ _)
    rcases zs.zz with ⟨z1, u, v, z2⟩ | ⟨T, f, ts, oT, z1, z2, z3⟩
    · exact wpAny_pyNext_zip_end (A := A.in1) (by simpa using hA) D z1 zs.ti z2 zs.h1 zs.h2 p.isList p2.isList hend fun h' kk => wpAny_pure (fin' h' fun b o hb e => by
        simp at hb
        exact kk b o hb.1 hb.2.2.1 hb.2.2.2.1 hb.2.2.2.2 e)
    · exact wpAny_pyNext_zip_end_held (A := A.in1) (by simpa using hA) D z1 z3 zs.ti zs.h1 zs.h2 p.isList p2.isList hend fun h' kk => wpAny_pure (fin' h' fun b o hb e => by
        simp at hb
        exact kk b o hb.1 hb.2.2.2.1 hb.2.2.2.2 e)
  | succ k ih =>
    intro i s H acc c Ts hk hi I fp zs qa qb hS ea el pr gr fin
    obtain ⟨its, rv, p, _⟩ := I.list qa
    obtain ⟨its2, rv2, p2, _⟩ := I.list qb
    have lx : i < xs.length := by omega
    have ly : i < ys.length := by omega
    have hx : xs[i]? = some xs[i] := List.getElem?_eq_getElem lx
    have hy : ys[i]? = some ys[i] := List.getElem?_eq_getElem ly
    obtain ⟨u, hu, ru⟩ := rv.get hx
    obtain ⟨u2, hu2, ru2⟩ := rv2.get hy
    have lt : ∀ {c o}, s.heap.get? c = some o → c ≠ s.heap.objs.size := fun e => Nat.ne_of_lt (Heap.lt_size e)
    have fresh : H s.heap.objs.size = none := I.hok.fresh (Nat.le_refl _)
    refine codeAny_builtin PySem.F.entry_extend_loop ?_
    rw [Around.under_plainId PySem.F.plain_extend_loop _]
    have go : ∀ h' f T ts oT, IsZipHeld h' z TI TO T f → (upd H s.heap.objs.size (.tup [xs[i], ys[i]])) T = some (.tup ts) → h'.get? T = some oT → IsPair h' TI (.ref i1) (.ref i2) → h'.IsListIter i1 a (i + 1) → h'.IsListIter i2 b (i + 1) → IsPair h' s.heap.objs.size u u2 → (∃ o, h'.get? TO = some o) → (∀ b o, b ∉ [z, TI, TO, i1, i2] → s.heap.get? b = some o → h'.get? b = some o) →
        wpAny (model X.prog X.w) A.in1 (updateSeq S (·.push (.ref s.heap.objs.size)) >>= fun _ => again (.builtin "list.extend.loop" ⟨[.ref S, .ref z, res], []⟩))
          (fun fin s => match fin with | .done f => R (.ok f) s | .again c' => c'.quiet = true ∧ codeAny (model X.prog X.w) A c' R s) (fun e s => R (.error e) s) { s with heap := h' }   := fun h' f T ts oT a1 b1 b2 a2 a3 a4 a5 a7 kk => by
      have hS' : h'.get? S = some (listO acc c) := kk S _ (by simp; exact ⟨d1, d2, d3, d4, d5⟩) hS
      have new : ObjOk X.prog X.w (upd H s.heap.objs.size (.tup [xs[i], ys[i]])) h' s.heap.objs.size (.tup [xs[i], ys[i]]) := ⟨by show 2 ≤ sizeLine; decide, [u, u2], .cons ru (.cons ru2 .nil), ⟨_, a5, rfl, _, rfl⟩⟩
      have I1 := I.turnedNew (t' := s.toks) (ch := [z, TI, TO, i1, i2]) kk (fun b hb => fp b (m5 b hb)) (Nat.le_refl _) new
      have nS : S ≠ s.heap.objs.size := lt hS
      have g1 : Grow H (upd H s.heap.objs.size (.tup [xs[i], ys[i]])) := fun c o e => by rw [upd_ne (ne_of_none e fresh)]; exact e
      have fp1 : ∀ c ∈ [z, TI, TO, i1, i2, S], FpOk X pins (upd H s.heap.objs.size (.tup [xs[i], ys[i]])) c := fun c hc => by
        obtain ⟨f0, f1⟩ := fp c hc
        refine ⟨?_, f1⟩
        have : c ≠ s.heap.objs.size := by
          have e' : c = z ∨ c = TI ∨ c = TO ∨ c = i1 ∨ c = i2 ∨ c = S := by simpa using hc
          rcases e' with q | q | q | q | q | q
          · rcases zs.zz with ⟨q1, _⟩ | ⟨_, _, _, _, q1, _⟩ <;> (rw [q]; exact lt q1)
          · rw [q]; exact lt zs.ti
          · obtain ⟨o, ho⟩ := zs.tO; rw [q]; exact lt ho
          · obtain ⟨o, ho, _⟩ := zs.h1; rw [q]; exact lt ho
          · obtain ⟨o, ho, _⟩ := zs.h2; rw [q]; exact lt ho
          · rw [q]; exact nS
        rw [upd_ne this]; exact f0
      have sz : acc.size = i := by rw [← Array.length_toList, ea, List.length_map, el]
      refine wpAny_bind (wpAny_updateSeq hS' rfl (wpAny_pure ⟨plainId_quiet PySem.F.plain_extend_loop _, ?_⟩) (by rw [sz]; omega) (by show (acc.push _).size ≤ sizeLine + 1; rw [Array.size_push, sz]; omega))
      have oth : ∀ b o, b ≠ S → h'.get? b = some o → (h'.update S (Obj.mapSeq (·.push (.ref s.heap.objs.size)))).get? b = some o := fun b o hb e => (Heap.get?_update_other _ _ (Ne.symm hb)).trans e
      have I2 := I1.turnedL (t' := s.toks) (ch := [S]) (h' := h'.update S (Obj.mapSeq (·.push (.ref s.heap.objs.size)))) (fun b o hb e => oth b o (by simpa using hb) e) fun b hb => fp1 b (by rw [List.mem_singleton.mp hb]; simp)
      refine ih (i + 1) _ _ (acc.push (.ref s.heap.objs.size)) _ (Ts ++ [s.heap.objs.size]) (by omega) (by omega) I2 fp1 ⟨oth _ _ d2.symm a2, a3.at fun o e => oth _ o d4.symm e, a4.at fun o e => oth _ o d5.symm e, .inr ⟨T, f, ts, oT, oth _ _ d1.symm a1, b1, oth _ _ (fun e => by have := (fp1 S (by simp)).1; rw [← e, b1] at this; cases this) b2⟩, ?_⟩ (sql_mono g1 qa) (sql_mono g1 qb)
        (Heap.get?_update_self _ hS' rfl) (by simp [ea]) (by simp [el]) ?_ (fun c o e => g1 c o (gr c o e)) fin
      · obtain ⟨o, ho⟩ := a7
        exact ⟨o, oth _ _ d3.symm ho⟩
      · intro j T hj
        by_cases q : j < Ts.length
        · rw [List.getElem?_append_left q] at hj
          obtain ⟨x, y, e1, e2, e3⟩ := pr j T hj
          exact ⟨x, y, e1, e2, g1 _ _ e3⟩
        · rw [List.getElem?_append_right (by omega)] at hj
          have : j = i := by
            have : j - Ts.length < 1 := by
              by_cases q2 : j - Ts.length < 1
              · exact q2
              · rw [List.getElem?_eq_none (by simp; omega)] at hj; cases hj
            omega
          subst this
          rw [show j - Ts.length = 0 by omega] at hj
          simp at hj
          subst hj
          exact ⟨_, _, hx, hy, upd_same⟩
    refine wpAny_bind (?_ : wpAny _ _ (pyNext (.ref z)) _ _ _)
    rcases zs.zz with ⟨z1, uu, vv, z2⟩ | ⟨T, f, ts, oT, z1, z2, z3⟩
    · refine wpAny_pyNext_zip_item D z1 zs.ti z2 zs.h1 zs.h2 p.isList p2.isList (x := u) (y := u2) (by simpa using hu) (by simpa using hu2) fun h' a1 a2 a3 a4 a5 a6 kk => ?_
      refine go h' false _ _ _ a1 upd_same a5 (kk _ _ D.TIz D.TITO D.TIi1 D.TIi2 zs.ti) a3 a4 a5 ⟨_, a2⟩ fun b o hb e => ?_
      simp at hb
      exact kk b o hb.1 hb.2.2.1 hb.2.2.2.1 hb.2.2.2.2 e
    · obtain ⟨oO, hO⟩ := zs.tO
      refine wpAny_pyNext_zip_item_held D z1 z3 zs.ti zs.h1 zs.h2 p.isList p2.isList (x := u) (y := u2) (by simpa using hu) (by simpa using hu2) fun h' a1 a3 a4 a5 a6 kk => ?_
      have nT : ∀ c ∈ [z, TI, TO, i1, i2, S], T ≠ c := fun c hc e => by
        have := (fp c hc).1
        rw [← e, z2] at this; cases this
      refine go h' true T ts oT a1 (by rw [upd_ne (ne_of_none z2 fresh)]; exact z2) (kk _ _ (nT _ (by simp)) (nT _ (by simp)) (nT _ (by simp)) z3) (kk _ _ D.TIz D.TIi1 D.TIi2 zs.ti) a3 a4 a5 ⟨_, kk _ _ D.TOz D.TOi1 D.TOi2 hO⟩ fun b o hb e => ?_
      simp at hb
      exact kk b o hb.1 hb.2.2.2.1 hb.2.2.2.2 e
theorem zip_collect {s : Shared} {H : Hp} {E : Value → Shared → Prop} {Q : List Value → Shared → Prop} (hA : A.handled = none) (D : ZipApart z TI TO i1 i2 a b) (hz : min xs.length ys.length ≤ sizeLine) (I : Inv X pins σ H s) (fp : ∀ c ∈ [z, TI, TO, i1, i2], FpOk X pins H c)
    (z0 : IsZip s.heap z TI TO .none) (zs : ZS s.heap H z TI TO i1 i2 a b 0) (qa : SqL X.K H a xs) (qb : SqL X.K H b ys)
    (fin : ∀ s' H' Ts, Inv X pins σ H' s' → Ts.length = min xs.length ys.length → PrAt H' xs ys Ts → Grow H H' → Q (Ts.map Value.ref) s') : wpAny (model X.prog X.w) A (collect (.ref z)) Q E s := by
  have zty : ∀ {h : Heap} {i : Nat}, ZS h H z TI TO i1 i2 a b i → ∃ o, h.get? z = some o ∧ o.cls = .type "zip" := fun zs => by
    rcases zs.zz with ⟨q, _⟩ | ⟨_, _, _, _, q, _⟩
    · exact ⟨_, q, rfl⟩
    · exact ⟨_, q, rfl⟩
  have lz : z < s.heap.objs.size := let ⟨_, q, _⟩ := zty zs; Heap.lt_size q
  have lTI : TI < s.heap.objs.size := Heap.lt_size zs.ti
  have lTO : TO < s.heap.objs.size := let ⟨_, q⟩ := zs.tO; Heap.lt_size q
  have l1 : i1 < s.heap.objs.size := let ⟨_, q, _⟩ := zs.h1; Heap.lt_size q
  have l2 : i2 < s.heap.objs.size := let ⟨_, q, _⟩ := zs.h2; Heap.lt_size q
  have la : a < s.heap.objs.size := let ⟨_, _, p, _⟩ := I.list qa; p.lt
  have lb : b < s.heap.objs.size := let ⟨_, _, p, _⟩ := I.list qb; p.lt
  have dS : s.heap.objs.size ∉ [z, TI, TO, i1, i2, a, b] := fun m => by
    have m' : s.heap.objs.size = z ∨ s.heap.objs.size = TI ∨ s.heap.objs.size = TO ∨ s.heap.objs.size = i1 ∨ s.heap.objs.size = i2 ∨ s.heap.objs.size = a ∨ s.heap.objs.size = b := by simpa using m
    rcases m' with e | e | e | e | e | e | e
    · exact absurd e (Nat.ne_of_gt lz)
    · exact absurd e (Nat.ne_of_gt lTI)
    · exact absurd e (Nat.ne_of_gt lTO)
    · exact absurd e (Nat.ne_of_gt l1)
    · exact absurd e (Nat.ne_of_gt l2)
    · exact absurd e (Nat.ne_of_gt la)
    · exact absurd e (Nat.ne_of_gt lb)
  have move : ∀ {h : Heap}, (∀ b o, s.heap.get? b = some o → h.get? b = some o) → ZS h H z TI TO i1 i2 a b 0 := fun {h} k => by
    refine ⟨k _ _ zs.ti, zs.h1.at fun o e => k _ o e, zs.h2.at fun o e => k _ o e, ?_, ?_⟩
    · rcases zs.zz with ⟨q, u, v, q2⟩ | ⟨T, f, ts, oT, q, q2, q3⟩
      · exact .inl ⟨k _ _ q, u, v, k _ _ q2⟩
      · exact .inr ⟨T, f, ts, oT, k _ _ q, q2, k _ _ q3⟩
    · obtain ⟨o, ho⟩ := zs.tO
      exact ⟨o, k _ _ ho⟩
  have typ : ∀ {u : Shared}, ZS u.heap H z TI TO i1 i2 a b 0 → u.TypeIs (.ref z) "zip" := fun q => zty q
  unfold collect
  refine wpAny_bind (wpAny_runValue (codeAny_builtin PySem.F.entry_proto_collect ?_))
  rw [Around.under_plainId PySem.F.plain_proto_collect _]
  refine wpAny_bind (wpAny_newObj_type ?_)
  refine wpAny_pure ⟨plainId_quiet PySem.F.plain_list_iadd _, codeAny_builtin PySem.F.entry_list_iadd ?_⟩
  rw [Around.under_plainId PySem.F.plain_list_iadd _]
  have k1 : ∀ b o, s.heap.get? b = some o → (s.heap.push { cls := .type "list", data := .seq ([] : List Value).toArray }).get? b = some o := fun b o e => Heap.get?_push_of_some _ e
  show wpAny _ A.in1 (Builtin.List.listExtendWith (.ref s.heap.objs.size) (.ref z) (.ref s.heap.objs.size)) _ _ _
  unfold Builtin.List.listExtendWith
  refine wpAny_bind (wpAny_typeOf (typ (u := { s with heap := _ }) (move k1)) ?_)
  have c1 : Builtin.List.listSameRef (.ref s.heap.objs.size) (.ref z) = false := by simp [Builtin.List.listSameRef, Nat.ne_of_gt lz]
  have c2 : (Value.type "zip" == Value.type "list") = false := by decide
  have c3 : (Value.type "zip" == Value.type "tuple") = false := by decide
  simp only [c1, c2, c3, Bool.or_false, Bool.false_eq_true, if_false]
  refine wpAny_bind (wpAny_pyIter_zip (s := { s with heap := _ }) (k1 _ _ z0) ?_)
  refine wpAny_bind (wpAny_holding ?_)
  unfold Builtin.List.listLengthHint
  refine wpAny_bind (wpAny_specialOf (typ (u := { s with heap := _ }) (move k1)) zip_lenless ?_)
  show wpAny _ A.in1 (specialOf (Value.ref z) (Str.ofString "__length_hint__") >>= _) _ _ _
  refine wpAny_bind (wpAny_specialOf (typ (u := { s with heap := _ }) (move k1)) zip_hintless ?_)
  refine wpAny_pure ?_
  show wpAny _ A.in1 (rule "list.extend.makes-room" >>= fun _ => Builtin.List.listTouch (.ref s.heap.objs.size) >>= fun _ => again (.builtin "list.extend.loop" ⟨[.ref s.heap.objs.size, .ref z, .ref s.heap.objs.size], []⟩)) _ _ _
  refine wpAny_bind (wpAny_rule ?_)
  have s1 : (s.heap.push { cls := .type "list", data := .seq ([] : List Value).toArray }).get? s.heap.objs.size = some { cls := .type "list", data := .seq ([] : List Value).toArray } := Heap.get?_push_size _ rfl
  refine wpAny_bind ?_
  show wpAny _ A.in1 (updateSeq s.heap.objs.size (·.push .none) >>= fun _ => updateSeq s.heap.objs.size (·.pop)) _ _ _
  refine wpAny_bind (wpAny_updateSeq s1 rfl ?_)
  have s2 := Heap.get?_update_self (Obj.mapSeq (·.push Value.none)) s1 rfl
  refine wpAny_updateSeq s2 rfl ?_
  have s3 := Heap.get?_update_self (Obj.mapSeq (·.pop)) s2 rfl
  have k3 : ∀ b o, s.heap.get? b = some o → (((s.heap.push { cls := .type "list", data := .seq ([] : List Value).toArray }).update s.heap.objs.size (Obj.mapSeq (·.push Value.none))).update s.heap.objs.size (Obj.mapSeq (·.pop))).get? b = some o :=
    fun b o e => (Heap.get?_update_other _ _ (Nat.ne_of_gt (Heap.lt_size e))).trans ((Heap.get?_update_other _ _ (Nat.ne_of_gt (Heap.lt_size e))).trans (k1 b o e))
  have I3 := I.kept (t' := s.toks) k3
  have fpS : FpOk X pins H s.heap.objs.size := I.fpOk (Nat.le_refl _) (I.hok.fresh (Nat.le_refl _))
  refine wpAny_pure ⟨plainId_quiet PySem.F.plain_extend_loop _, zip_loop (A := A) (H0 := H) hA D (min xs.length ys.length) rfl hz dS _ 0 _ H _ _ [] rfl (Nat.zero_le _) I3 (fun c hc => ?_) (move k3) qa qb s3 rfl rfl (fun j T h => by simp at h) (fun _ _ e => e) fun s' H' acc' c' Ts' I' _ e' ea' el' pr' gr' => ?_⟩
  · have m' : c ∈ [z, TI, TO, i1, i2] ++ [s.heap.objs.size] := hc
    rcases List.mem_append.mp m' with m | m
    · exact fp c m
    · rw [List.mem_singleton.mp m]; exact fpS
  · show wpAny _ A (load s.heap.objs.size >>= _) _ _ s'
    refine wpAny_bind (wpAny_load e' (wpAny_pure ?_))
    show Q acc'.toList s'
    rw [ea']
    exact fin s' H' Ts' I' el' pr' gr'
theorem zip_tuple {s : Shared} {H : Hp} {E : Value → Shared → Prop} {Q : Value → Shared → Prop} (hA : A.handled = none) (D : ZipApart z TI TO i1 i2 a b) (hz : min xs.length ys.length ≤ sizeLine) (I : Inv X pins σ H s) (fp : ∀ c ∈ [z, TI, TO, i1, i2], FpOk X pins H c)
    (z0 : IsZip s.heap z TI TO .none) (zs : ZS s.heap H z TI TO i1 i2 a b 0) (qa : SqL X.K H a xs) (qb : SqL X.K H b ys)
    (fin : ∀ s' H' Ts p, Inv X pins σ (upd H' p (.tup (Ts.map V.ref))) s' → H' p = none → Ts.length = min xs.length ys.length → PrAt H' xs ys Ts → Grow H H' → Q (.ref p) s') : wpAny (model X.prog X.w) A (call (.type "tuple") [.ref z]) Q E s := by
  refine callType_codes (Q₁ := fun v u => u.TypeIs v "tuple" ∧ Q v u) PySem.F.called_tuple (PySem.F.typeCall_tuple_1 _) PySem.F.entry_object_init ?_ fun v u hu => ⟨hu.1, PySem.F.args_object_init_2 v _, object_init_meets PySem.F.called_tuple.init.lookup PySem.F.called_tuple.made (by decide) X.prog X.w A.in1 _ u ⟨hu.1, rfl, hu.2⟩⟩
  refine codeAny_of_tree ?_
  show wpAny _ A.in1.in1 (do checkBuiltinCall "tuple.__new__" ⟨[.type "tuple", .ref z], []⟩; again (.builtin "tuple.__new__" ⟨[.type "tuple", .ref z], []⟩)) _ _ s
  refine wpAny_bind (wpAny_of_eq (PySem.F.newCall_tuple_1 _) (wpAny_pure ⟨plainId_quiet PySem.F.plain_tuple_new _, codeAny_builtin PySem.F.entry_tuple_new ?_⟩))
  rw [Around.under_plainId PySem.F.plain_tuple_new _]
  have q1 := sub_tuple_self
  have q2 := init_tuple_lookup
  have q3 := madeHere_tuple
  have ty : s.TypeIs (.ref z) "zip" := by
    rcases zs.zz with ⟨q, _⟩ | ⟨_, _, _, _, q, _⟩
    · exact ⟨_, q, rfl⟩
    · exact ⟨_, q, rfl⟩
  wp_walk using wpAny_typeOf ty, zip_collect (H := H) (pins := pins) (σ := σ) (xs := xs) (ys := ys) (by simpa using hA) D hz I fp z0 zs qa qb
  intro s' H' Ts I' el pr gr
  show wpAny _ _ (Builtin.Tuple.tupleExact (Ts.map Value.ref).toArray >>= fun v => ret v) _ _ _
  unfold Builtin.Tuple.tupleExact
  have hsz : (Ts.map Value.ref).toArray.size ≤ sizeLine := by rw [List.size_toArray, List.length_map, el]; exact hz
  refine wpAny_bind (wpAny_newObj_type ?_ hsz)
  refine wpAny_pure ⟨⟨_, Heap.get?_push_size _ rfl, rfl⟩, ?_⟩
  refine fin _ H' Ts s'.heap.objs.size (I'.laid (t' := s'.toks) (fun b ob q => Heap.get?_push_of_some _ q) (Nat.le_refl _) ⟨by rw [List.length_map, el]; exact hz, Ts.map Value.ref, ?_, ⟨_, Heap.get?_push_size _ rfl, rfl, _, rfl⟩⟩) (I'.hok.fresh (Nat.le_refl _)) el pr gr
  clear el pr hsz
  induction Ts with
  | nil => exact .nil
  | cons t ts ih => exact .cons rfl ih
end
/-- tuple(zip(xs, ys)) of two lists -/
def dTupZip (fa : DA) : DT := fun env M R => fa env M fun dvs M1 => ∃ (x y : DV) (ds es : List PyData), dvs = [x, y] ∧ seqOf M1 x = some (ds.map DV.dat) ∧ seqOf M1 y = some (es.map DV.dat) ∧ isL M1 x = true ∧ isL M1 y = true ∧ min ds.length es.length ≤ sizeLine ∧
  R (.dat (.tuple ((ds.zip es).map fun p => .tuple [p.1, p.2]))) M1
theorem Fr.grow {M : Sto} {H H' : Hp} (g : Grow H H') : Fr M H M H' := ⟨fun a o e _ => g a o e, fun a _ n => n, fun a e => e⟩
theorem Sok.grow {K : PySem.W.Frag} {Hid : Addr → Prop} {M : Sto} {H H' : Hp} (s : Sok K Hid M H) (g : Grow H H') : Sok K Hid M H' := by
  refine ⟨fun a m e => ?_, fun a z => ⟨?_, (s.2 a z).2⟩⟩
  · have := s.1 a m e
    cases m with
    | lst ys =>
      obtain ⟨us, e2, r2⟩ := this
      exact ⟨us, g _ _ e2, r2.keep s (Fr.grow g)⟩
  · intro n
    have := (s.2 a z).1
    cases e : H a with
    | none => exact this e
    | some o => rw [g _ _ e] at n; cases n
theorem fz_pairs {K : PySem.W.Frag} {Hid : Addr → Prop} {M : Sto} {H : Hp} : ∀ {Ts : List Addr} {vs us : List V} {ds es : List PyData}, RpAll K Hid M H vs (ds.map DV.dat) → RpAll K Hid M H us (es.map DV.dat) → Ts.length = min ds.length es.length → PrAt H vs us Ts →
    FzAll K H (Fr0 Hid M) (Ts.map V.ref) ((ds.zip es).map fun p => .tuple [p.1, p.2])
  | [], vs, us, ds, es, r1, r2, hl, pr => by
    have : ds.zip es = [] := List.length_eq_zero_iff.mp (by rw [List.length_zip]; simpa using hl.symm)
    rw [this]; exact .nil
  | T :: Ts, vs, us, d :: ds, e :: es, r1, r2, hl, pr => by
    obtain ⟨x, y, h1, h2, h3⟩ := pr 0 T rfl
    have r1' : RpAll K Hid M H vs (DV.dat d :: ds.map DV.dat) := r1
    have r2' : RpAll K Hid M H us (DV.dat e :: es.map DV.dat) := r2
    cases r1' with
    | cons a1 b1 =>
    cases r2' with
    | cons a2 b2 =>
    cases h1; cases h2
    exact .cons (Fz.tup (SqT.of h3) (.cons a1 (.cons a2 .nil))) (fz_pairs b1 b2 (by simp at hl; omega) fun j U hj => pr (j + 1) U hj)
  | T :: Ts, vs, us, [], es, r1, r2, hl, pr => by simp at hl
  | T :: Ts, vs, us, d :: ds, [], r1, r2, hl, pr => by simp at hl
theorem de_tupZip {X : Cx} {e e2 : Expr} {fa : DA} {p p2 q pos : Pos} (hc : X.calm = true) (hg : Gl X "tuple") (hm : X.mg "tuple" = none) (hg2 : Gl X "zip") (hm2 : X.mg "zip" = none) (ha : DAs X [e, e2] fa)
    (hs : starEach [e, e2] X.env = (false, eval e X.env) :: starEach [e2] X.env := by rfl) (hpl : (backTo q (starEach [e2] X.env)).any (·.1) = false := by rfl)
    (na : starEach [.Call (.Name "zip" p2) [e, e2] [] q] X.env = (false, eval (.Call (.Name "zip" p2) [e, e2] [] q) X.env) :: starEach [] X.env := by rfl) : DE X (.Call (.Name "tuple" p) [.Call (.Name "zip" p2) [e, e2] [] q] [] pos) (dTupZip fa) := by
  refine ⟨fun pins s σ H Q I h => ?_⟩
  obtain ⟨Hid, env, M, R, o, q0, k⟩ := h
  refine Call_ (ld_blt I hg hm PyProof.Rows.boot_tuple ?_)
  refine PyProof.Rows.callWith_type1 (PyProof.Rows.args_cons ?_ na) na rfl
  refine Call_ (ld_blt I hg2 hm2 PyProof.Rows.boot_zip (PyProof.Rows.callWith_type1 (thn (ha.run q pins s σ H (fun vs H1 => ∃ a b xs ys, vs = [V.ref a, V.ref b] ∧ SqL X.K H1 a xs ∧ SqL X.K H1 b ys ∧ min xs.length ys.length ≤ sizeLine ∧
    ∀ H' Ts p, Grow H1 H' → H' p = none → Ts.length = min xs.length ys.length → PrAt H' xs ys Ts → Q (.ref p) (upd H' p (.tup (Ts.map V.ref)))) I (upA_of o q0 fun dvs M1 vs H1 f1 o1 r1 q1 => ?_)) fun us s1 hv => ?_) hs hpl))
  · obtain ⟨x, y, ds, es, rfl, e1, e2, l1, l2, hz, q1⟩ := q1
    obtain ⟨v, u, rfl, rv, ru⟩ := rp2 r1
    obtain ⟨a, xs, rfl, h1, h2⟩ := seqOf_list o1.sok rv e1 l1
    obtain ⟨b, ys, rfl, h3, h4⟩ := seqOf_list o1.sok ru e2 l2
    have n1 : xs.length = ds.length := by rw [h2.length, List.length_map]
    have n2 : ys.length = es.length := by rw [h4.length, List.length_map]
    refine ⟨a, b, xs, ys, rfl, h1, h3, by rw [n1, n2]; exact hz, fun H' Ts p g hp hl pr => k _ _ (Post.trans (f1.trans (Fr.grow g)) (post_tup (o1.sok.grow g) hp (fz_pairs (h2.keep o1.sok (Fr.grow g)) (h4.keep o1.sok (Fr.grow g)) (by rw [hl, n1, n2]) pr) q1))⟩
  · obtain ⟨vs, H1, I1, r1, a, b, xs, ys, rfl, qa, qb, hz, q1⟩ := hv
    cases r1 with
    | cons r rr =>
      cases rr with
      | cons r' rr =>
        cases rr
        cases r
        cases r'
        have fresh5 : ∀ c, c ∈ [s1.heap.objs.size + 4, s1.heap.objs.size + 2, s1.heap.objs.size + 3, s1.heap.objs.size, s1.heap.objs.size + 1] → FpOk X pins H1 c := fun c hcm => by
          have le : s1.heap.objs.size ≤ c := by
            have e' : c = s1.heap.objs.size + 4 ∨ c = s1.heap.objs.size + 2 ∨ c = s1.heap.objs.size + 3 ∨ c = s1.heap.objs.size ∨ c = s1.heap.objs.size + 1 := by simpa using hcm
            rcases e' with z | z | z | z | z
            · rw [z]; exact Nat.le_add_right _ _
            · rw [z]; exact Nat.le_add_right _ _
            · rw [z]; exact Nat.le_add_right _ _
            · rw [z]; exact Nat.le_refl _
            · rw [z]; exact Nat.le_add_right _ _
          exact I1.fpOk le (I1.hok.fresh le)
        obtain ⟨its, rv, p1, _⟩ := I1.list qa
        obtain ⟨its2, rv2, p2, _⟩ := I1.list qb
        refine call_zip_2 p1.isList p2.isList fun h' hz' hTI hTO h1 h2 hsz hk => PyProof.Rows.args_nil ?_
        have I2 : Inv X pins σ H1 { s1 with heap := h' } := I1.kept (t' := s1.toks) hk
        exact zip_tuple (A := X.A) (I2.ok.hd hc) (PySem.W.ktu_apart s1.heap.objs.size a b p1.lt p2.lt) hz I2 fresh5 hz' ⟨hTI, h1, h2, .inl ⟨hz', _, _, hTO⟩, _, hTO⟩ qa qb fun s' H' Ts p I' hp hl pr g => ⟨.ref p, _, I', rfl, q1 H' Ts p g hp hl pr⟩
end DL
/-! the data layer: defs by name -/
namespace DL
open PySem PySem.Spec PyProof.Rows L2
section
variable {X : Cx} {pos : Pos}
/-- xs + ys, the new list is to be changed -/
def dAddN : D2 := fun x y M R => ∃ xs ys, lstOf M x = some xs ∧ lstOf M y = some ys ∧ xs.length + ys.length ≤ sizeLine ∧ ∀ p, M p = none → R (.obj p) (M.set p (.lst (xs ++ ys)))
theorem od_addN : OpD X (binaryOp .Add) dAddN := by
  intro pins s σ H x y v u Q I rx ry ⟨Hid, M, dx, dy, R, sk, hx, hy, ⟨xs, ys, e1, e2, hz, q⟩, k⟩
  obtain ⟨a, vs, rfl, h1, r1⟩ := lstOf_sq sk hx e1
  obtain ⟨b, us, rfl, h2, r2⟩ := lstOf_sq sk hy e2
  cases rx; cases ry
  exact cat_any I h1 h2 (by rw [r1.length, r2.length]; exact hz) fun p hp => k _ _ (post_lstN sk hp (RpAll.append r1 r2) (q p (sk.fresh hp)))
/-- xs[:k] of a list, the new list is to be changed: not made -/
structure Fre (mg : Str → Option Value) : Prop where
  len : mg "len" = none
  set : mg "set" = none
  list : mg "list" = none
  tuple : mg "tuple" = none
  str : mg "str" = none
  int : mg "int" = none
  bool : mg "bool" = none
  sorted : mg "sorted" = none
  all : mg "all" = none
  any : mg "any" = none
  range : mg "range" = none
  zip : mg "zip" = none
  repr : mg "repr" = none
  isinstance : mg "isinstance" = none
def At (K : PySem.W.Frag) (mg : Str → Option Value) (x : Str) (st : Stmt) : Prop := ∃ f fd, mg x = some (.ref f) ∧ FunD K x x (defArgs st) (defBody st) (defScope st) [] [] f fd
def Has (P : Program) (w : World) (K : PySem.W.Frag) (mg : Str → Option Value) (base : Heap) (x : Str) (k : Nat) (ps : List Str) (sp : DC) : Prop :=
  ∃ f fd, mg x = some (.ref f) ∧ PySem.W.keepIn K (.ref f) = true ∧ Binds K fd ps [] ∧ FnOk P w K mg base CX0 k f fd ps (upSp K sp)
theorem de_callH {k : Nat} {ps : List Str} {sp : DC} {x : Str} {p : Pos} {e : Expr} {es : List Expr} {fa : DA} (h : Has X.prog X.w X.K X.mg X.base x k ps sp) (hr : Room k X.A) (hg : Gl X x) (ha : DAs X (e :: es) fa)
    (hdb : (x == ("__debug__" : Str)) = false := by decide) (he : starEach (e :: es) X.env = (false, eval e X.env) :: starEach es X.env := by rfl) (hpl : (backTo pos (starEach es X.env)).any (·.1) = false := by rfl) :
    DE X (.Call (.Name x p) (e :: es) [] pos) (dCB sp fa) := by
  obtain ⟨f, fd, hm, hk, hb, F⟩ := h
  exact de_call F hr hg hm hk hb pass0 ha hdb he hpl
theorem has_of {P : Program} {w : World} {K : PySem.W.Frag} {mg : Str → Option Value} {base : Heap} {x : Str} {st : Stmt} {N ps : List Str} {k : Nat} {sp : DC} (F : At K mg x st) (S : FnScope N ps (defScope st)) (len : ∀ dvs M R, sp dvs M R → dvs.length = ps.length) (t : DTS)
    (hb : ∀ f fd, FunD K x x (defArgs st) (defBody st) (defScope st) [] [] f fd → Binds K fd ps [])
    (hbody : ∀ (f : Addr) (cdv : Value) (A : Around) (outer : List PySem.Env) (s : Shared) (H : Hp) (E : XK), Room k (A.deeper (envOfC x (defScope st) s.heap.objs.size f cdv)) → DSs (cxOf CX0 P w K mg base N x (defScope st) f cdv A outer s H E).nox (defBody st) t)
    (read : ∀ dvs M R, sp dvs M R → t { nx := fun _ M' => ∃ dv' M'', Wk M (.dat .none) M' dv' M'' ∧ R dv' M'', rt := fun dv M' => ∃ dv' M'', Wk M dv M' dv' M'' ∧ R dv' M'' } (startD N.length dvs) M) :
    Has P w K mg base x (k + 1) ps sp := by
  obtain ⟨f, fd, hm, FF⟩ := F
  exact ⟨f, fd, hm, FF.kp, hb f fd FF, fn_ok FF S len t (fun cdv A outer s H E hr => PSs.nox (hbody f cdv A outer s H E hr)) read⟩
end
end DL
namespace DL
open PySem PySem.Spec PyProof.Rows L2
theorem de_neg {X : Cx} {i : Int} {k : Nat} {p q : Pos} : DE X (.UnaryOp .USub (.Constant (.int i) k p) q) (dC (.int (-i))) :=
  (pe_un un_neg pe_int).imp fun σ H Q ⟨Hid, env, M, R, o, q, k⟩ => ⟨i, rfl, k (.int (-i)) H (Post.same (dv := .dat (.int (-i))) o.sok (Fz.int _) q)⟩
end DL
/-! the data layer: readings by simp -/
namespace DL
open PySem PySem.Spec PyProof.Rows L2
section
variable {env : Env} {M : Sto} {R : DK} {RT : Bool → Sto → Prop} {DD : DEnds} {fa fb fc : DT} {ta tb : DTT} {f g : DTS}
@[simp] theorem r_var {i : Nat} : dVar i env M R = ∃ dv, env[i]? = some (some dv) ∧ R dv M := propext Iff.rfl
@[simp] theorem r_c {d : PyData} : dC d env M R = R (.dat d) M := propext Iff.rfl
@[simp] theorem r_2 {o : D2} : d2 o fa fb env M R = fa env M fun x M1 => fb env M1 fun y M2 => o x y M2 R := propext Iff.rfl
@[simp] theorem r_B {b : Bool} : (match (DV.dat (.bool b)) with | .dat (.bool b) => RT b M | _ => False) = RT b M := propext Iff.rfl
@[simp] theorem r_dB : dB fa env M RT = fa env M fun x M1 => match x with | .dat (.bool b) => RT b M1 | _ => False := propext Iff.rfl
@[simp] theorem r_not : dNot ta env M RT = ta env M fun b M1 => RT (!b) M1 := propext Iff.rfl
@[simp] theorem r_and : dAnd ta tb env M RT = ta env M fun b M1 => if b = true then tb env M1 RT else RT false M1 := propext Iff.rfl
@[simp] theorem r_or : dOr ta tb env M RT = ta env M fun b M1 => if b = true then RT true M1 else tb env M1 RT := propext Iff.rfl
@[simp] theorem r_andV : dAndV fa fb env M R = fa env M fun x M1 => match x with | .dat (.bool b) => if b = true then fb env M1 R else R (.dat (.bool false)) M1 | _ => False := propext Iff.rfl
@[simp] theorem r_orV : dOrV fa fb env M R = fa env M fun x M1 => match x with | .dat (.bool b) => if b = true then R (.dat (.bool true)) M1 else fb env M1 R | _ => False := propext Iff.rfl
@[simp] theorem r_notV : dNotV fa env M R = fa env M fun x M1 => match x with | .dat (.bool b) => R (.dat (.bool (!b))) M1 | _ => False := propext Iff.rfl
@[simp] theorem r_ifE : dIfE ta fa fb env M R = ta env M fun c M1 => if c = true then fa env M1 R else fb env M1 R := propext Iff.rfl
@[simp] theorem r_nil {Q : List DV → Sto → Prop} : dNil env M Q = Q [] M := propext Iff.rfl
@[simp] theorem r_cons {fr : DA} {Q : List DV → Sto → Prop} : dCons fa fr env M Q = fa env M fun x M1 => fr env M1 fun xs M2 => Q (x :: xs) M2 := propext Iff.rfl
@[simp] theorem r_tup {fr : DA} : dTup fr env M R = fr env M fun xs M1 => match dats xs with | some ds => ds.length ≤ sizeLine ∧ R (.dat (.tuple ds)) M1 | none => False := propext Iff.rfl
@[simp] theorem r_lst {fr : DA} : dLst fr env M R = fr env M fun xs M1 => match dats xs with | some ds => ds.length ≤ sizeLine ∧ R (.dat (.list ds)) M1 | none => False := propext Iff.rfl
@[simp] theorem r_lstN {fr : DA} : dLstN fr env M R = fr env M fun xs M1 => xs.length ≤ sizeLine ∧ ∀ p, M1 p = none → R (.obj p) (M1.set p (.lst xs)) := propext Iff.rfl
@[simp] theorem r_next : dNext DD env M = DD.nx env M := propext Iff.rfl
@[simp] theorem r_seq : dSeq f g DD env M = f { DD with nx := g DD } env M := propext Iff.rfl
@[simp] theorem r_drop : dDrop fa DD env M = fa env M fun _ M1 => DD.nx env M1 := propext Iff.rfl
@[simp] theorem r_ret : dRet fa DD env M = fa env M DD.rt := propext Iff.rfl
@[simp] theorem r_if : dIf ta f g DD env M = ta env M fun b M1 => if b = true then f DD env M1 else g DD env M1 := propext Iff.rfl
@[simp] theorem r_asg {t : DG} : dAsg fa t DD env M = fa env M fun x M1 => t x env M1 DD.nx := propext Iff.rfl
@[simp] theorem r_gname {i : Nat} {dv : DV} {Q : Env → Sto → Prop} : dgName i dv env M Q = Q (env.set i (some dv)) M := propext Iff.rfl
@[simp] theorem r_gnil {dvs : List DV} {Q : Env → Sto → Prop} : dgNil dvs env M Q = (dvs = [] ∧ Q env M) := propext Iff.rfl
@[simp] theorem r_gcons {t : DG} {ts : DGs} {dv : DV} {dvs : List DV} {Q : Env → Sto → Prop} : dgCons t ts (dv :: dvs) env M Q = t dv env M fun env' M' => ts dvs env' M' Q := propext Iff.rfl
@[simp] theorem r_gtup {n : Nat} {ts : DGs} {ds : List PyData} {Q : Env → Sto → Prop} : dgTup n ts (.dat (.tuple ds)) env M Q = (ds.length = n ∧ ts (ds.map DV.dat) env M Q) := propext Iff.rfl
@[simp] theorem r_cb {o : DC} {fr : DA} : dCB o fr env M R = fr env M fun dvs M1 => o dvs M1 R := propext Iff.rfl
@[simp] theorem r_isi {T : String} : dIsi T fa env M R = fa env M fun x M1 => R (.dat (.bool (isiB (tyD x) T))) M1 := propext Iff.rfl
@[simp] theorem r_lenSet : dLenSet fa env M R = fa env M fun x M1 => ∃ xs : List Str, x = .dat (.tuple (xs.map PyData.str)) ∧ xs.length ≤ 4000 ∧ R (.dat (.int ((uniq [] xs).length : Nat))) M1 := propext Iff.rfl
@[simp] theorem r_chain {o o' : D2} : dChain o o' fa fb fc env M R = fa env M fun x M1 => fb env M1 fun y M2 => o x y M2 fun z M3 => match z with
  | .dat (.bool b) => if b = true then fc env M3 fun w M4 => o' y w M4 R else R (.dat (.bool false)) M3
  | _ => False := propext Iff.rfl
@[simp] theorem r_rel {C : PyData → PyData → Prop} {p : PyData → PyData → Bool} {d e : PyData} : dRel C p (.dat d) (.dat e) M R = (C d e ∧ R (.dat (.bool (p d e))) M) := propext Iff.rfl
@[simp] theorem r_int {C : Int → Int → Prop} {p : Int → Int → Int} {i j : Int} : dInt C p (.dat (.int i)) (.dat (.int j)) M R = (C i j ∧ R (.dat (.int (p i j))) M) := propext Iff.rfl
@[simp] theorem r_addi {i j : Int} : dAdd (.dat (.int i)) (.dat (.int j)) M R = R (.dat (.int (i + j))) M := propext Iff.rfl
@[simp] theorem r_adds {a b : Str} : dAdd (.dat (.str a)) (.dat (.str b)) M R = (a.length + b.length ≤ sizeLine ∧ R (.dat (.str (a ++ b))) M) := propext Iff.rfl
@[simp] theorem r_addt {a b : List PyData} : dAdd (.dat (.tuple a)) (.dat (.tuple b)) M R = (a.length + b.length ≤ sizeLine ∧ R (.dat (.tuple (a ++ b))) M) := propext Iff.rfl
theorem r_addl {a b : List PyData} : dAdd (.dat (.list a)) (.dat (.list b)) M R = (a.length + b.length ≤ sizeLine ∧ R (.dat (.list (a ++ b))) M) := by
  show ((a.map DV.dat).length + (b.map DV.dat).length ≤ sizeLine ∧ match dats (a.map DV.dat ++ b.map DV.dat) with | some ds => R (.dat (.list ds)) M | none => False) = _
  rw [← List.map_append, dats_map, List.length_map, List.length_map]
@[simp] theorem r_len_s {z : Str} : dLen [.dat (.str z)] M R = (z.length ≤ sizeLine ∧ R (.dat (.int z.length)) M) := propext Iff.rfl
@[simp] theorem r_len_t {ds : List PyData} : dLen [.dat (.tuple ds)] M R = R (.dat (.int ds.length)) M := by
  show (∃ xs, some (ds.map DV.dat) = some xs ∧ R (.dat (.int xs.length)) M) = _
  simp
@[simp] theorem r_len_l {ds : List PyData} : dLen [.dat (.list ds)] M R = R (.dat (.int ds.length)) M := by
  show (∃ xs, some (ds.map DV.dat) = some xs ∧ R (.dat (.int xs.length)) M) = _
  simp
theorem all_ok {ds : List Bool} (h : R (.dat (.bool (ds.all id))) M) : dAll false [.dat (.list (ds.map PyData.bool))] M R := ⟨_, _, ds, rfl, rfl, by rw [List.map_map]; rfl, h⟩
theorem all_true {α : Type} {xs : List α} (h : R (.dat (.bool true)) M) : dAll false [.dat (.list (xs.map fun _ => PyData.bool true))] M R := by
  have e : xs.map (fun _ => PyData.bool true) = (xs.map fun _ => true).map PyData.bool := by rw [List.map_map]; rfl
  rw [e]
  refine all_ok ?_
  have : (xs.map fun _ => true).all id = true := by simp
  rw [this]; exact h
end
/-! ### order of plain things -/
open PySem.W in
theorem cmp_int (i j : Int) : CCmp (.int i) (.int j) := ⟨rfl, by simp, Nat.zero_le _⟩
open PySem.W in
theorem cmp_str (a b : Str) : CCmp (.str a) (.str b) := ⟨rfl, by simp, Nat.zero_le _⟩
theorem eqv_int {i j : Int} : PyData.eqv (.int i) (.int j) = decide (i = j) := rfl
/-! ### comprehensions -/
section
variable {vs : List Nat} {g : DG} {te : DT} {tt : DTT} {env : Env} {S : Sto → Prop} {M : Sto}
/-- one thing for each, the store stays -/
theorem lc_map {α : Type} (xs : List α) (d : α → DV) (f : α → PyData) {fin : List DV → Sto → Prop} (hS : S M) (hz : xs.length ≤ sizeLine)
    (step : ∀ x ∈ xs, ∀ Q : DV → Sto → Prop, Q (.dat (f x)) M → g (d x) (wipeD env vs) M fun env2 M2 => te env2 M2 Q) (done : fin ((xs.map f).map DV.dat) M) : LcInv vs g dYes te env (xs.map d) S M fin := by
  refine ⟨fun i acc M' => M' = M ∧ acc = ((xs.take i).map f).map DV.dat, ⟨rfl, rfl⟩, fun i acc M' _ h => by rw [h.1]; exact hS, fun i x acc M' e h => ?_, fun acc M' h => ?_⟩
  · obtain ⟨rfl, rfl⟩ := h
    rw [List.getElem?_map] at e
    obtain ⟨y, h1, rfl⟩ := Option.map_eq_some_iff.mp e
    have hi := (List.getElem?_eq_some_iff.mp h1).1
    have := step y (List.mem_of_getElem? h1) (fun z M4 => (((xs.take i).map f).map DV.dat).length < sizeLine ∧ M4 = M' ∧ (((xs.take i).map f).map DV.dat) ++ [z] = ((xs.take (i + 1)).map f).map DV.dat) ⟨by simp; omega, rfl, by
      rw [List.take_add_one, h1]; simp⟩
    exact this
  · obtain ⟨rfl, rfl⟩ := h
    rw [List.length_map, List.take_length]
    exact done
/-- those that are wanted -/
theorem lc_filter {α : Type} (xs : List α) (d : α → DV) (p : α → Bool) (f : α → PyData) {fin : List DV → Sto → Prop} (hS : S M) (hz : xs.length ≤ sizeLine)
    (step : ∀ x ∈ xs, ∀ (Q : DV → Sto → Prop) (N : Prop), (p x = true → Q (.dat (f x)) M) → (p x = false → N) → g (d x) (wipeD env vs) M fun env2 M2 => tt env2 M2 fun b M3 => if b = true then te env2 M3 fun y M4 => Q y M4 else N ∧ M3 = M)
    (done : fin (((xs.filter p).map f).map DV.dat) M) : LcInv vs g tt te env (xs.map d) S M fin := by
  refine ⟨fun i acc M' => M' = M ∧ acc = (((xs.take i).filter p).map f).map DV.dat, ⟨rfl, rfl⟩, fun i acc M' _ h => by rw [h.1]; exact hS, fun i x acc M' e h => ?_, fun acc M' h => ?_⟩
  · obtain ⟨rfl, rfl⟩ := h
    rw [List.getElem?_map] at e
    obtain ⟨y, h1, rfl⟩ := Option.map_eq_some_iff.mp e
    have hi := (List.getElem?_eq_some_iff.mp h1).1
    have len : ((((xs.take i).filter p).map f).map DV.dat).length < sizeLine := by
      have := List.length_filter_le p (xs.take i)
      simp at this ⊢; omega
    have e3 : xs.take (i + 1) = xs.take i ++ [y] := by rw [List.take_add_one, h1]; rfl
    have := step y (List.mem_of_getElem? h1) (fun z M4 => ((((xs.take i).filter p).map f).map DV.dat).length < sizeLine ∧ M4 = M' ∧ ((((xs.take i).filter p).map f).map DV.dat) ++ [z] = (((xs.take (i + 1)).filter p).map f).map DV.dat)
      ((((xs.take i).filter p).map f).map DV.dat = (((xs.take (i + 1)).filter p).map f).map DV.dat) (fun hp => ⟨len, rfl, by rw [e3, List.filter_append]; simp [hp]⟩) (fun hp => by rw [e3, List.filter_append]; simp [hp])
    simpa only [and_comm] using this
  · obtain ⟨rfl, rfl⟩ := h
    rw [List.length_map, List.take_length]
    exact done
end
@[simp] theorem ccmp_int (i j : Int) : CCmp (.int i) (.int j) = True := eq_true (cmp_int i j)
@[simp] theorem ccmp_str (i j : Str) : CCmp (.str i) (.str j) = True := eq_true (cmp_str i j)
@[simp] theorem ceq_int (i j : Int) : CEq (.int i) (.int j) = True := eq_true ⟨Pl.int, rfl⟩
@[simp] theorem ceq_str (i j : Str) : CEq (.str i) (.str j) = True := eq_true ⟨Pl.str, rfl⟩
@[simp] theorem eqv_i (i j : Int) : PyData.eqv (.int i) (.int j) = decide (i = j) := rfl
@[simp] theorem eqv_s (i j : Str) : PyData.eqv (.str i) (.str j) = decide (i = j) := by
  show (i == j) = decide (i = j)
  by_cases h : i = j
  · simp [h]
  · simp [h]
@[simp] theorem lt_i (i j : Int) : PySem.W.dataLt (.int i) (.int j) = decide (i < j) := PySem.W.dataLt_int i j
@[simp] theorem isi1 {s : Str} : isiB (tyD (.dat (.str s))) "str" = true := rfl
@[simp] theorem isi2 {s : Int} : isiB (tyD (.dat (.int s))) "int" = true := rfl
@[simp] theorem isi3 {s : Int} : isiB (tyD (.dat (.int s))) "bool" = false := rfl
@[simp] theorem isi4 {s : List PyData} : isiB (tyD (.dat (.tuple s))) "tuple" = true := rfl
theorem sz_le {n : Nat} (h : n ≤ 1000000) : n ≤ sizeLine := Nat.le_trans h (by decide)
@[simp] theorem lstOf_l {M : Sto} {ds : List PyData} : lstOf M (.dat (.list ds)) = some (ds.map DV.dat) := rfl
@[simp] theorem seqOf_l {M : Sto} {ds : List PyData} : seqOf M (.dat (.list ds)) = some (ds.map DV.dat) := rfl
@[simp] theorem seqOf_t {M : Sto} {ds : List PyData} : seqOf M (.dat (.tuple ds)) = some (ds.map DV.dat) := rfl
@[simp] theorem seqOf_o {M : Sto} {a : Addr} : seqOf M (.obj a) = lstOf M (.obj a) := rfl
@[simp] theorem datOf_d {M : Sto} {d : PyData} : datOf M (.dat d) = some d := rfl
@[simp] theorem dats_m (ds : List PyData) : dats (ds.map DV.dat) = some ds := dats_map ds
section
variable {env : Env} {M : Sto} {R : DK}
@[simp] theorem r_in_s {neg : Bool} {c : Nat} {z : Str} : dIn neg (.dat (.str ⟨#[c]⟩)) (.dat (.str z)) M R = R (.dat (.bool (neg ^^ decide (c ∈ z.cps.toList)))) M := by
  show (∃ c', (⟨#[c]⟩ : Str) = ⟨#[c']⟩ ∧ _) = _
  apply propext
  constructor
  · rintro ⟨c', e, q⟩
    cases e; exact q
  · intro q; exact ⟨c, rfl, q⟩
@[simp] theorem r_in_t {neg : Bool} {d : PyData} {xs : List PyData} : dIn neg (.dat d) (.dat (.tuple xs)) M R = (Pl 60 d ∧ PyData.plainAll xs = true ∧ R (.dat (.bool (neg ^^ xs.any fun e => PyData.eqv e d))) M) := by cases d <;> rfl
@[simp] theorem r_in_l {neg : Bool} {d : PyData} {xs : List PyData} : dIn neg (.dat d) (.dat (.list xs)) M R = (Pl 60 d ∧ PyData.plainAll xs = true ∧ R (.dat (.bool (neg ^^ xs.any fun e => PyData.eqv e d))) M) := by cases d <;> rfl
@[simp] theorem r_isN {neg : Bool} {x : DV} : dIsN neg x (.dat .none) M R = R (.dat (.bool (neg ^^ isNon x))) M := by
  show (_ ∧ _) = _
  simp
@[simp] theorem r_isBB {p : Bool → Bool → Bool} {a b : Bool} : dIsB p (.dat (.bool a)) (.dat (.bool b)) M R = R (.dat (.bool (p a b))) M := by
  apply propext
  constructor
  · rintro ⟨_, _, e1, e2, q⟩
    cases e1; cases e2; exact q
  · intro q; exact ⟨a, b, rfl, rfl, q⟩
@[simp] theorem r_ix_t {ds : List PyData} {k : Int} : dIx (.dat (.tuple ds)) (.dat (.int k)) M R = ∃ dv, atI (ds.map DV.dat) k = some dv ∧ R dv M := by
  show (∃ xs, some (ds.map DV.dat) = some xs ∧ _) = _
  simp
@[simp] theorem r_ix_l {ds : List PyData} {k : Int} : dIx (.dat (.list ds)) (.dat (.int k)) M R = ∃ dv, atI (ds.map DV.dat) k = some dv ∧ R dv M := by
  show (∃ xs, some (ds.map DV.dat) = some xs ∧ _) = _
  simp
@[simp] theorem r_ix_o {a : Addr} {k : Int} : dIx (.obj a) (.dat (.int k)) M R = ∃ xs, lstOf M (.obj a) = some xs ∧ ∃ dv, atI xs k = some dv ∧ R dv M := propext Iff.rfl
@[simp] theorem r_ix_s {z : Str} {k : Int} : dIx (.dat (.str z)) (.dat (.int k)) M R = (z.length ≤ sizeLine ∧ ∃ c, atI z.cps.toList k = some c ∧ R (.dat (.str ⟨#[c]⟩)) M) := propext Iff.rfl
theorem at_map {α β : Type} {f : α → β} {xs : List α} {k : Int} : atI (xs.map f) k = (atI xs k).map f := by
  unfold atI
  rw [List.length_map]
  cases ixN xs.length k with
  | none => rfl
  | some j => simp
theorem at_nat {α : Type} {xs : List α} {k : Nat} (h : k < xs.length) : atI xs (k : Int) = some xs[k] := by
  have : ixN xs.length (k : Int) = some k := by
    unfold ixN
    simp [h]
  unfold atI
  rw [this]; simp [h]
@[simp] theorem at0 {α : Type} {x : α} {xs : List α} : atI (x :: xs) 0 = some x := at_nat (k := 0) (xs := x :: xs) (by simp)
@[simp] theorem at1 {α : Type} {x y : α} {xs : List α} : atI (x :: y :: xs) 1 = some y := at_nat (k := 1) (xs := x :: y :: xs) (by simp)
@[simp] theorem at2 {α : Type} {x y z : α} {xs : List α} : atI (x :: y :: z :: xs) 2 = some z := at_nat (k := 2) (xs := x :: y :: z :: xs) (by simp)
@[simp] theorem r_lc {src : DI} {g : DG} {tt : DTT} {te : DT} {vs : List Nat} : dLc src g tt te vs env M R = src env M fun xs S M1 => LcInv vs g tt te env xs S M1 fun acc M2 => ∃ ds, acc = ds.map DV.dat ∧ R (.dat (.list ds)) M2 := propext Iff.rfl
@[simp] theorem r_lcN {src : DI} {g : DG} {tt : DTT} {te : DT} {vs : List Nat} : dLcN src g tt te vs env M R = src env M fun xs S M1 => LcInv vs g tt te env xs S M1 fun acc M2 => ∀ p, M2 p = none → R (.obj p) (M2.set p (.lst acc)) := propext Iff.rfl
@[simp] theorem r_src {fe : DT} {RR} : dSrc fe env M RR = fe env M fun x M1 => ∃ xs, seqOf M1 x = some xs ∧ RR xs (fun M => seqOf M x = some xs) M1 := propext Iff.rfl
@[simp] theorem r_signs {fe : DT} {RR} : dSigns fe env M RR = fe env M fun x M1 => ∃ z, x = .dat (.str z) ∧ RR (signs z) (fun _ => True) M1 := propext Iff.rfl
@[simp] theorem r_range1 {fe : DA} {RR} : dRange1 fe env M RR = fe env M fun dvs M1 => ∃ j : Int, dvs = [.dat (.int j)] ∧ -(2 ^ 62) ≤ j ∧ j < 2 ^ 62 ∧ RR (rangeL 0 j.toNat) (fun _ => True) M1 := propext Iff.rfl
@[simp] theorem r_range2 {fe : DA} {RR} : dRange2 fe env M RR = fe env M fun dvs M1 => ∃ i j : Int, dvs = [.dat (.int i), .dat (.int j)] ∧ (-(2 ^ 62) ≤ i ∧ i < 2 ^ 62 ∧ -(2 ^ 62) ≤ j ∧ j < 2 ^ 62) ∧ RR (rangeL i (j - i).toNat) (fun _ => True) M1 := propext Iff.rfl
@[simp] theorem r_zip {fe : DA} {RR} : dZip fe env M RR = fe env M fun dvs M1 => ∃ x y ds es, dvs = [x, y] ∧ seqOf M1 x = some (ds.map DV.dat) ∧ seqOf M1 y = some (es.map DV.dat) ∧ isL M1 x = isL M1 y ∧
  RR (pairsD ds es) (fun M => seqOf M x = some (ds.map DV.dat) ∧ seqOf M y = some (es.map DV.dat)) M1 := propext Iff.rfl
@[simp] theorem r_sl {fe : DT} {tl th : DO} : dSl fe tl th env M R = fe env M fun x M1 => tl env M1 fun l M2 => th env M2 fun u M3 => dSlV x l u M3 R := propext Iff.rfl
@[simp] theorem r_nopart {Q} : dNoPart env M Q = Q none M := propext Iff.rfl
@[simp] theorem r_part {f : DT} {Q} : dPart f env M Q = f env M fun x M1 => match x with | .dat (.int i) => Q (some i) M1 | _ => False := propext Iff.rfl
theorem cut_map {α β : Type} {f : α → β} {xs : List α} {lo hi : Option Int} : cutD (xs.map f) lo hi = (cutD xs lo hi).map f := by
  unfold cutD
  rw [List.length_map, List.map_take, List.map_drop]
@[simp] theorem r_sl_t {ds : List PyData} {lo hi : Option Int} : dSlV (.dat (.tuple ds)) lo hi M R = R (.dat (.tuple (cutD ds lo hi))) M := propext Iff.rfl
@[simp] theorem r_sl_l {ds : List PyData} {lo hi : Option Int} : dSlV (.dat (.list ds)) lo hi M R = R (.dat (.list (cutD ds lo hi))) M := by
  show (∃ xs es, some (ds.map DV.dat) = some xs ∧ dats (cutD xs lo hi) = some es ∧ R (.dat (.list es)) M) = _
  simp [cut_map]
theorem cut_from {α : Type} (xs : List α) (k : Nat) : cutD xs (some (k : Int)) none = xs.drop k := by
  unfold cutD
  rw [HT.sIx_nat, HT.sIx_none]
  by_cases h : k ≤ xs.length
  · rw [Nat.min_eq_left h, List.take_of_length_le (by simp)]
  · rw [List.drop_of_length_le (by omega : xs.length ≤ min k xs.length), List.drop_of_length_le (by omega)]; simp
theorem cut_upto {α : Type} (xs : List α) (k : Nat) : cutD xs none (some (k : Int)) = xs.take k := by
  unfold cutD
  rw [HT.sIx_nat, HT.sIx_none]
  by_cases h : k ≤ xs.length
  · rw [Nat.min_eq_left h]; simp
  · rw [Nat.min_eq_right (by omega), List.take_of_length_le (by simp), List.take_of_length_le (by omega)]; simp
@[simp] theorem r_m {T : String} {o : DV → DC} {fo : DT} {fr : DA} : dM T o fo fr env M R = fo env M fun x M1 => tyOk T x M1 ∧ fr env M1 fun dvs M2 => o x dvs M2 R := propext Iff.rfl
@[simp] theorem r_m0 {T : String} {o : DV → DC} {fo : DT} : dM0 T o fo env M R = fo env M fun x M1 => tyOk T x M1 ∧ o x [] M1 R := propext Iff.rfl
end
end DL
namespace DL
open PySem PySem.Spec PyProof.Rows L2
/-! ## k43: what the defs promise -/
abbrev Mom := List (Str × Int)
abbrev Stp := Int × Mom × Int
abbrev Tab := List Str × Int × List Stp
def sTx (l : List Str) : List PyData := l.map .str
def dPair (p : Str × Int) : PyData := .tuple [.str p.1, .int p.2]
def dMo (m : Mom) : PyData := .tuple (m.map dPair)
def dStp (s : Stp) : PyData := .tuple [.int s.1, dMo s.2.1, .int s.2.2]
def dTab (t : Tab) : PyData := .tuple [.tuple (sTx t.1), .int t.2.1, .tuple (t.2.2.map dStp)]
def letter (c : Nat) : Bool := decide (97 ≤ c ∧ c ≤ 122)
def PortOk (s : Str) : Prop := 1 ≤ s.length ∧ s.length ≤ 8 ∧ s.cps.toList.all letter = true
/-- each thing below the next -/
def Rises (ds : List PyData) : Prop := ∀ p ∈ ds.zip ds.tail, CCmp p.1 p.2 ∧ PySem.W.dataLt p.1 p.2 = true
def MoOk (l : List Str) (m : Mom) : Prop := (∀ p ∈ m, p.1 ∈ l ∧ 0 ≤ p.2 ∧ p.2 < 3) ∧ Rises (sTx (m.map (·.1))) ∧ m.length ≤ 6
def StpOk (l : List Str) (n : Int) (s : Stp) : Prop := 0 ≤ s.1 ∧ s.1 < n ∧ MoOk l s.2.1 ∧ 0 ≤ s.2.2 ∧ s.2.2 < n
structure TabOk (t : Tab) : Prop where
  ports : ∀ s ∈ t.1, PortOk s
  nodup : t.1.Nodup
  few : t.1.length ≤ 6
  lo : 1 ≤ t.2.1
  hi : t.2.1 ≤ 2000
  steps : ∀ s ∈ t.2.2, StpOk t.1 t.2.1 s
  rise : Rises (t.2.2.map dStp)
  short : t.2.2.length ≤ 60
  uniq : t.2.2.Nodup
def numT (i : Int) : Str := Str.ofString (toString i)
def blank : Str := " "
def moWords (m : Mom) : List Str := m.flatMap fun p => [p.1, numT p.2]
def stpWords (s : Stp) : List Str := "step" :: numT s.1 :: numT s.2.2 :: moWords s.2.1
def headWords (t : Tab) : List Str := "table" :: numT t.2.1 :: t.1
def lineOf (s : Stp) : Str := Txt.join blank (stpWords s)
def linesOf (t : Tab) : List Str := Txt.join blank (headWords t) :: t.2.2.map lineOf
def spis_port : DC := fun dvs M R => ∃ s, dvs = [.dat (.str s)] ∧ PortOk s ∧ R (.dat (.bool true)) M
def spis_whole : DC := fun dvs M R => ∃ i, dvs = [.dat (.int i)] ∧ R (.dat (.bool true)) M
def spis_thing : DC := fun dvs M R => ∃ n i, dvs = [.dat (.int n), .dat (.int i)] ∧ 0 ≤ i ∧ i < n ∧ R (.dat (.bool true)) M
def spare_unlike_ports : DC := fun dvs M R => ∃ l : List Str, dvs = [.dat (.tuple (sTx l))] ∧ (∀ s ∈ l, PortOk s) ∧ l.Nodup ∧ l.length ≤ 1000 ∧ R (.dat (.bool true)) M
def spis_rising : DC := fun dvs M R => ∃ ds, (dvs = [.dat (.list ds)] ∨ dvs = [.dat (.tuple ds)]) ∧ ds.length ≤ 1000 ∧ Rises ds ∧ R (.dat (.bool true)) M
def spis_pair : DC := fun dvs M R => ∃ n l s i, dvs = [.dat (.int n), .dat (.tuple (sTx l)), .dat (.tuple [.str s, .int i])] ∧ s ∈ l ∧ 0 ≤ i ∧ i < n ∧ R (.dat (.bool true)) M
def spis_moment_of : DC := fun dvs M R => ∃ l m, dvs = [.dat (.int 3), .dat (.tuple (sTx l)), .dat (dMo m)] ∧ MoOk l m ∧ R (.dat (.bool true)) M
def spis_table_step : DC := fun dvs M R => ∃ l n s, dvs = [.dat (.tuple (sTx l)), .dat (.int n), .dat (dStp s)] ∧ StpOk l n s ∧ R (.dat (.bool true)) M
def spis_table : DC := fun dvs M R => ∃ t, dvs = [.dat (dTab t)] ∧ TabOk t ∧ R (.dat (.bool true)) M
def spstep_line : DC := fun dvs M R => ∃ l n s, dvs = [.dat (dStp s)] ∧ StpOk l n s ∧ (∀ p ∈ l, PortOk p) ∧ n ≤ 2000 ∧ R (.dat (.str (lineOf s))) M
def sptable_lines : DC := fun dvs M R => ∃ t, dvs = [.dat (dTab t)] ∧ TabOk t ∧ ∀ p, M p = none → R (.obj p) (M.set p (.lst ((sTx (linesOf t)).map DV.dat)))
def spnumber_in : DC := fun dvs M R => ∃ i n, dvs = [.dat (.str (numT i)), .dat (.int n)] ∧ 0 ≤ i ∧ i < n ∧ i ≤ 2000 ∧ R (.dat (.int i)) M
def spread_head : DC := fun dvs M R => ∃ t, dvs = [.dat (.list (sTx (headWords t)))] ∧ TabOk t ∧ R (.dat (.tuple [.tuple (sTx t.1), .int t.2.1])) M
def spread_moment : DC := fun dvs M R => ∃ l m, dvs = [.dat (.tuple (sTx l)), .dat (.list (sTx (moWords m)))] ∧ MoOk l m ∧ R (.dat (dMo m)) M
def spread_step : DC := fun dvs M R => ∃ l n s, dvs = [.dat (.tuple (sTx l)), .dat (.int n), .dat (.list (sTx (stpWords s)))] ∧ StpOk l n s ∧ n ≤ 2000 ∧ R (.dat (dStp s)) M
def spread_table : DC := fun dvs M R => ∃ x t, dvs = [x] ∧ lstOf M x = some ((sTx (linesOf t)).map DV.dat) ∧ TabOk t ∧ R (.dat (dTab t)) M
def sIn (ns : List Int) : List PyData := ns.map .int
/-- a tape of which at most n draws were made -/
def TapeSt (tp : List DV) (n : Int) : Prop := ∃ (ns : List Int) (spot rest : Int), tp = [.dat (.list (sIn ns)), .dat (.int spot), .dat (.int rest)] ∧ 0 ≤ spot ∧ spot ≤ n ∧ 0 ≤ rest ∧ ns.length ≤ 63
def TapeAt (M : Sto) (a : Addr) (n : Int) : Prop := ∃ tp, M a = some (.lst tp) ∧ TapeSt tp n
def sp_law_tape : DC := fun dvs M R => ∃ ns, dvs = [.dat (.list (sIn ns))] ∧ ns.length ≤ 63 ∧ ∀ p tp, M p = none → TapeSt tp 0 → R (.obj p) (M.set p (.lst tp))
def sp_law_draw : DC := fun dvs M R => ∃ a n k, dvs = [.obj a, .dat (.int k)] ∧ TapeAt M a n ∧ n < 1000000 ∧ 1 ≤ k ∧ k < 1000000 ∧ ∀ tp v, TapeSt tp (n + 1) → 0 ≤ v → v < k → R (.dat (.int v)) (M.set a (.lst tp))
def sp_law_names : DC := fun dvs M R => ∃ a n, dvs = [.obj a, .dat (.int 6)] ∧ TapeAt M a n ∧ n < 900000 ∧ ∀ tp (l : List Str), TapeSt tp (n + 2) → l.length = 6 → l.Nodup → (∀ s ∈ l, PortOk s) → R (.dat (.list (sTx l))) (M.set a (.lst tp))
def sp_law_moment : DC := fun dvs M R => ∃ a n l few, dvs = [.obj a, .dat (.list (sTx l)), .dat (.int few)] ∧ TapeAt M a n ∧ n < 800000 ∧ l.Nodup ∧ l.length ≤ 6 ∧ ∀ tp m, TapeSt tp (n + 18) → MoOk l m → R (.dat (dMo m)) (M.set a (.lst tp))
def sp_law_table : DC := fun dvs M R => ∃ a n l, dvs = [.obj a, .dat (.list (sTx l)), .dat (.int 5), .dat (.int 12)] ∧ TapeAt M a n ∧ n < 700000 ∧ l.Nodup ∧ l.length ≤ 6 ∧ (∀ s ∈ l, PortOk s) ∧ ∀ tp t, TapeSt tp (n + 300) → TabOk t → t.2.1 ≤ 5 → R (.dat (dTab t)) (M.set a (.lst tp))
def sp_law_great : DC := fun dvs M R => ∃ a n t, dvs = [.obj a, .dat (dTab t)] ∧ TapeAt M a n ∧ n < 700000 ∧ TabOk t ∧ t.2.1 ≤ 5 ∧ ∀ tp t', TapeSt tp (n + 20) → TabOk t' → R (.dat (dTab t')) (M.set a (.lst tp))
def sp_law_lines : DC := fun dvs M R => ∃ t, dvs = [.dat (dTab t)] ∧ TabOk t ∧ R (.dat (.list (sTx (linesOf t)))) M
def splaw : DC := fun dvs M R => ∃ ns, dvs = [.dat (.list (sIn ns))] ∧ ns.length ≤ 63 ∧ ∀ M', R (.dat (.bool true)) M'
/-! ### the text, the readings (printed by gen.py) -/
def top (i : Nat) : Stmt := PySem.Challenge.pw_mannerports_k43_tables_written_and_read.main.body.getD i (.Pass ⟨0, 0, 0, 0⟩)
abbrev s_is_port : Stmt := top 6
abbrev N_is_port : List Str := ["thing", "sign"]
/-- 0 thing, 1 sign -/
def t_is_port : DTS := (dSeq (dIf (dOr (dNot (dB (dIsi "str" (dVar 0)))) (dNot (dB (dChain (dRel CCmp fun d e => !PySem.W.dataLt e d) (dRel CCmp fun d e => !PySem.W.dataLt e d) (dC (.int 1)) (dCB dLen (dCons (dVar 0) dNil)) (dC (.int 8)))))) (dRet (dC (.bool false))) dNext)
    (dRet (dCB (dAll false) (dCons (dLc (dSigns (dVar 0)) (dgName 1) dYes (d2 (dIn false) (dVar 1) (dC (.str "abcdefghijklmnopqrstuvwxyz"))) [1]) dNil))))
abbrev s_is_whole : Stmt := top 7
abbrev N_is_whole : List Str := ["thing"]
/-- 0 thing -/
def t_is_whole : DTS := (dRet (dAndV (dIsi "int" (dVar 0)) (dNotV (dIsi "bool" (dVar 0)))))
abbrev s_is_thing : Stmt := top 8
abbrev N_is_thing : List Str := ["things", "thing"]
/-- 0 things, 1 thing -/
def t_is_thing : DTS := (dRet (dAndV (dCB spis_whole (dCons (dVar 1) dNil)) (dChain (dRel CCmp fun d e => !PySem.W.dataLt e d) (dRel CCmp PySem.W.dataLt) (dC (.int 0)) (dVar 1) (dVar 0))))
abbrev s_are_unlike_ports : Stmt := top 9
abbrev N_are_unlike_ports : List Str := ["thing", "one"]
/-- 0 thing, 1 one -/
def t_are_unlike_ports : DTS := (dSeq (dIf (dOr (dNot (dB (dIsi "tuple" (dVar 0)))) (dNot (dB (dCB (dAll false) (dCons (dLc (dSrc (dVar 0)) (dgName 1) dYes (dCB spis_port (dCons (dVar 1) dNil)) [1]) dNil))))) (dRet (dC (.bool false))) dNext)
    (dRet (d2 (dRel CEq PyData.eqv) (dLenSet (dVar 0)) (dCB dLen (dCons (dVar 0) dNil)))))
abbrev s_is_rising : Stmt := top 10
abbrev N_is_rising : List Str := ["things", "one", "other"]
/-- 0 things, 1 one, 2 other -/
def t_is_rising : DTS := (dRet (dCB (dAll false) (dCons (dLc (dZip (dCons (dVar 0) (dCons (dSl (dVar 0) (dPart (dC (.int 1))) dNoPart) dNil))) (dgTup 2 (dgCons (dgName 1) (dgCons (dgName 2) dgNil))) dYes (d2 (dRel CCmp PySem.W.dataLt) (dVar 1) (dVar 2)) [1, 2]) dNil)))
abbrev s_is_pair : Stmt := top 15
abbrev N_is_pair : List Str := ["things", "ports", "thing"]
/-- 0 things, 1 ports, 2 thing -/
def t_is_pair : DTS := (dSeq (dIf (dOr (dNot (dB (dIsi "tuple" (dVar 2)))) (dOr (dB (d2 (dRel CEq fun d e => !PyData.eqv d e) (dCB dLen (dCons (dVar 2) dNil)) (dC (.int 2)))) (dOr (dNot (dB (dIsi "str" (d2 dIx (dVar 2) (dC (.int 0)))))) (dB (d2 (dIn true) (d2 dIx (dVar 2) (dC (.int 0))) (dVar 1)))))) (dRet (dC (.bool false))) dNext)
    (dRet (dAndV (dIsi "int" (d2 dIx (dVar 2) (dC (.int 1)))) (dAndV (dNotV (dIsi "bool" (d2 dIx (dVar 2) (dC (.int 1))))) (dChain (dRel CCmp fun d e => !PySem.W.dataLt e d) (dRel CCmp PySem.W.dataLt) (dC (.int 0)) (d2 dIx (dVar 2) (dC (.int 1))) (dVar 0))))))
abbrev s_is_moment_of : Stmt := top 14
abbrev N_is_moment_of : List Str := ["things", "ports", "thing", "one", "pair"]
/-- 0 things, 1 ports, 2 thing, 3 one, 4 pair -/
def t_is_moment_of : DTS := (dSeq (dIf (dOr (dNot (dB (dIsi "tuple" (dVar 2)))) (dNot (dB (dCB (dAll false) (dCons (dLc (dSrc (dVar 2)) (dgName 3) dYes (dCB spis_pair (dCons (dVar 0) (dCons (dVar 1) (dCons (dVar 3) dNil)))) [3]) dNil))))) (dRet (dC (.bool false))) dNext)
    (dRet (dCB spis_rising (dCons (dLc (dSrc (dVar 2)) (dgName 4) dYes (d2 dIx (dVar 4) (dC (.int 0))) [4]) dNil))))
abbrev s_is_table_step : Stmt := top 18
abbrev N_is_table_step : List Str := ["seen", "many", "thing"]
/-- 0 seen, 1 many, 2 thing -/
def t_is_table_step : DTS := (dSeq (dIf (dOr (dNot (dB (dIsi "tuple" (dVar 2)))) (dB (d2 (dRel CEq fun d e => !PyData.eqv d e) (dCB dLen (dCons (dVar 2) dNil)) (dC (.int 3))))) (dRet (dC (.bool false))) dNext)
    (dRet (dAndV (dCB spis_thing (dCons (dVar 1) (dCons (d2 dIx (dVar 2) (dC (.int 0))) dNil))) (dAndV (dCB spis_moment_of (dCons (dC (.int 3)) (dCons (dVar 0) (dCons (d2 dIx (dVar 2) (dC (.int 1))) dNil)))) (dCB spis_thing (dCons (dVar 1) (dCons (d2 dIx (dVar 2) (dC (.int 2))) dNil)))))))
abbrev s_is_table : Stmt := top 19
abbrev N_is_table : List Str := ["thing", "seen", "many", "steps", "step"]
/-- 0 thing, 1 seen, 2 many, 3 steps, 4 step -/
def t_is_table : DTS := (dSeq (dIf (dOr (dNot (dB (dIsi "tuple" (dVar 0)))) (dB (d2 (dRel CEq fun d e => !PyData.eqv d e) (dCB dLen (dCons (dVar 0) dNil)) (dC (.int 3))))) (dRet (dC (.bool false))) dNext)
    (dSeq (dAsg (dVar 0) (dgTup 3 (dgCons (dgName 1) (dgCons (dgName 2) (dgCons (dgName 3) dgNil)))))
    (dSeq (dIf (dOr (dNot (dB (dCB spare_unlike_ports (dCons (dVar 1) dNil)))) (dB (d2 (dRel CCmp fun d e => PySem.W.dataLt e d) (dCB dLen (dCons (dVar 1) dNil)) (dC (.int 6))))) (dRet (dC (.bool false))) dNext)
    (dSeq (dIf (dOr (dNot (dB (dCB spis_whole (dCons (dVar 2) dNil)))) (dOr (dNot (dB (dChain (dRel CCmp fun d e => !PySem.W.dataLt e d) (dRel CCmp fun d e => !PySem.W.dataLt e d) (dC (.int 1)) (dVar 2) (dC (.int 2000))))) (dNot (dB (dIsi "tuple" (dVar 3)))))) (dRet (dC (.bool false))) dNext)
    (dRet (dAndV (dCB (dAll false) (dCons (dLc (dSrc (dVar 3)) (dgName 4) dYes (dCB spis_table_step (dCons (dVar 1) (dCons (dVar 2) (dCons (dVar 4) dNil)))) [4]) dNil)) (dCB spis_rising (dCons (dVar 3) dNil))))))))
abbrev s_step_line : Stmt := top 23
abbrev N_step_line : List Str := ["step", "start", "moment", "to", "words", "port", "thing"]
/-- 0 step, 1 start, 2 moment, 3 to, 4 words, 5 port, 6 thing -/
def t_step_line : DTS := (dSeq (dAsg (dVar 0) (dgTup 3 (dgCons (dgName 1) (dgCons (dgName 2) (dgCons (dgName 3) dgNil)))))
    (dSeq (dAsg (dLst (dCons (dC (.str "step")) (dCons (dCB dStrInt (dCons (dVar 1) dNil)) (dCons (dCB dStrInt (dCons (dVar 3) dNil)) dNil)))) (dgName 4))
    (dSeq (dFor (dSrc (dVar 2)) (dgTup 2 (dgCons (dgName 5) (dgCons (dgName 6) dgNil))) (dAsg (d2 dAdd (dVar 4) (dLst (dCons (dVar 5) (dCons (dCB dStrInt (dCons (dVar 6) dNil)) dNil)))) (dgName 4)))
    (dRet (dM "str" dJoin (dC (.str " ")) (dCons (dVar 4) dNil))))))
abbrev s_table_lines : Stmt := top 24
abbrev N_table_lines : List Str := ["table", "seen", "many", "steps", "step"]
/-- 0 table, 1 seen, 2 many, 3 steps, 4 step -/
def t_table_lines : DTS := (dSeq (dAsg (dVar 0) (dgTup 3 (dgCons (dgName 1) (dgCons (dgName 2) (dgCons (dgName 3) dgNil)))))
    (dRet (d2 dAddN (dLst (dCons (dM "str" dJoin (dC (.str " ")) (dCons (d2 dAdd (dLst (dCons (dC (.str "table")) (dCons (dCB dStrInt (dCons (dVar 2) dNil)) dNil))) (dCB dListOf (dCons (dVar 1) dNil))) dNil)) dNil)) (dLc (dSrc (dVar 3)) (dgName 4) dYes (dCB spstep_line (dCons (dVar 4) dNil)) [4]))))
abbrev s_number_in : Stmt := top 25
abbrev N_number_in : List Str := ["word", "most", "sign"]
/-- 0 word, 1 most, 2 sign -/
def t_number_in : DTS := (dSeq (dIf (dOr (dNot (dB (dChain (dRel CCmp fun d e => !PySem.W.dataLt e d) (dRel CCmp fun d e => !PySem.W.dataLt e d) (dC (.int 1)) (dCB dLen (dCons (dVar 0) dNil)) (dC (.int 4))))) (dNot (dB (dCB (dAll false) (dCons (dLc (dSigns (dVar 0)) (dgName 2) dYes (d2 (dIn false) (dVar 2) (dC (.str "0123456789"))) [2]) dNil))))) (dRet (dC .none)) dNext)
    (dSeq (dIf (dOr (dAnd (dB (d2 (dRel CEq PyData.eqv) (d2 dIx (dVar 0) (dC (.int 0))) (dC (.str "0")))) (dB (d2 (dRel CEq fun d e => !PyData.eqv d e) (dVar 0) (dC (.str "0"))))) (dB (d2 (dRel CCmp fun d e => !PySem.W.dataLt d e) (dCB dIntOf (dCons (dVar 0) dNil)) (dVar 1)))) (dRet (dC .none)) dNext)
    (dRet (dCB dIntOf (dCons (dVar 0) dNil)))))
abbrev s_read_head : Stmt := top 26
abbrev N_read_head : List Str := ["words", "many", "seen"]
/-- 0 words, 1 many, 2 seen -/
def t_read_head : DTS := (dSeq (dIf (dOr (dB (d2 (dRel CEq fun d e => !PyData.eqv d e) (d2 dIx (dVar 0) (dC (.int 0))) (dC (.str "table")))) (dNot (dB (dChain (dRel CCmp fun d e => !PySem.W.dataLt e d) (dRel CCmp fun d e => !PySem.W.dataLt e d) (dC (.int 2)) (dCB dLen (dCons (dVar 0) dNil)) (d2 dAdd (dC (.int 2)) (dC (.int 6))))))) (dRet (dC .none)) dNext)
    (dSeq (dAsg (dCB spnumber_in (dCons (d2 dIx (dVar 0) (dC (.int 1))) (dCons (d2 dAdd (dC (.int 2000)) (dC (.int 1))) dNil))) (dgName 1))
    (dSeq (dAsg (dCB dTupleOf (dCons (dSl (dVar 0) (dPart (dC (.int 2))) dNoPart) dNil)) (dgName 2))
    (dSeq (dIf (dOr (dB (d2 (dIsN false) (dVar 1) (dC .none))) (dOr (dB (d2 (dRel CEq PyData.eqv) (dVar 1) (dC (.int 0)))) (dNot (dB (dCB spare_unlike_ports (dCons (dVar 2) dNil)))))) (dRet (dC .none)) dNext)
    (dRet (dTup (dCons (dVar 2) (dCons (dVar 1) dNil))))))))
abbrev s_read_moment : Stmt := top 27
abbrev N_read_moment : List Str := ["seen", "words", "ports", "things", "word", "port"]
/-- 0 seen, 1 words, 2 ports, 3 things, 4 word, 5 port -/
def t_read_moment : DTS := (dSeq (dAsg (dSl3 (dVar 1) 0 2) (dgName 2))
    (dSeq (dAsg (dLc (dSrc (dSl3 (dVar 1) 1 2)) (dgName 4) dYes (dCB spnumber_in (dCons (dVar 4) (dCons (dC (.int 3)) dNil))) [4]) (dgName 3))
    (dSeq (dIf (dOr (dB (d2 (dRel CEq fun d e => !PyData.eqv d e) (dCB dLen (dCons (dVar 2) dNil)) (dCB dLen (dCons (dVar 3) dNil)))) (dOr (dB (d2 (dIn false) (dC .none) (dVar 3))) (dNot (dB (dCB spis_rising (dCons (dVar 2) dNil)))))) (dRet (dC .none)) dNext)
    (dSeq (dIf (dNot (dB (dCB (dAll false) (dCons (dLc (dSrc (dVar 2)) (dgName 5) dYes (d2 (dIn false) (dVar 5) (dVar 0)) [5]) dNil)))) (dRet (dC .none)) dNext)
    (dRet (dTupZip (dCons (dVar 2) (dCons (dVar 3) dNil))))))))
abbrev s_read_step : Stmt := top 28
abbrev N_read_step : List Str := ["seen", "many", "words", "start", "to", "moment"]
/-- 0 seen, 1 many, 2 words, 3 start, 4 to, 5 moment -/
def t_read_step : DTS := (dSeq (dIf (dOr (dB (d2 (dRel CEq fun d e => !PyData.eqv d e) (d2 dIx (dVar 2) (dC (.int 0))) (dC (.str "step")))) (dB (d2 (dRel CCmp PySem.W.dataLt) (dCB dLen (dCons (dVar 2) dNil)) (dC (.int 3))))) (dRet (dC .none)) dNext)
    (dSeq (dAsg (dCB spnumber_in (dCons (d2 dIx (dVar 2) (dC (.int 1))) (dCons (dVar 1) dNil))) (dgName 3))
    (dSeq (dAsg (dCB spnumber_in (dCons (d2 dIx (dVar 2) (dC (.int 2))) (dCons (dVar 1) dNil))) (dgName 4))
    (dSeq (dAsg (dCB spread_moment (dCons (dVar 0) (dCons (dSl (dVar 2) (dPart (dC (.int 3))) dNoPart) dNil))) (dgName 5))
    (dSeq (dIf (dOr (dB (d2 (dIsN false) (dVar 3) (dC .none))) (dOr (dB (d2 (dIsN false) (dVar 4) (dC .none))) (dB (d2 (dIsN false) (dVar 5) (dC .none))))) (dRet (dC .none)) dNext)
    (dRet (dTup (dCons (dVar 3) (dCons (dVar 5) (dCons (dVar 4) dNil))))))))))
abbrev s_read_table : Stmt := top 29
abbrev N_read_table : List Str := ["lines", "head", "steps", "row", "step"]
/-- 0 lines, 1 head, 2 steps, 3 row, 4 step -/
def t_read_table : DTS := (dSeq (dAsg (dIfE (dB (d2 (dRel CCmp fun d e => PySem.W.dataLt e d) (dCB dLen (dCons (dVar 0) dNil)) (dC (.int 0)))) (dCB spread_head (dCons (dM "str" dSplit (d2 dIx (dVar 0) (dC (.int 0))) (dCons (dC (.str " ")) dNil)) dNil)) (dC .none)) (dgName 1))
    (dSeq (dIf (dB (d2 (dIsN false) (dVar 1) (dC .none))) dNever dNext)
    (dSeq (dAsg (dLstN dNil) (dgName 2))
    (dSeq (dFor (dRange2 (dCons (dC (.int 1)) (dCons (dCB dLen (dCons (dVar 0) dNil)) dNil))) (dgName 3) (dSeq (dAsg (dCB spread_step (dCons (d2 dIx (dVar 1) (dC (.int 0))) (dCons (d2 dIx (dVar 1) (dC (.int 1))) (dCons (dM "str" dSplit (d2 dIx (dVar 0) (dVar 3)) (dCons (dC (.str " ")) dNil)) dNil)))) (dgName 4))
    (dSeq (dIf (dOr (dB (d2 (dIsN false) (dVar 4) (dC .none))) (dAnd (dB (d2 (dRel CEq fun d e => !PyData.eqv d e) (dVar 2) (dLst dNil))) (dB (d2 (dRel CCmp fun d e => !PySem.W.dataLt e d) (dVar 4) (d2 dIx (dVar 2) (dC (.int (-1)))))))) dNever dNext)
    (dDrop (dM "list" dAppend (dVar 2) (dCons (dVar 4) dNil))))))
    (dRet (dTup (dCons (d2 dIx (dVar 1) (dC (.int 0))) (dCons (d2 dIx (dVar 1) (dC (.int 1))) (dCons (dCB dTupleOf (dCons (dVar 2) dNil)) dNil)))))))))
abbrev s__law_tape : Stmt := top 31
abbrev N__law_tape : List Str := ["_law_script"]
/-- 0 _law_script -/
def t__law_tape : DTS := (dRet (dLstN (dCons (dSl (dVar 0) dNoPart (dPart (dC (.int 63)))) (dCons (dC (.int 0)) (dCons (dC (.int 0)) dNil)))))
abbrev s__law_draw : Stmt := top 32
abbrev N__law_draw : List Str := ["_law_tape_here", "_law_many", "_law_found", "_law_spot", "_law_cell", "_law_mixed"]
/-- 0 _law_tape_here, 1 _law_many, 2 _law_found, 3 _law_spot, 4 _law_cell, 5 _law_mixed -/
def t__law_draw : DTS := (dSeq (dIf (dB (d2 (dRel CCmp fun d e => PySem.W.dataLt e d) (d2 dIx (dVar 0) (dC (.int 2))) (dC (.int 0)))) (dSeq (dAsg (d2 (dInt (fun _ j => 0 < j) fun i j => i % j) (d2 dIx (dVar 0) (dC (.int 2))) (dVar 1)) (dgName 2))
    (dSeq (dAsg (d2 (dInt CDiv fun i j => i / j) (d2 dIx (dVar 0) (dC (.int 2))) (dVar 1)) (dgSub (dVar 0) (dC (.int 2))))
    (dRet (dVar 2)))) dNext)
    (dSeq (dAsg (d2 dIx (dVar 0) (dC (.int 1))) (dgName 3))
    (dSeq (dAsg (d2 dAdd (dVar 3) (dC (.int 1))) (dgSub (dVar 0) (dC (.int 1))))
    (dSeq (dAsg (dC (.int 0)) (dgName 4))
    (dSeq (dIf (dB (d2 (dRel CCmp fun d e => PySem.W.dataLt e d) (dCB dLen (dCons (d2 dIx (dVar 0) (dC (.int 0))) dNil)) (dC (.int 0)))) (dAsg (d2 dIx (d2 dIx (dVar 0) (dC (.int 0))) (d2 (dInt (fun _ j => 0 < j) fun i j => i % j) (dVar 3) (dCB dLen (dCons (d2 dIx (dVar 0) (dC (.int 0))) dNil)))) (dgName 4)) dNext)
    (dSeq (dIf (dB (d2 (dRel CCmp fun d e => !PySem.W.dataLt d e) (dVar 4) (d2 (dInt CPow fun i j => i ^ j.toNat) (dC (.int 10)) (dC (.int 18))))) (dSeq (dAsg (d2 (dInt CDiv fun i j => i / j) (dVar 4) (dVar 1)) (dgSub (dVar 0) (dC (.int 2))))
    (dRet (d2 (dInt (fun _ j => 0 < j) fun i j => i % j) (dVar 4) (dVar 1)))) dNext)
    (dSeq (dAsg (d2 (dInt (fun _ j => 0 < j) fun i j => i % j) (d2 (dInt CMul fun i j => i * j) (d2 dAdd (d2 dAdd (d2 dAdd (d2 (dInt (fun _ j => 0 < j) fun i j => i % j) (dVar 4) (dC (.int 1000003))) (d2 (dInt CMul fun i j => i * j) (d2 (dInt CMul fun i j => i * j) (dC (.int 37)) (dVar 3)) (dVar 3))) (d2 (dInt CMul fun i j => i * j) (dC (.int 101)) (dVar 3))) (dC (.int 7))) (dC (.int 48271))) (dC (.int 2147483587))) (dgName 5))
    (dSeq (dAsg (d2 (dInt (fun _ j => 0 < j) fun i j => i % j) (d2 dAdd (d2 (dInt CMul fun i j => i * j) (dVar 5) (dC (.int 69621))) (d2 (dInt CMul fun i j => i * j) (dC (.int 7919)) (dVar 3))) (dC (.int 2147483549))) (dgName 5))
    (dRet (d2 (dInt (fun _ j => 0 < j) fun i j => i % j) (d2 (dInt CDiv fun i j => i / j) (dVar 5) (dC (.int 64))) (dVar 1)))))))))))
abbrev s__law_names : Stmt := top 33
abbrev N__law_names : List Str := ["_law_tape_here", "_law_many", "_law_some", "_law_first", "_law_step", "_law_k"]
/-- 0 _law_tape_here, 1 _law_many, 2 _law_some, 3 _law_first, 4 _law_step, 5 _law_k -/
def t__law_names : DTS := (dSeq (dAsg (dLst (dCons (dC (.str "a")) (dCons (dC (.str "ab")) (dCons (dC (.str "abc")) (dCons (dC (.str "net")) (dCons (dC (.str "end")) (dCons (dC (.str "within")) (dCons (dC (.str "to")) (dCons (dC (.str "table")) (dCons (dC (.str "step")) (dCons (dC (.str "box")) (dCons (dC (.str "port")) (dCons (dC (.str "next")) (dCons (dC (.str "b")) (dCons (dC (.str "zzzzzzzz")) dNil))))))))))))))) (dgName 2))
    (dSeq (dAsg (d2 dAdd (dVar 2) (dLst (dCons (dC (.str "both")) (dCons (dC (.str "place")) (dCons (dC (.str "ba")) dNil))))) (dgName 2))
    (dSeq (dAsg (dCB sp_law_draw (dCons (dVar 0) (dCons (dC (.int 17)) dNil))) (dgName 3))
    (dSeq (dAsg (d2 dAdd (dC (.int 1)) (dCB sp_law_draw (dCons (dVar 0) (dCons (dC (.int 16)) dNil)))) (dgName 4))
    (dRet (dLc (dRange1 (dCons (dVar 1) dNil)) (dgName 5) dYes (d2 dIx (dVar 2) (d2 (dInt (fun _ j => 0 < j) fun i j => i % j) (d2 dAdd (dVar 3) (d2 (dInt CMul fun i j => i * j) (dVar 4) (dVar 5))) (dC (.int 17)))) [5]))))))
abbrev s__law_moment : Stmt := top 34
abbrev N__law_moment : List Str := ["_law_tape_here", "_law_seen", "_law_few", "_law_some", "_law_port"]
/-- 0 _law_tape_here, 1 _law_seen, 2 _law_few, 3 _law_some, 4 _law_port -/
def t__law_moment : DTS := (dSeq (dAsg (dLc (dSrc (dVar 1)) (dgName 4) (dB (d2 (dRel CCmp PySem.W.dataLt) (dCB sp_law_draw (dCons (dVar 0) (dCons (dC (.int 3)) dNil))) (dVar 2))) (dVar 4) [4]) (dgName 3))
    (dRet (dCB dTupleOf (dCons (dCB dSorted (dCons (dLc (dSrc (dVar 3)) (dgName 4) dYes (dTup (dCons (dVar 4) (dCons (d2 (dInt CMul fun i j => i * j) (dCB sp_law_draw (dCons (dVar 0) (dCons (dC (.int 3)) dNil))) (dCB sp_law_draw (dCons (dVar 0) (dCons (dC (.int 2)) dNil)))) dNil))) [4]) dNil)) dNil))))
abbrev s__law_table : Stmt := top 35
abbrev N__law_table : List Str := ["_law_tape_here", "_law_seen", "_law_most", "_law_steps", "_law_many", "_law_found", "_law_few", "_law_k", "_law_start", "_law_step", "_law_stand"]
/-- 0 _law_tape_here, 1 _law_seen, 2 _law_most, 3 _law_steps, 4 _law_many, 5 _law_found, 6 _law_few, 7 _law_k, 8 _law_start, 9 _law_step, 10 _law_stand -/
def t__law_table : DTS := (dSeq (dAsg (d2 dAdd (dC (.int 1)) (dCB sp_law_draw (dCons (dVar 0) (dCons (dVar 2) dNil)))) (dgName 4))
    (dSeq (dAsg (dLstN dNil) (dgName 5))
    (dSeq (dAsg (d2 dAdd (dC (.int 1)) (dCB sp_law_draw (dCons (dVar 0) (dCons (dC (.int 2)) dNil)))) (dgName 6))
    (dSeq (dFor (dRange1 (dCons (dCB sp_law_draw (dCons (dVar 0) (dCons (d2 dAdd (dVar 3) (dC (.int 1))) dNil))) dNil)) (dgName 7) (dSeq (dAsg (dCB sp_law_draw (dCons (dVar 0) (dCons (dVar 4) dNil))) (dgName 8))
    (dSeq (dAsg (dTup (dCons (dVar 8) (dCons (dCB sp_law_moment (dCons (dVar 0) (dCons (dVar 1) (dCons (dVar 6) dNil)))) (dCons (dCB sp_law_draw (dCons (dVar 0) (dCons (dVar 4) dNil))) dNil)))) (dgName 9))
    (dIf (dB (d2 (dIn true) (dVar 9) (dVar 5))) (dDrop (dM "list" dAppend (dVar 5) (dCons (dVar 9) dNil))) dNext))))
    (dSeq (dIf (dB (d2 (dRel CEq PyData.eqv) (dCB sp_law_draw (dCons (dVar 0) (dCons (dC (.int 2)) dNil))) (dC (.int 0)))) (dAsg (d2 dAdd (dVar 5) (dLc (dRange1 (dCons (dVar 4) dNil)) (dgName 10) (dB (d2 (dIn true) (dTup (dCons (dVar 10) (dCons (dTup dNil) (dCons (dVar 10) dNil)))) (dVar 5))) (dTup (dCons (dVar 10) (dCons (dTup dNil) (dCons (dVar 10) dNil)))) [10])) (dgName 5)) dNext)
    (dRet (dTup (dCons (dCB dTupleOf (dCons (dVar 1) dNil)) (dCons (dVar 4) (dCons (dCB dTupleOf (dCons (dCB dSorted (dCons (dVar 5) dNil)) dNil)) dNil))))))))))
abbrev s__law_great : Stmt := top 36
abbrev N__law_great : List Str := ["_law_tape_here", "_law_table_here", "_law_seen", "_law_many", "_law_steps", "_law_numbers", "_law_k", "_law_moved", "_law_start", "_law_moment_here", "_law_to"]
/-- 0 _law_tape_here, 1 _law_table_here, 2 _law_seen, 3 _law_many, 4 _law_steps, 5 _law_numbers, 6 _law_k, 7 _law_moved, 8 _law_start, 9 _law_moment_here, 10 _law_to -/
def t__law_great : DTS := (dSeq (dAsg (dVar 1) (dgTup 3 (dgCons (dgName 2) (dgCons (dgName 3) (dgCons (dgName 4) dgNil)))))
    (dSeq (dAsg (dLstN (dCons (dC (.int 0)) dNil)) (dgName 5))
    (dSeq (dFor (dRange1 (dCons (dVar 3) dNil)) (dgName 6) (dDrop (dM "list" dAppend (dVar 5) (dCons (d2 dAdd (d2 dAdd (d2 dIx (dVar 5) (dC (.int (-1)))) (dC (.int 1))) (dCB sp_law_draw (dCons (dVar 0) (dCons (d2 dIx (dLst (dCons (dC (.int 2)) (dCons (dC (.int 12)) (dCons (dC (.int 120)) dNil)))) (dCB sp_law_draw (dCons (dVar 0) (dCons (dC (.int 3)) dNil)))) dNil)))) dNil))))
    (dSeq (dAsg (dLc (dSrc (dVar 4)) (dgTup 3 (dgCons (dgName 8) (dgCons (dgName 9) (dgCons (dgName 10) dgNil)))) dYes (dTup (dCons (d2 dIx (dVar 5) (dVar 8)) (dCons (dVar 9) (dCons (d2 dIx (dVar 5) (dVar 10)) dNil)))) [8, 9, 10]) (dgName 7))
    (dRet (dTup (dCons (dVar 2) (dCons (d2 dIx (dLst (dCons (d2 dIx (dVar 5) (dC (.int (-1)))) (dCons (dC (.int 2000)) dNil))) (dCB sp_law_draw (dCons (dVar 0) (dCons (dC (.int 2)) dNil)))) (dCons (dCB dTupleOf (dCons (dCB dSorted (dCons (dVar 7) dNil)) dNil)) dNil)))))))))
abbrev s__law_lines : Stmt := top 37
abbrev N__law_lines : List Str := ["_law_table_here", "_law_found", "_law_port", "_law_start", "_law_moment_here", "_law_to", "_law_thing"]
/-- 0 _law_table_here, 1 _law_found, 2 _law_port, 3 _law_start, 4 _law_moment_here, 5 _law_to, 6 _law_thing -/
def t__law_lines : DTS := (dSeq (dAsg (dLstN (dCons (d2 dAdd (d2 dAdd (dC (.str "table ")) (dCB dStrInt (dCons (d2 dIx (dVar 0) (dC (.int 1))) dNil))) (dM "str" dJoin (dC (.str "")) (dCons (dLc (dSrc (d2 dIx (dVar 0) (dC (.int 0)))) (dgName 2) dYes (d2 dAdd (dC (.str " ")) (dVar 2)) [2]) dNil))) dNil)) (dgName 1))
    (dSeq (dFor (dSrc (d2 dIx (dVar 0) (dC (.int 2)))) (dgTup 3 (dgCons (dgName 3) (dgCons (dgName 4) (dgCons (dgName 5) dgNil)))) (dSeq (dDrop (dM "list" dAppend (dVar 1) (dCons (d2 dAdd (d2 dAdd (d2 dAdd (dC (.str "step ")) (dCB dStrInt (dCons (dVar 3) dNil))) (dC (.str " "))) (dCB dStrInt (dCons (dVar 5) dNil))) dNil)))
    (dFor (dSrc (dVar 4)) (dgTup 2 (dgCons (dgName 2) (dgCons (dgName 6) dgNil))) (dAsg (d2 dAdd (d2 dAdd (d2 dAdd (d2 dAdd (d2 dIx (dVar 1) (dC (.int (-1)))) (dC (.str " "))) (dVar 2)) (dC (.str " "))) (dCB dStrInt (dCons (dVar 6) dNil))) (dgSub (dVar 1) (dC (.int (-1))))))))
    (dRet (dVar 1))))
end DL
namespace DL
open PySem PySem.Spec PyProof.Rows L2
/-! ### the readings -/
section
variable {M M' : Sto} {R : DK} {dvs : List DV}
theorem giv {dv : DV} (h : R dv M') : ∃ dv' M'', Wk M dv M' dv' M'' ∧ R dv' M'' := ⟨_, _, .id _ _, h⟩
abbrev Reads (t : DTS) (n : Nat) (sp : DC) : Prop := ∀ dvs M R, sp dvs M R → t { nx := fun _ M' => ∃ dv' M'', Wk M (.dat .none) M' dv' M'' ∧ R dv' M'', rt := fun dv M' => ∃ dv' M'', Wk M dv M' dv' M'' ∧ R dv' M'' } (startD n dvs) M
theorem letter_in {c : Nat} (h : letter c = true) : c ∈ (("abcdefghijklmnopqrstuvwxyz" : String) : Str).cps.toList := by
  have k : ∀ n, n < 123 → letter n = true → n ∈ (("abcdefghijklmnopqrstuvwxyz" : String) : Str).cps.toList := by decide +kernel
  refine k c ?_ h
  unfold letter at h
  have := of_decide_eq_true h
  omega
theorem read_is_port : Reads t_is_port N_is_port.length spis_port := by
  rintro _ M R ⟨s, rfl, ⟨h1, h2, h3⟩, h⟩
  have e1 : ¬ (s.length : Int) < 1 := by omega
  have e2 : ¬ (8 : Int) < (s.length : Int) := by omega
  simp [t_is_port, startD, e1, e2]
  refine ⟨sz_le (by omega), lc_map s.cps.toList (fun c => .dat (.str ⟨#[c]⟩)) (fun _ => .bool true) trivial (sz_le (show s.length ≤ _ by omega)) (fun c hc Q hQ => ?_) ⟨_, rfl, all_true (giv h)⟩⟩
  have := letter_in (List.all_eq_true.mp h3 c hc)
  simp [wipeD, this]
  exact hQ
theorem read_is_whole : Reads t_is_whole N_is_whole.length spis_whole := by
  rintro _ M R ⟨i, rfl, h⟩
  simp [t_is_whole, startD]
  exact giv h
theorem read_is_thing : Reads t_is_thing N_is_thing.length spis_thing := by
  rintro _ M R ⟨n, i, rfl, h1, h2, h⟩
  have e1 : ¬ i < 0 := by omega
  simp [t_is_thing, startD, spis_whole, e1, h2]
  exact giv h
theorem read_are_unlike_ports : Reads t_are_unlike_ports N_are_unlike_ports.length spare_unlike_ports := by
  rintro _ M R ⟨l, rfl, h1, h2, h3, h⟩
  simp [t_are_unlike_ports, startD, sTx]
  refine lc_map l (fun s => .dat (.str s)) (fun _ => .bool true) (by simp) (sz_le (by omega)) (fun c hc Q hQ => ?_) ⟨_, rfl, all_true ?_⟩
  · simp [wipeD]
    exact ⟨c, rfl, h1 c hc, hQ⟩
  · simp
    refine ⟨l, rfl, by omega, ?_⟩
    rw [uniq_nodup (acc := []) (by simpa using h2)]
    simp
    exact giv h
theorem read_is_rising : Reads t_is_rising N_is_rising.length spis_rising := by
  rintro _ M R ⟨ds, hd, h1, h2, h⟩
  have key : ∀ {fin : List DV → Sto → Prop} {x : DV} {S : Sto → Prop}, S M → fin ((((ds.zip ds.tail).map fun _ => PyData.bool true)).map DV.dat) M → LcInv [1, 2] (dgTup 2 (dgCons (dgName 1) (dgCons (dgName 2) dgNil))) dYes (d2 (dRel CCmp PySem.W.dataLt) (dVar 1) (dVar 2)) [some x, none, none] (pairsD ds ds.tail) S M fin := fun hS hf => by
    have hz : (ds.zip ds.tail).length ≤ sizeLine := sz_le (by rw [List.length_zip]; omega)
    refine lc_map (ds.zip ds.tail) (fun p => .dat (.tuple [p.1, p.2])) (fun _ => .bool true) hS hz (fun p hp Q hQ => ?_) hf
    obtain ⟨q1, q2⟩ := h2 p hp
    simp [wipeD, q1, q2]
    exact hQ
  have e1 : cutD ds (some 1) none = ds.tail := by rw [show (1 : Int) = ((1 : Nat) : Int) from rfl, cut_from ds 1]; simp
  rcases hd with rfl | rfl
  · simp [t_is_rising, startD, e1]
    exact ⟨_, _, ⟨rfl, rfl⟩, ds, rfl, ds.tail, rfl, rfl, key ⟨rfl, rfl⟩ ⟨_, rfl, all_true (giv h)⟩⟩
  · simp [t_is_rising, startD, e1]
    exact ⟨_, _, ⟨rfl, rfl⟩, ds, rfl, ds.tail, rfl, rfl, key ⟨rfl, rfl⟩ ⟨_, rfl, all_true (giv h)⟩⟩
theorem plain_sTx (l : List Str) : PyData.plainAll (sTx l) = true := by
  induction l with
  | nil => rfl
  | cons x l ih =>
    show (PyData.plain (.str x) && PyData.plainAll (sTx l)) = true
    rw [ih]; rfl
theorem any_sTx {l : List Str} {s : Str} : ((sTx l).any fun e => PyData.eqv e (.str s)) = decide (s ∈ l) := by
  induction l with
  | nil => rfl
  | cons x l ih =>
    show (PyData.eqv (.str x) (.str s) || ((sTx l).any fun e => PyData.eqv e (.str s))) = _
    rw [ih, eqv_s]
    by_cases h : x = s
    · subst h; simp
    · have h' : ¬ s = x := fun e => h e.symm
      simp [h, h']
theorem read_is_pair : Reads t_is_pair N_is_pair.length spis_pair := by
  rintro _ M R ⟨n, l, s, i, rfl, h1, h2, h3, h⟩
  have e1 : ¬ i < 0 := by omega
  simp [t_is_pair, startD, any_sTx, h1, e1, h3, plain_sTx, Pl.str]
  exact giv h
theorem read_is_moment_of : Reads t_is_moment_of N_is_moment_of.length spis_moment_of := by
  rintro _ M R ⟨l, m, rfl, ⟨h1, h2, h3⟩, h⟩
  have hz : m.length ≤ sizeLine := sz_le (by omega)
  simp [t_is_moment_of, startD, dMo]
  refine lc_map m (fun p => .dat (dPair p)) (fun _ => .bool true) (by simp) hz (fun p hp Q hQ => ?_) ⟨_, rfl, all_true ?_⟩
  · simp [wipeD]
    obtain ⟨q1, q2, q3⟩ := h1 p hp
    exact ⟨3, l, p.1, p.2, rfl, q1, q2, q3, hQ⟩
  · simp
    refine lc_map m (fun p => .dat (dPair p)) (fun p => .str p.1) (by simp) hz (fun p hp Q hQ => ?_) ⟨_, rfl, ?_⟩
    · simp [wipeD, dPair]
      exact hQ
    · refine ⟨_, .inl rfl, by simp; omega, ?_, giv h⟩
      have := h2
      unfold sTx at this
      rw [List.map_map] at this
      exact this
theorem read_is_table_step : Reads t_is_table_step N_is_table_step.length spis_table_step := by
  rintro _ M R ⟨l, n, s, rfl, ⟨h1, h2, h3, h4, h5⟩, h⟩
  simp [t_is_table_step, startD, dStp]
  refine ⟨n, s.1, rfl, h1, h2, ?_⟩
  simp
  refine ⟨l, s.2.1, rfl, h3, ?_⟩
  simp
  exact ⟨n, s.2.2, rfl, h4, h5, giv h⟩
end
end DL
namespace DL
open PySem PySem.Spec PyProof.Rows L2
def numGood (n : Nat) : Bool := let s := numT (n : Int); decide (1 ≤ s.length) && decide (s.length ≤ 4) && s.cps.toList.all (fun c => decide (48 ≤ c ∧ c ≤ 57)) && (decide (s.cps.toList.head? ≠ some 48) || decide (s = numT 0)) && decide (PySem.intText? s = some (n : Int))
theorem numGood_all : ∀ n, n < 2001 → numGood n = true := by decide +kernel
end DL
namespace DL
open PySem PySem.Spec PyProof.Rows L2
section
variable {M M' : Sto} {R : DK} {dvs : List DV} {env : Env} {DD : DEnds}
@[simp] theorem dats0 : dats [] = some [] := rfl
@[simp] theorem dats1 {a : PyData} : dats [.dat a] = some [a] := rfl
@[simp] theorem dats2 {a b : PyData} : dats [.dat a, .dat b] = some [a, b] := rfl
@[simp] theorem dats3 {a b c : PyData} : dats [.dat a, .dat b, .dat c] = some [a, b, c] := rfl
theorem for_seq {α : Type} {xs : List α} {d : α → DV} {i0 : Nat} {x0 : DV} {g : DG} {tb : DTS} (he : env[i0]? = some (some x0)) (hs : seqOf M x0 = some (xs.map d)) (Pv : Nat → Env → Sto → Prop) (p0 : Pv 0 env M) (keep : ∀ i env M', Pv i env M' → seqOf M' x0 = seqOf M x0)
    (step : ∀ i x env M', xs[i]? = some x → Pv i env M' → g (d x) env M' fun env2 M2 => tb { DD with nx := Pv (i + 1), ct := Pv (i + 1), bk := DD.nx } env2 M2) (done : ∀ env M', Pv xs.length env M' → DD.nx env M') : dFor (dSrc (dVar i0)) g tb DD env M := by
  refine ⟨x0, he, xs.map d, hs, Pv, p0, fun i env M' _ p => (keep i env M' p).trans hs, fun i x env M' e p => ?_, fun env M' p => done env M' (by rw [List.length_map] at p; exact p)⟩
  rw [List.getElem?_map] at e
  obtain ⟨y, e1, rfl⟩ := Option.map_eq_some_iff.mp e
  exact step i y env M' e1 p
theorem range_at {lo : Int} {n i : Nat} {x : DV} (h : (rangeL lo n)[i]? = some x) : i < n ∧ x = .dat (.int (lo + i)) := by
  unfold rangeL at h
  rw [List.getElem?_map] at h
  obtain ⟨j, h1, rfl⟩ := Option.map_eq_some_iff.mp h
  obtain ⟨h2, h3⟩ := List.getElem?_eq_some_iff.mp h1
  simp at h2 h3
  subst h3
  exact ⟨h2, rfl⟩
theorem inv_range {lo : Int} {n : Nat} {g : DG} {tb : DTS} (Pv : Nat → Env → Sto → Prop) (p0 : Pv 0 env M) (step : ∀ i env M', i < n → Pv i env M' → g (.dat (.int (lo + i))) env M' fun env2 M2 => tb { DD with nx := Pv (i + 1), ct := Pv (i + 1), bk := DD.nx } env2 M2)
    (done : ∀ env M', Pv n env M' → DD.nx env M') : ∃ Pv : Nat → Env → Sto → Prop, Pv 0 env M ∧ (∀ i env M, i ≤ (rangeL lo n).length → Pv i env M → True) ∧
  (∀ i x env M, (rangeL lo n)[i]? = some x → Pv i env M → g x env M fun env2 M2 => tb { DD with nx := Pv (i + 1), ct := Pv (i + 1), bk := DD.nx } env2 M2) ∧ ∀ env M, Pv (rangeL lo n).length env M → DD.nx env M :=
  ⟨Pv, p0, fun _ _ _ _ _ => trivial, fun i x env M' e p => by
    obtain ⟨h1, rfl⟩ := range_at e
    exact step i env M' h1 p, fun env M' p => done env M' (by simpa [rangeL] using p)⟩
/-- a number's text -/
structure NumOk (i : Int) : Prop where
  lo : 1 ≤ (numT i).length
  hi : (numT i).length ≤ 4
  fig : ∀ c ∈ (numT i).cps.toList, 48 ≤ c ∧ c ≤ 57
  zero : (numT i).cps.toList.head? = some 48 → numT i = numT 0
  back : PySem.intText? (numT i) = some i
  log : i.natAbs.log2 < 1920
theorem numOk {i : Int} (h0 : 0 ≤ i) (h1 : i ≤ 2000) : NumOk i := by
  obtain ⟨n, rfl⟩ := Int.eq_ofNat_of_zero_le h0
  have h := numGood_all n (by omega)
  unfold numGood at h
  simp only [Bool.and_eq_true, Bool.or_eq_true, decide_eq_true_eq, List.all_eq_true] at h
  obtain ⟨⟨⟨⟨a, b⟩, c⟩, d⟩, e⟩ := h
  refine ⟨a, b, c, fun q => d.elim (fun z => absurd q z) id, e, ?_⟩
  show (n : Nat).log2 < 1920
  have : n.log2 ≤ 11 := by
    by_cases z : n = 0
    · subst z; decide
    · have := (Nat.log2_lt z (k := 12)).mpr (by omega)
      omega
  omega
@[simp] theorem r_str {i : Int} : dStrInt [.dat (.int i)] M R = (i.natAbs.log2 < 1920 ∧ R (.dat (.str (numT i))) M) := by
  apply propext
  constructor
  · rintro ⟨j, e, h⟩
    cases e; exact h
  · intro h; exact ⟨i, rfl, h⟩
@[simp] theorem r_intof {a : Str} : dIntOf [.dat (.str a)] M R = ∃ n, PySem.intText? a = some n ∧ a.length ≤ 640 ∧ R (.dat (.int n)) M := propext Iff.rfl
@[simp] theorem tyok_s {z : Str} : tyOk "str" (.dat (.str z)) M = True := eq_true (.inl ⟨rfl, z, rfl⟩)
theorem join_r {y : Str} {ys : List Str} (hz : (ys.map (·.length)).sum + ys.length * y.length ≤ 16777216) (h : R (.dat (.str (Txt.join y ys))) M) : dJoin (.dat (.str y)) [.dat (.list (sTx ys))] M R :=
  ⟨y, _, _, ys, rfl, rfl, rfl, by simp [sTx], hz, h⟩
theorem split_r {y z : Str} (hy : (y.length == 0) = false) (hz : z.length + 2 ≤ sizeLine) (h : R (.dat (.list (sTx (Txt.split z y)))) M) : dSplit (.dat (.str z)) [.dat (.str y)] M R := ⟨z, y, rfl, rfl, hy, hz, h⟩
@[simp] theorem r_addl2 {a b : List PyData} : dAdd (.dat (.list a)) (.dat (.list b)) M R = (a.length + b.length ≤ sizeLine ∧ R (.dat (.list (a ++ b))) M) := r_addl
theorem moWords_len (m : Mom) : (moWords m).length = 2 * m.length := by
  induction m with
  | nil => rfl
  | cons a m ih =>
    show ([a.1, numT a.2] ++ moWords m).length = _
    simp [ih]; omega
theorem moWords_mem {w : Str} {m : Mom} (h : w ∈ moWords m) : ∃ p ∈ m, w = p.1 ∨ w = numT p.2 := by
  obtain ⟨p, hp, hw⟩ := List.mem_flatMap.mp h
  exact ⟨p, hp, by simpa using hw⟩
theorem sum_le {α : Type} {f : α → Nat} {k : Nat} : ∀ {l : List α}, (∀ x ∈ l, f x ≤ k) → (l.map f).sum ≤ l.length * k
  | [], _ => by simp
  | x :: l, h => by
    have := sum_le (l := l) fun y hy => h y (List.mem_cons_of_mem _ hy)
    have := h x List.mem_cons_self
    simp [Nat.add_mul]
    omega
theorem join_len {ys : List Str} (h : ∀ y ∈ ys, y.length ≤ 100000) (hl : ys.length ≤ 100) : (ys.map (·.length)).sum + ys.length * ((" " : String) : Str).length ≤ 16777216 := by
  have h1 : (ys.map (fun y => y.length)).sum ≤ ys.length * 100000 := sum_le h
  have e : ((" " : String) : Str).length = 1 := by decide +kernel
  rw [e]
  have : ys.length * 100000 ≤ 100 * 100000 := Nat.mul_le_mul_right _ hl
  omega
@[simp] theorem r_listof_t {ds : List PyData} : dListOf [.dat (.tuple ds)] M R = R (.dat (.list ds)) M := by
  apply propext
  constructor
  · rintro ⟨x, xs, es, e, e1, e2, h⟩
    cases e; cases e1
    rw [dats_map] at e2; cases e2; exact h
  · intro h; exact ⟨_, _, ds, rfl, rfl, dats_map ds, h⟩
@[simp] theorem r_listof_l {ds : List PyData} : dListOf [.dat (.list ds)] M R = R (.dat (.list ds)) M := by
  apply propext
  constructor
  · rintro ⟨x, xs, es, e, e1, e2, h⟩
    cases e; cases e1
    rw [dats_map] at e2; cases e2; exact h
  · intro h; exact ⟨_, _, ds, rfl, rfl, dats_map ds, h⟩
@[simp] theorem r_tupof_l {ds : List PyData} : dTupleOf [.dat (.list ds)] M R = R (.dat (.tuple ds)) M := by
  apply propext
  constructor
  · rintro ⟨x, xs, es, e, e1, e2, h⟩
    cases e; cases e1
    rw [dats_map] at e2; cases e2; exact h
  · intro h; exact ⟨_, _, ds, rfl, rfl, dats_map ds, h⟩
@[simp] theorem r_tupof_t {ds : List PyData} : dTupleOf [.dat (.tuple ds)] M R = R (.dat (.tuple ds)) M := by
  apply propext
  constructor
  · rintro ⟨x, xs, es, e, e1, e2, h⟩
    cases e; cases e1
    rw [dats_map] at e2; cases e2; exact h
  · intro h; exact ⟨_, _, ds, rfl, rfl, dats_map ds, h⟩
theorem r_tupof_o {a : Addr} {ds : List PyData} (e : M a = some (.lst (ds.map DV.dat))) (h : R (.dat (.tuple ds)) M) : dTupleOf [.obj a] M R := ⟨_, _, ds, rfl, by simp [lstOf, e], dats_map ds, h⟩
theorem read_step_line : Reads t_step_line N_step_line.length spstep_line := by
  rintro _ M R ⟨l, n, s, rfl, ⟨h1, h2, ⟨h3, h4, h5⟩, h6, h7⟩, hp, hn, h⟩
  have a1 := numOk h1 (by omega)
  have a2 := numOk h6 (by omega)
  simp [t_step_line, startD, dStp, dMo, a1.log, a2.log]
  refine ⟨sz_le (by decide), for_seq (xs := s.2.1) (d := fun p => .dat (dPair p)) (i0 := 2) rfl (by simp [dMo]) (fun i env M' => M' = M ∧ ∃ x y, env = [some (.dat (dStp s)), some (.dat (.int s.1)), some (.dat (dMo s.2.1)), some (.dat (.int s.2.2)), some (.dat (.list (sTx ("step" :: numT s.1 :: numT s.2.2 :: moWords (s.2.1.take i))))), x, y]) ?_ ?_ ?_ ?_⟩
  · exact ⟨rfl, _, _, rfl⟩
  · rintro i env M' ⟨rfl, _⟩
    rfl
  · rintro i p env M' e1 ⟨rfl, y, z, rfl⟩
    obtain ⟨q1, q2, q3⟩ := h3 p (List.mem_of_getElem? e1)
    have a3 := numOk q2 (by omega)
    have hl : (moWords (s.2.1.take i)).length ≤ 12 := by
      rw [moWords_len, List.length_take]
      omega
    have e4 : s.2.1.take (i + 1) = s.2.1.take i ++ [p] := by rw [List.take_add_one, e1]; rfl
    simp [dPair, a3.log, sTx]
    refine ⟨sz_le (by omega), sz_le (by omega), ?_⟩
    rw [e4]
    simp [moWords]
  · rintro env M' ⟨rfl, y, z, rfl⟩
    simp
    refine join_r ?_ (giv ?_)
    · refine join_len (fun w hw => ?_) ?_
      · have hw : w = "step" ∨ w = numT s.1 ∨ w = numT s.2.2 ∨ w ∈ moWords s.2.1 := by simpa [List.take_length] using hw
        rcases hw with rfl | rfl | rfl | hw
        · decide +kernel
        · have := a1.hi; omega
        · have := a2.hi; omega
        · obtain ⟨p, hp', rfl | rfl⟩ := moWords_mem hw
          · have := (hp _ (h3 p hp').1).2.1; omega
          · have := (numOk (h3 p hp').2.1 (by have := (h3 p hp').2.2; omega)).hi; omega
      · simp [moWords_len, List.take_length]; omega
    · exact h
/-- words that are no longer than a line's, without a blank -/
def Wd (w : Str) : Prop := w.length ≤ 100 ∧ 32 ∉ w.cps.toList
theorem wd_num {i : Int} (h0 : 0 ≤ i) (h1 : i ≤ 2000) : Wd (numT i) := by
  have a := numOk h0 h1
  exact ⟨by have := a.hi; omega, fun h => by have := a.fig _ h; omega⟩
theorem wd_port {s : Str} (h : PortOk s) : Wd s := by
  obtain ⟨h1, h2, h3⟩ := h
  refine ⟨by omega, fun h => ?_⟩
  have := List.all_eq_true.mp h3 _ h
  revert this
  decide
theorem wd_lit : Wd "step" ∧ Wd "table" := by unfold Wd; decide +kernel
theorem wd_mo {l : List Str} {m : Mom} (h : MoOk l m) (hp : ∀ p ∈ l, PortOk p) {w : Str} (hw : w ∈ moWords m) : Wd w := by
  obtain ⟨p, hp', rfl | rfl⟩ := moWords_mem hw
  · exact wd_port (hp _ (h.1 p hp').1)
  · exact wd_num (h.1 p hp').2.1 (by have := (h.1 p hp').2.2; omega)
theorem wd_stp {l : List Str} {n : Int} {s : Stp} (h : StpOk l n s) (hp : ∀ p ∈ l, PortOk p) (hn : n ≤ 2000) {w : Str} (hw : w ∈ stpWords s) : Wd w := by
  obtain ⟨h1, h2, h3, h4, h5⟩ := h
  have hw : w = "step" ∨ w = numT s.1 ∨ w = numT s.2.2 ∨ w ∈ moWords s.2.1 := by simpa [stpWords] using hw
  rcases hw with rfl | rfl | rfl | hw
  · exact wd_lit.1
  · exact wd_num h1 (by omega)
  · exact wd_num h4 (by omega)
  · exact wd_mo h3 hp hw
theorem wd_head {t : Tab} (h : TabOk t) {w : Str} (hw : w ∈ headWords t) : Wd w := by
  have hw : w = "table" ∨ w = numT t.2.1 ∨ w ∈ t.1 := by simpa [headWords] using hw
  rcases hw with rfl | rfl | hw
  · exact wd_lit.2
  · exact wd_num (by have := h.lo; omega) h.hi
  · exact wd_port (h.ports _ hw)
theorem stpWords_len (s : Stp) : (stpWords s).length = 3 + 2 * s.2.1.length := by
  unfold stpWords
  simp [moWords_len]; omega
/-- the read-back of words -/
theorem words_back {ws : List Str} (hne : ws ≠ []) (h : ∀ w ∈ ws, Wd w) : Txt.split (Txt.join (" " : Str) ws) (" " : Str) = ws :=
  TL.split_join (s := 32) (S := []) (by decide +kernel) (by decide +kernel) hne fun p hp => (h p hp).2
theorem join_size {ws : List Str} (h : ∀ w ∈ ws, Wd w) (hl : ws.length ≤ 100) : (Txt.join (" " : Str) ws).length + 2 ≤ sizeLine := by
  have h1 : (ws.map (fun y => y.length)).sum ≤ ws.length * 100 := sum_le fun w hw => (h w hw).1
  have h2 : (Txt.join (" " : Str) ws).length ≤ (ws.map (fun y => y.length)).sum + ws.length := by
    rw [TL.join_eq]
    clear h h1 hl
    have e1 : ((" " : String) : Str).length = 1 := by decide +kernel
    induction ws with
    | nil => decide
    | cons w ws ih =>
      cases ws with
      | nil => show w.length ≤ _; simp
      | cons v vs =>
        show (w ++ (" " : Str) ++ Str.join (" " : Str) (v :: vs)).length ≤ _
        have la : ∀ a b : Str, (a ++ b).length = a.length + b.length := fun a b => by
          show (a.cps ++ b.cps).size = _
          rw [Array.size_append]; rfl
        rw [la, la, e1]
        simp at ih ⊢
        omega
  have : ws.length * 100 ≤ 100 * 100 := Nat.mul_le_mul_right _ hl
  exact sz_le (by omega)
theorem read_table_lines : Reads t_table_lines N_table_lines.length sptable_lines := by
  rintro _ M R ⟨t, rfl, ok, h⟩
  have a1 := numOk (by have := ok.lo; omega) ok.hi
  have f := ok.few
  simp [t_table_lines, startD, dTab, a1.log]
  have hs := ok.short
  refine ⟨sz_le (by decide), sz_le (by simp [sTx]; omega), ?_⟩
  refine join_r (ys := headWords t) (join_len (fun w hw => by have := (wd_head ok hw).1; omega) (by simp [headWords]; omega)) ?_
  simp
  refine ⟨sz_le (by decide), lc_map t.2.2 (fun p => .dat (dStp p)) (fun s => .str (lineOf s)) trivial (sz_le (by omega)) (fun p hp Q hQ => ?_) ⟨_, rfl, ?_⟩⟩
  · simp [wipeD]
    exact ⟨t.1, t.2.1, p, rfl, ok.steps p hp, ok.ports, ok.hi, hQ⟩
  · refine ⟨_, _, rfl, rfl, sz_le (by simp; omega), fun p hp => ⟨_, _, .id _ _, ?_⟩⟩
    have := h p hp
    simp [sTx, linesOf] at this ⊢
    exact this
theorem read_number_in : Reads t_number_in N_number_in.length spnumber_in := by
  rintro _ M R ⟨i, n, rfl, h0, h1, h2, h⟩
  have a := numOk h0 h2
  have lo := a.lo
  have hi := a.hi
  have e1 : ¬ ((numT i).length : Int) < 1 := by omega
  have e2 : ¬ (4 : Int) < ((numT i).length : Int) := by omega
  simp [t_number_in, startD, e1, e2]
  have fin : ∃ m, PySem.intText? (numT i) = some m ∧ (numT i).length ≤ 640 ∧ if n ≤ m then ∃ dv' M'', Wk M (DV.dat PyData.none) M dv' M'' ∧ R dv' M'' else ∃ m, PySem.intText? (numT i) = some m ∧ (numT i).length ≤ 640 ∧ ∃ dv' M'', Wk M (DV.dat (PyData.int m)) M dv' M'' ∧ R dv' M'' :=
    ⟨i, a.back, by omega, by rw [if_neg (by omega)]; exact ⟨i, a.back, by omega, giv h⟩⟩
  refine ⟨sz_le (by omega), lc_map (numT i).cps.toList (fun c => .dat (.str ⟨#[c]⟩)) (fun _ => .bool true) trivial (sz_le (show (numT i).length ≤ _ by omega)) (fun c hc Q hQ => ?_) ⟨_, rfl, all_true ?_⟩⟩
  · have k : ∀ m, m < 58 → 48 ≤ m → m ∈ (("0123456789" : String) : Str).cps.toList := by decide +kernel
    obtain ⟨q1, q2⟩ := a.fig c hc
    have := k c (by omega) q1
    simp [wipeD, this]
    exact hQ
  · obtain ⟨c, r, e⟩ : ∃ c r, (numT i).cps.toList = c :: r := by
      cases e : (numT i).cps.toList with
      | nil =>
        have : (numT i).cps.toList.length = 0 := by rw [e]; rfl
        have : (numT i).length = 0 := this
        omega
      | cons c r => exact ⟨c, r, rfl⟩
    simp only [r_B, if_true]
    refine ⟨sz_le (by omega), c, by rw [e]; exact at0, ?_⟩
    by_cases hc : ({ cps := #[c] } : Str) = Str.ofString "0"
    · rw [if_pos hc]
      have : c = 48 := by
        have h0 : (Str.ofString "0").cps = #[48] := by decide +kernel
        have h1 := congrArg Str.cps hc
        rw [h0] at h1
        simpa using h1
      subst this
      have z : numT i = Str.ofString "0" := (a.zero (by rw [e]; rfl)).trans (by decide +kernel)
      rw [if_pos z]
      exact fin
    · rw [if_neg hc]
      exact fin
theorem read_read_head : Reads t_read_head N_read_head.length spread_head := by
  rintro _ M R ⟨t, rfl, ok, h⟩
  have f := ok.few
  have e1 : ¬ ((t.1.length : Int) + 1 + 1) < 2 := by omega
  have e2 : ¬ (8 : Int) < (t.1.length : Int) + 1 + 1 := by omega
  have lo := ok.lo
  have e3 : ¬ t.2.1 = 0 := by omega
  have e4 : ∀ a b : PyData, cutD (a :: b :: t.1.map PyData.str) (some 2) none = t.1.map PyData.str := fun a b => cut_from (a :: b :: t.1.map PyData.str) 2
  simp [t_read_head, startD, sTx, headWords, e1, e2]
  refine ⟨t.2.1, 2001, rfl, by omega, by have := ok.hi; omega, ok.hi, ?_⟩
  simp [e4, isNon, e3]
  refine ⟨t.1, rfl, ok.ports, ok.nodup, by omega, ?_⟩
  simp
  exact ⟨sz_le (by decide), giv h⟩
theorem pick_map {α β : Type} {f : α → β} {xs : List α} {lo hi st : Option Int} : pickG (xs.map f) lo hi st = (pickG xs lo hi st).map f := by
  unfold pickG
  rw [List.length_map, List.map_filterMap]
  congr 1
  funext i
  rw [List.getElem?_map]
theorem sl3_r {i : Nat} {ds : List PyData} {a b : Int} (he : env[i]? = some (some (.dat (.list ds)))) (hz : ds.length ≤ 1000) (hz2 : (pickG ds (some a) none (some b)).length ≤ 1000) (h : R (.dat (.list (pickG ds (some a) none (some b)))) M) : dSl3 (dVar i) a b env M R :=
  ⟨_, he, _, _, rfl, by rw [List.length_map]; exact hz, by rw [pick_map]; exact dats_map _, sz_le (by omega), h⟩
theorem two_at {α : Type} (f g : α → Str) : ∀ (m : List α) (k : Nat), (m.flatMap fun p => [f p, g p])[2 * k]? = (m[k]?).map f ∧ (m.flatMap fun p => [f p, g p])[2 * k + 1]? = (m[k]?).map g
  | [], k => by simp
  | p :: m, 0 => by
    constructor <;> rfl
  | p :: m, k + 1 => by
    obtain ⟨h1, h2⟩ := two_at f g m k
    constructor
    · show (f p :: g p :: m.flatMap _)[2 * k + 1 + 1]? = _
      simp only [List.getElem?_cons_succ]
      exact h1
    · show (f p :: g p :: m.flatMap _)[2 * k + 1 + 1 + 1]? = _
      simp only [List.getElem?_cons_succ]
      exact h2
theorem range_pick {α β : Type} (m : List α) (f : α → β) : (List.range m.length).filterMap (fun k => (m[k]?).map f) = m.map f := by
  induction m with
  | nil => rfl
  | cons a m ih =>
    rw [List.length_cons, List.range_succ_eq_map, List.filterMap_cons]
    simp only [List.getElem?_cons_zero, Option.map_some, List.map_cons, List.filterMap_map]
    congr 1
theorem two_len {α : Type} (f g : α → Str) : ∀ m : List α, (m.flatMap fun p => [f p, g p]).length = 2 * m.length
  | [] => rfl
  | a :: m => by
    show (f a :: g a :: m.flatMap fun p => [f p, g p]).length = _
    rw [List.length_cons, List.length_cons, two_len f g m, List.length_cons]
    omega
theorem pick_even {α : Type} (f g : α → Str) (m : List α) : pickG (m.flatMap fun p => [f p, g p]) (some 0) none (some 2) = m.map f := by
  have hl : (m.flatMap fun p => [f p, g p]).length = 2 * m.length := by
    exact two_len f g m
  have e : PySem.sliceRange (sliceBounds (some 0) none (some 2) (2 * m.length)).1 (sliceBounds (some 0) none (some 2) (2 * m.length)).2.1 (sliceBounds (some 0) none (some 2) (2 * m.length)).2.2 = (List.range m.length).map fun k => 2 * k := by
    unfold sliceBounds PySem.sliceRange
    have e1 : max 0 (min (0 : Int) ((2 * m.length : Nat) : Int)) = 0 := by omega
    simp only [Option.getD_some, show (2 : Int) > 0 from by decide, if_true, show ¬ (0 : Int) < 0 from by decide, if_false, e1]
    by_cases h : (0 : Int) < ((2 * m.length : Nat) : Int)
    · rw [if_pos h]
      have : ((((2 * m.length : Nat) : Int) - 0 + 2 - 1) / 2).toNat = m.length := by omega
      rw [this]
      apply List.map_congr_left
      intro k _
      omega
    · rw [if_neg h]
      have : m.length = 0 := by omega
      rw [this]; rfl
  unfold pickG
  rw [hl, e, List.filterMap_map, ← range_pick m f]
  congr 1
  funext k
  exact (two_at f g m k).1
theorem pick_odd {α : Type} (f g : α → Str) (m : List α) : pickG (m.flatMap fun p => [f p, g p]) (some 1) none (some 2) = m.map g := by
  have hl : (m.flatMap fun p => [f p, g p]).length = 2 * m.length := by
    exact two_len f g m
  by_cases h0 : m.length = 0
  · have : m = [] := List.length_eq_zero_iff.mp h0
    subst this; rfl
  have e : PySem.sliceRange (sliceBounds (some 1) none (some 2) (2 * m.length)).1 (sliceBounds (some 1) none (some 2) (2 * m.length)).2.1 (sliceBounds (some 1) none (some 2) (2 * m.length)).2.2 = (List.range m.length).map fun k => 2 * k + 1 := by
    unfold sliceBounds PySem.sliceRange
    have e1 : max 0 (min (1 : Int) ((2 * m.length : Nat) : Int)) = 1 := by omega
    simp only [Option.getD_some, show (2 : Int) > 0 from by decide, if_true, show ¬ (1 : Int) < 0 from by decide, if_false, e1]
    rw [if_pos (by omega : (1 : Int) < ((2 * m.length : Nat) : Int))]
    have : ((((2 * m.length : Nat) : Int) - 1 + 2 - 1) / 2).toNat = m.length := by omega
    rw [this]
    apply List.map_congr_left
    intro k _
    omega
  unfold pickG
  rw [hl, e, List.filterMap_map, ← range_pick m g]
  congr 1
  funext k
  exact (two_at f g m k).2
theorem no_none (m : Mom) : ¬ ∃ x, x ∈ (m.map fun p => PyData.int p.2) ∧ PyData.eqv x PyData.none = true := by
  rintro ⟨x, hx, e⟩
  obtain ⟨p, _, rfl⟩ := List.mem_map.mp hx
  cases e
theorem plain_ints {α : Type} (f : α → Int) (m : List α) : PyData.plainAll (m.map fun p => PyData.int (f p)) = true := by
  induction m with
  | nil => rfl
  | cons a m ih => show (PyData.plain (.int _) && PyData.plainAll (m.map fun p => PyData.int (f p))) = true; rw [ih]; rfl
theorem zip_two {α : Type} (f g : α → PyData) (m : List α) : (((m.map f).zip (m.map g)).map fun p => PyData.tuple [p.1, p.2]) = m.map fun p => PyData.tuple [f p, g p] := by
  induction m with
  | nil => rfl
  | cons a m ih => simp at ih ⊢; exact ih
theorem read_read_moment : Reads t_read_moment N_read_moment.length spread_moment := by
  rintro _ M R ⟨l, m, rfl, ⟨h1, h2, h3⟩, h⟩
  have hl : (sTx (moWords m)).length ≤ 1000 := by simp [sTx, moWords_len]; omega
  have p0 : pickG (sTx (moWords m)) (some 0) none (some 2) = sTx (m.map (·.1)) := by unfold sTx; rw [pick_map]; exact congrArg _ (pick_even _ _ m)
  have p1 : pickG (sTx (moWords m)) (some 1) none (some 2) = sTx (m.map fun p => numT p.2) := by unfold sTx; rw [pick_map]; exact congrArg _ (pick_odd _ _ m)
  simp [t_read_moment, startD]
  refine sl3_r rfl hl (by rw [p0]; simp [sTx]; omega) ?_
  rw [p0]
  refine sl3_r rfl hl (by rw [p1]; simp [sTx]; omega) ?_
  rw [p1]
  refine ⟨_, rfl, ?_⟩
  have e3 : (sTx (m.map fun p => numT p.2)).map DV.dat = m.map fun p => DV.dat (.str (numT p.2)) := by unfold sTx; rw [List.map_map, List.map_map]; rfl
  rw [e3]
  refine lc_map m (fun p => DV.dat (.str (numT p.2))) (fun p => .int p.2) (by rw [← e3]; rfl) (sz_le (by omega)) (fun p hp Q hQ => ?_) ⟨_, rfl, ?_⟩
  · obtain ⟨_, q2, q3⟩ := h1 p hp
    simp [wipeD]
    exact ⟨p.2, 3, rfl, q2, q3, by omega, hQ⟩
  · simp only [r_len_l, r_rel, ceq_int, true_and, r_B]
    have e5 : (sTx (m.map (·.1))).length = (m.map fun p => PyData.int p.2).length := by simp [sTx]
    rw [e5]
    simp only [eqv_i, decide_true, Bool.not_true, Bool.false_eq_true, if_false]
    refine ⟨Pl.none, plain_ints _ m, ?_⟩
    rw [if_neg (no_none m)]
    refine ⟨_, .inl rfl, by simp [sTx]; omega, h2, ?_⟩
    simp only [r_B, if_true]
    refine ⟨_, rfl, ?_⟩
    have e6 : (sTx (m.map (·.1))).map DV.dat = m.map fun p => DV.dat (.str p.1) := by unfold sTx; rw [List.map_map, List.map_map]; rfl
    rw [e6]
    refine lc_map m (fun p => DV.dat (.str p.1)) (fun _ => .bool true) (by rw [← e6]; rfl) (sz_le (by omega)) (fun p hp Q hQ => ?_) ⟨_, rfl, all_true ?_⟩
    · obtain ⟨q1, _, _⟩ := h1 p hp
      simp [wipeD, any_sTx, q1, plain_sTx, Pl.str]
      exact hQ
    · simp only [r_B, if_true]
      refine ⟨_, rfl, _, rfl, ?_⟩
      refine ⟨_, _, sTx (m.map (·.1)), m.map fun p => PyData.int p.2, rfl, rfl, rfl, rfl, rfl, sz_le (by simp [sTx]; omega), giv ?_⟩
      unfold sTx
      rw [List.map_map, zip_two]
      exact h
theorem read_read_step : Reads t_read_step N_read_step.length spread_step := by
  rintro _ M R ⟨l, n, s, rfl, ⟨h1, h2, h3, h4, h5⟩, hn, h⟩
  have e4 : ∀ a b c : PyData, ∀ r : List PyData, cutD (a :: b :: c :: r) (some 3) none = r := fun a b c r => cut_from (a :: b :: c :: r) 3
  have e5 : ¬ ((moWords s.2.1).length : Int) + 1 + 1 + 1 < 3 := by omega
  simp [t_read_step, startD, sTx, stpWords, e5, e4]
  refine ⟨s.1, n, rfl, h1, h2, by omega, s.2.2, n, rfl, h4, h5, by omega, l, s.2.1, rfl, h3, ?_⟩
  simp [isNon]
  exact ⟨sz_le (by decide), giv h⟩
end
end DL
namespace DL
open PySem PySem.Spec PyProof.Rows L2
section
variable {M M' : Sto} {R : DK} {dvs : List DV} {env : Env} {DD : DEnds}
theorem alike_mo : ∀ m m' : Mom, PySem.W.alikeAll (m.map dPair) (m'.map dPair) = true
  | [], _ => by simp [PySem.W.alikeAll]
  | _ :: _, [] => by simp [PySem.W.alikeAll]
  | a :: m, b :: m' => by simp [PySem.W.alikeAll, PySem.W.alike, dPair, alike_mo m m']
theorem alike_pair (p q : Str × Int) : PySem.W.alike (dPair p) (dPair q) = true := by simp [PySem.W.alikeAll, PySem.W.alike, dPair]
theorem alike_stp (a b : Stp) : PySem.W.alike (dStp a) (dStp b) = true := by simp [PySem.W.alikeAll, PySem.W.alike, dStp, dMo, alike_mo]
theorem pl_pair (p : Str × Int) : Pl 1 (dPair p) := Pl.tup (n := 0) (by simp; exact ⟨Pl.str, Pl.int⟩)
theorem pl_mo (m : Mom) : Pl 2 (dMo m) := Pl.tup (n := 1) (by simp only [List.mem_map]; rintro x ⟨p, _, rfl⟩; exact pl_pair p)
theorem pl_stp (s : Stp) : Pl 3 (dStp s) := Pl.tup (n := 2) (by simp; exact ⟨Pl.int, pl_mo _, Pl.int⟩)
theorem cmp_stp (a b : Stp) : CCmp (dStp a) (dStp b) := ⟨alike_stp a b, by simp [dStp], by have := (pl_stp a).2; omega⟩
theorem cmp_pair (a b : Str × Int) : CCmp (dPair a) (dPair b) := ⟨alike_pair a b, by simp [dPair], by have := (pl_pair a).2; omega⟩
theorem len_r {x : DV} {xs : List DV} (e : lstOf M x = some xs) (h : R (.dat (.int xs.length)) M) : dLen [x] M R := by
  cases x with
  | obj a => exact ⟨xs, e, h⟩
  | dat d => cases d with
    | list ds => cases e; simpa using h
    | _ => cases e
theorem ix_r {x dv : DV} {xs : List DV} {k : Int} (e : lstOf M x = some xs) (h1 : atI xs k = some dv) (h : R dv M) : dIx x (.dat (.int k)) M R := by
  cases x with
  | obj a => exact ⟨xs, e, dv, h1, h⟩
  | dat d => cases d with
    | list ds => cases e; exact ⟨_, rfl, dv, h1, h⟩
    | _ => cases e
theorem lst_new {x : DV} {xs : List DV} {p : Addr} {o : MO} (hp : M p = none) (e : lstOf M x = some xs) : lstOf (M.set p o) x = some xs := by
  cases x with
  | dat d => cases d <;> exact e
  | obj a =>
    have : a ≠ p := fun z => by subst z; simp [lstOf, hp] at e
    simpa [lstOf, Sto.set_ne this] using e
theorem dat_list {p : Addr} {ds : List PyData} : datOf (M.set p (.lst (ds.map DV.dat))) (.obj p) = some (.list ds) := by
  simp [datOf, Sto.set_same, dats_map]
theorem lst_list {p : Addr} {xs : List DV} : lstOf (M.set p (.lst xs)) (.obj p) = some xs := by simp [lstOf, Sto.set_same]
theorem rel_r {C : PyData → PyData → Prop} {f : PyData → PyData → Bool} {x y : DV} {d e : PyData} (h1 : datOf M x = some d) (h2 : datOf M y = some e) (c : C d e) (h : R (.dat (.bool (f d e))) M) : dRel C f x y M R := by
  unfold dRel
  rw [h1, h2]
  exact ⟨c, h⟩
theorem wk_drop {p : Addr} {d : PyData} {xs : List DV} (hp : M p = none) : Wk M (.dat d) (M.set p (.lst xs)) (.dat d) M := by
  refine .dat d (fun a m e => ?_) (fun a e => e) (fun a m e => .inl e)
  rw [Sto.set_ne (fun z => by subst z; rw [hp] at e; cases e)]; exact e
theorem set_set {p : Addr} {o o' : MO} : (M.set p o).set p o' = M.set p o' := by
  funext a
  by_cases h : a = p
  · subst h; rw [Sto.set_same, Sto.set_same]
  · rw [Sto.set_ne h, Sto.set_ne h, Sto.set_ne h]
theorem at_last {α : Type} {xs : List α} {x : α} : atI (xs ++ [x]) (-1) = some x := by
  have hl : (xs ++ [x]).length = xs.length + 1 := by simp
  have : ixN (xs ++ [x]).length (-1) = some xs.length := by
    rw [hl]
    unfold ixN
    rw [if_neg (by omega), if_pos (by omega)]
    congr 1
    omega
  unfold atI
  rw [this]; simp
theorem rises_at {ds : List PyData} (h : Rises ds) {i : Nat} {a b : PyData} (h1 : ds[i]? = some a) (h2 : ds[i + 1]? = some b) : PySem.W.dataLt a b = true := by
  refine (h (a, b) (List.mem_of_getElem? (i := i) ?_)).2
  rw [List.getElem?_zip_eq_some]
  exact ⟨h1, by rw [List.getElem?_tail]; exact h2⟩
theorem wb {ws : List Str} (hne : ws ≠ []) (h : ∀ w ∈ ws, Wd w) : Txt.split (Txt.join blank ws) (Str.ofString " ") = ws := words_back hne h
theorem for_range2 {fa : DA} {g : DG} {tb : DTS} {lo hi : Int} {n : Nat} (hn : (hi - lo).toNat = n) (ha : ∀ Q : List DV → Sto → Prop, Q [.dat (.int lo), .dat (.int hi)] M → fa env M Q) (b : -(2 ^ 62) ≤ lo ∧ lo < 2 ^ 62 ∧ -(2 ^ 62) ≤ hi ∧ hi < 2 ^ 62)
    (Pv : Nat → Env → Sto → Prop) (p0 : Pv 0 env M) (step : ∀ i env M', i < n → Pv i env M' → g (.dat (.int (lo + i))) env M' fun env2 M2 => tb { DD with nx := Pv (i + 1), ct := Pv (i + 1), bk := DD.nx } env2 M2)
    (done : ∀ env M', Pv n env M' → DD.nx env M') : dFor (dRange2 fa) g tb DD env M :=
  ha _ ⟨lo, hi, rfl, b, by rw [hn]; exact inv_range Pv p0 step done⟩
theorem tab_unalike (a : PyData) (r : List PyData) : PyData.eqv (.list (a :: r)) (.list []) = false := by simp [PyData.eqv, PyData.eqvAll]
theorem isNon_stp (s : Stp) : isNon (.dat (dStp s)) = false := rfl
theorem isNon_mo (s : Mom) : isNon (.dat (dMo s)) = false := rfl
def accD (l : List Stp) : List DV := (l.map dStp).map DV.dat
theorem read_read_table : Reads t_read_table N_read_table.length spread_table := by
  rintro _ M R ⟨x, t, rfl, hx, ok, h⟩
  have e0 : ((sTx (linesOf t)).map DV.dat).length = t.2.2.length + 1 := by simp [sTx, linesOf]
  simp [t_read_table, startD]
  refine len_r hx ?_
  rw [e0]
  have e1 : (0 : Int) < ((t.2.2.length + 1 : Nat) : Int) := by omega
  simp only [r_rel, ccmp_int, true_and, r_B, lt_i, e1, decide_true, if_true]
  refine ix_r hx (dv := .dat (.str (Txt.join blank (headWords t)))) (by simp [linesOf, sTx]) ?_
  simp only [tyok_s, true_and]
  refine split_r (by decide +kernel) (join_size (fun w hw => wd_head ok hw) (by have := ok.few; simp [headWords]; omega)) ?_
  rw [wb (ws := headWords t) (by simp [headWords]) fun w hw => wd_head ok hw]
  refine ⟨t, rfl, ok, ?_⟩
  simp [isNon]
  intro p hp
  have hs := ok.short
  refine for_range2 (lo := 1) (hi := (t.2.2.length + 1 : Nat)) (n := t.2.2.length) (by omega) (fun Q hQ => ?_) (by omega)
    (fun i env M' => M' = M.set p (.lst (accD (t.2.2.take i))) ∧ ∃ y z, env = [some x, some (.dat (.tuple [.tuple (sTx t.1), .int t.2.1])), some (.obj p), y, z]) ⟨rfl, _, _, rfl⟩ ?_ ?_
  · simp
    refine len_r (lst_new hp hx) ?_
    rw [e0]
    exact hQ
  · rintro i env M' hi ⟨rfl, y, z, rfl⟩
    have hget : t.2.2[i]? = some t.2.2[i] := List.getElem?_eq_getElem hi
    have so := ok.steps _ (List.getElem_mem hi)
    have e4 : t.2.2.take (i + 1) = t.2.2.take i ++ [t.2.2[i]] := by rw [List.take_add_one, hget]; rfl
    simp
    refine ix_r (lst_new hp hx) (dv := .dat (.str (lineOf t.2.2[i]))) ?_ ?_
    · have : ((1 : Int) + (i : Int)) = ((i + 1 : Nat) : Int) := by omega
      rw [this, at_nat (by rw [e0]; omega)]
      simp [linesOf, sTx]
    · simp only [tyok_s, true_and]
      refine split_r (by decide +kernel) (join_size (fun w hw => wd_stp so ok.ports ok.hi hw) (by have := so.2.2.1.2.2; rw [stpWords_len]; omega)) ?_
      unfold lineOf
      rw [wb (ws := stpWords t.2.2[i]) (by simp [stpWords]) fun w hw => wd_stp so ok.ports ok.hi hw]
      refine ⟨t.1, t.2.1, t.2.2[i], rfl, so, ok.hi, ?_⟩
      simp [isNon_stp]
      refine rel_r (C := CEq) (x := .obj p) (y := .dat (.list [])) (d := .list ((t.2.2.take i).map dStp)) (e := .list []) dat_list rfl ?_ ?_
      · exact ⟨Pl.mono (Pl.lst (n := 3) (by simp only [List.mem_map]; rintro x ⟨q, _, rfl⟩; exact pl_stp q)) (by omega), rfl⟩
      · have e6 : accD (t.2.2.take i) ++ [DV.dat (dStp t.2.2[i])] = accD (t.2.2.take (i + 1)) := by
          unfold accD
          rw [e4, List.map_append, List.map_append]; rfl
        have app : ∀ (Q : DV → Sto → Prop), Q (.dat .none) (M.set p (.lst (accD (t.2.2.take (i + 1))))) → tyOk "list" (.obj p) (M.set p (.lst (accD (t.2.2.take i)))) ∧ dAppend (.obj p) [.dat (dStp t.2.2[i])] (M.set p (.lst (accD (t.2.2.take i)))) Q := fun Q hQ => by
          refine ⟨.inr ⟨rfl, _, lst_list⟩, p, _, _, rfl, rfl, Sto.set_same, sz_le (by simp [accD]; omega), ?_⟩
          rw [set_set, e6]
          exact hQ
        simp only [r_B]
        by_cases h0 : i = 0
        · subst h0
          have : PyData.eqv (.list ((t.2.2.take 0).map dStp)) (.list []) = true := by rw [List.take_zero]; rfl
          rw [this]
          exact app _ rfl
        · obtain ⟨k, rfl⟩ : ∃ k, i = k + 1 := ⟨i - 1, by omega⟩
          have hk : k < t.2.2.length := by omega
          have e5 : t.2.2.take (k + 1) = t.2.2.take k ++ [t.2.2[k]] := by rw [List.take_add_one, List.getElem?_eq_getElem hk]; rfl
          have ne : PyData.eqv (.list ((t.2.2.take (k + 1)).map dStp)) (.list []) = false := by
            rw [e5]
            cases (t.2.2.take k) with
            | nil => exact tab_unalike _ _
            | cons a l => exact tab_unalike _ _
          rw [ne]
          simp only [Bool.not_false, if_true]
          refine ⟨_, lst_list, .dat (dStp t.2.2[k]), ?_, ?_⟩
          · rw [e5]
            simp only [accD, List.map_append, List.map_cons, List.map_nil]
            exact at_last
          · have lt : PySem.W.dataLt (dStp t.2.2[k]) (dStp t.2.2[k + 1]) = true := rises_at ok.rise (i := k) (by rw [List.getElem?_map, List.getElem?_eq_getElem hk]; rfl) (by rw [List.getElem?_map, List.getElem?_eq_getElem hi]; rfl)
            simp only [r_rel, cmp_stp, true_and, lt, r_B, Bool.not_true]
            exact app _ rfl
  · rintro env M' ⟨rfl, y, z, rfl⟩
    rw [List.take_length]
    simp
    refine r_tupof_o Sto.set_same ?_
    simp
    exact ⟨sz_le (by decide), _, _, wk_drop hp, h⟩
end
end DL
/-! ### sorted things rise -/
namespace DL
open PySem PySem.Spec PyProof.Rows L2
open PySem.W
theorem toks_pair (p : Str × Int) : keyToks (dPair p) = [.inl 1, .inr p.1.cps.toList, .inl 1, .inl p.2, .inl 0] := by simp [dPair, keyToks, keyToksAll]
theorem cps_inj {a b : Str} (h : a.cps.toList = b.cps.toList) : a = b := PySem.W.str_of_cps h
theorem pair_inj {p q : Str × Int} (h : keyToks (dPair p) = keyToks (dPair q)) : p = q := by
  rw [toks_pair, toks_pair] at h
  simp only [List.cons.injEq, Sum.inr.injEq, Sum.inl.injEq, true_and, and_true] at h
  exact Prod.ext (cps_inj h.1) h.2
theorem toks_mo : ∀ (m m' : Mom) (r r' : List (Int ⊕ List Nat)), keyToksAll (m.map dPair) ++ r = keyToksAll (m'.map dPair) ++ r' → m = m' ∧ r = r'
  | [], [], r, r', h => by simpa [keyToksAll] using h
  | [], _ :: _, r, r', h => by simp [keyToksAll] at h
  | _ :: _, [], r, r', h => by simp [keyToksAll] at h
  | p :: m, q :: m', r, r', h => by
    simp only [List.map_cons, keyToksAll, toks_pair, List.cons_append, List.nil_append, List.append_assoc, List.cons.injEq, Sum.inr.injEq, Sum.inl.injEq, true_and] at h
    obtain ⟨h1, h2, h3⟩ := h
    obtain ⟨h4, h5⟩ := toks_mo m m' r r' h3
    exact ⟨by rw [h4, Prod.ext (cps_inj h1) h2], h5⟩
theorem stp_inj {a b : Stp} (h : keyToks (dStp a) = keyToks (dStp b)) : a = b := by
  obtain ⟨a1, a2, a3⟩ := a
  obtain ⟨b1, b2, b3⟩ := b
  simp only [dStp, dMo, keyToks, keyToksAll, List.cons_append, List.nil_append, List.append_assoc, List.cons.injEq, Sum.inl.injEq, true_and] at h
  obtain ⟨h1, h2⟩ := h
  obtain ⟨h3, h4⟩ := toks_mo _ _ _ _ h2
  simp only [List.cons.injEq, Sum.inl.injEq, true_and, and_true] at h4
  subst h1 h3 h4; rfl
theorem sort_fine {α : Type} (enc : α → PyData) (inj : ∀ a b, keyToks (enc a) = keyToks (enc b) → a = b) (cmp : ∀ a b, CCmp (enc a) (enc b)) (l : List α) (nd : l.Nodup) :
    ∃ l' : List α, (l.map enc).mergeSort (PySem.W.dataLe false id) = l'.map enc ∧ l'.Perm l ∧ Rises (l'.map enc) := by
  have T := PySem.W.sortLe_total (PyProof.Rows.listOrd itemOrd) false (fun a => keyToks (enc a))
  refine ⟨l.mergeSort (PySem.W.dataLe false enc), ?_, List.mergeSort_perm _ _, ?_⟩
  · exact (List.map_mergeSort (r := PySem.W.dataLe false enc) (s := PySem.W.dataLe false id) (f := enc) (l := l) (fun a _ b _ => rfl)).symm
  · have hs : (l.mergeSort (PySem.W.dataLe false enc)).Pairwise (fun a b => PySem.W.dataLe false enc a b = true) := List.pairwise_mergeSort (fun a b c => T.trans a b c) (fun a b => Bool.or_eq_true_iff.mpr (T.total a b)) l
    have hn : (l.mergeSort (PySem.W.dataLe false enc)).Nodup := (List.mergeSort_perm l _).nodup_iff.mpr nd
    intro p hp
    obtain ⟨i, hi⟩ := List.mem_iff_getElem?.mp hp
    obtain ⟨h1, h2⟩ := List.getElem?_zip_eq_some.mp hi
    rw [List.getElem?_tail, List.getElem?_map] at h2
    rw [List.getElem?_map] at h1
    obtain ⟨x, hx, ex⟩ := Option.map_eq_some_iff.mp h1
    obtain ⟨y, hy, ey⟩ := Option.map_eq_some_iff.mp h2
    rw [← ex, ← ey]
    refine ⟨cmp x y, ?_⟩
    obtain ⟨lx, gx⟩ := List.getElem?_eq_some_iff.mp hx
    obtain ⟨ly, gy⟩ := List.getElem?_eq_some_iff.mp hy
    have le : PySem.W.dataLe false enc x y = true := by
      have := List.pairwise_iff_getElem.mp hs i (i + 1) lx ly (by omega)
      rw [gx, gy] at this; exact this
    have ne : x ≠ y := by
      have := List.pairwise_iff_getElem.mp hn i (i + 1) lx ly (by omega)
      rw [gx, gy] at this; exact this
    have le2 : dataLt (enc y) (enc x) = false := by
      have : (!dataLt (enc y) (enc x)) = true := le
      simpa using this
    cases e : dataLt (enc x) (enc y) with
    | true => rfl
    | false => exact absurd (inj x y (PyProof.Rows.lex_total (O := itemOrd) _ _ e le2)) ne
theorem sort_all {α : Type} (enc : α → PyData) (cmp : ∀ a b, CCmp (enc a) (enc b)) (l : List α) : PySem.W.AllAlike (l.map enc) := PySem.W.AllAlike.of fun a b => (cmp a b).1
end DL
namespace DL
open PySem PySem.Spec PyProof.Rows L2
section
variable {M M' : Sto} {R : DK} {dvs : List DV} {env : Env} {DD : DEnds}
theorem TapeSt.mono {tp : List DV} {n m : Int} (h : TapeSt tp n) (l : n ≤ m) : TapeSt tp m := by
  obtain ⟨ns, spot, rest, e, h1, h2, h3⟩ := h
  exact ⟨ns, spot, rest, e, h1, by omega, h3⟩
theorem atv {i : Nat} {dv : DV} (h : env[i]? = some (some dv)) : ∃ d, env[i]? = some (some d) ∧ d = dv := ⟨dv, h, rfl⟩
@[simp] theorem r_sub {fo fi : DT} {dv : DV} {Q : Env → Sto → Prop} : dgSub fo fi dv env M Q = fo env M fun o M1 => fi env M1 fun i M2 => ∃ a xs k j, o = .obj a ∧ i = .dat (.int k) ∧ M2 a = some (.lst xs) ∧ ixN xs.length k = some j ∧ Q env (M2.set a (.lst (xs.set j dv))) := propext Iff.rfl
theorem read__law_tape : Reads t__law_tape N__law_tape.length sp_law_tape := by
  rintro _ M R ⟨ns, rfl, hl, h⟩
  have e1 : cutD (sIn ns) none (some 63) = sIn ns := by
    have := cut_upto (sIn ns) 63
    rw [show ((63 : Nat) : Int) = 63 from rfl] at this
    rw [this, List.take_of_length_le (by simp [sIn]; omega)]
  simp [t__law_tape, startD, e1]
  exact ⟨sz_le (by decide), fun p hp => giv (h p _ hp ⟨ns, 0, 0, rfl, by omega, by omega, by omega, hl⟩)⟩
theorem sub_r {a : Addr} {xs : List DV} {k : Int} {j : Nat} {dv : DV} {Q : Env → Sto → Prop} (e : M a = some (.lst xs)) (hj : ixN xs.length k = some j) (h : Q env (M.set a (.lst (xs.set j dv)))) :
    ∃ b ys l i, DV.obj a = .obj b ∧ DV.dat (.int k) = .dat (.int l) ∧ M b = some (.lst ys) ∧ ixN ys.length l = some i ∧ Q env (M.set b (.lst (ys.set i dv))) := ⟨a, xs, k, j, rfl, rfl, e, hj, h⟩
theorem ix_o {a : Addr} {xs : List DV} {k : Int} {dv : DV} (e : M a = some (.lst xs)) (h1 : atI xs k = some dv) (h : R dv M) : ∃ xs, lstOf M (.obj a) = some xs ∧ ∃ dv, atI xs k = some dv ∧ R dv M := ⟨xs, by simp [lstOf, e], dv, h1, h⟩
theorem mod_lt {v k : Int} (hk : 1 ≤ k) : 0 ≤ v % k ∧ v % k < k := ⟨Int.emod_nonneg _ (by omega), Int.emod_lt_of_pos _ (by omega)⟩
theorem pow18 : (10 : Int) ^ (18 : Int).toNat = 1000000000000000000 := by decide
theorem ixN31 : ixN 3 1 = some 1 := by decide
theorem ixN32 : ixN 3 2 = some 2 := by decide
theorem read__law_draw : Reads t__law_draw N__law_draw.length sp_law_draw := by
  rintro _ M R ⟨a, n, k, rfl, ⟨tp, ea, ns, spot, rest, rfl, h1, h2, h3, hl⟩, h4, h5, h6, h⟩
  have kd : CDiv 1 k := ⟨by omega, by omega⟩
  have kd : ∀ i, CDiv i k := fun i => kd
  have k0 : 0 < k := by omega
  have el : lstOf M (.obj a) = some [.dat (.list (sIn ns)), .dat (.int spot), .dat (.int rest)] := by simp [lstOf, ea]
  have cp : CPow 10 18 := by unfold CPow; decide
  have c64 : ∀ i, CDiv i 64 := fun i => ⟨by decide, by decide⟩
  have m1 : ∀ i j : Int, -(2 ^ 64) < i → i < 2 ^ 64 → CMul i j := fun i j a b => .inl ⟨a, b⟩
  have m2 : ∀ i j : Int, -(2 ^ 64) < j → j < 2 ^ 64 → CMul i j := fun i j a b => .inr ⟨a, b⟩
  have c1 : CMul 37 spot := m1 _ _ (by decide) (by decide)
  have c2 : CMul (37 * spot) spot := m2 _ _ (by omega) (by omega)
  have c3 : CMul 101 spot := m1 _ _ (by decide) (by decide)
  have c4 : ∀ i, CMul i 48271 := fun i => m2 _ _ (by decide) (by decide)
  have c5 : ∀ i, CMul i 69621 := fun i => m2 _ _ (by decide) (by decide)
  have c6 : CMul 7919 spot := m1 _ _ (by decide) (by decide)
  simp [t__law_draw, startD, el, kd, k0, ea, lst_list, Sto.set_same, set_set, ixN31, ixN32, cp, c64, c1, c2, c3, c4, c5, c6]
  have fin : ∀ (v s r : Int), 0 ≤ s → s ≤ n + 1 → 0 ≤ r → ∃ dv' M'', Wk M (DV.dat (PyData.int (v % k))) (M.set a (MO.lst [DV.dat (PyData.list (sIn ns)), DV.dat (PyData.int s), DV.dat (PyData.int r)])) dv' M'' ∧ R dv' M'' :=
    fun v s r a1 a2 a3 => giv (h _ _ ⟨ns, s, r, rfl, a1, a2, a3, hl⟩ (mod_lt h5).1 (mod_lt h5).2)
  by_cases hr : 0 < rest
  · rw [if_pos hr]
    exact fin _ _ _ h1 (by omega) (Int.ediv_nonneg h3 (by omega))
  · rw [if_neg hr]
    by_cases hn : 0 < (sIn ns).length
    · rw [if_pos hn]
      have hn' : 0 < ns.length := by simpa [sIn] using hn
      obtain ⟨q1, q2⟩ := mod_lt (v := spot) (k := ((sIn ns).length : Int)) (by omega)
      obtain ⟨j, hj⟩ := Int.eq_ofNat_of_zero_le q1
      have hj' : j < (sIn ns).length := by omega
      have hj2 : j < ns.length := by simpa [sIn] using hj'
      refine ⟨hn, .dat (.int ns[j]), ?_, ?_⟩
      · rw [hj, at_nat (by simpa using hj')]
        simp [sIn]
      · by_cases hc : (1000000000000000000 : Int) ≤ ns[j]
        · have hc' : ¬ ns[j] < 1000000000000000000 := by omega
          simp [hc, hc', kd, k0, Sto.set_same, set_set, ixN32]
          exact fin _ _ _ (by omega) (by omega) (Int.ediv_nonneg (by omega) (by omega))
        · have hc' : ns[j] < 1000000000000000000 := by omega
          simp [hc, hc', kd, k0, c4, c5, c64]
          exact fin _ _ _ (by omega) (by omega) h3
    · rw [if_neg hn]
      exact fin _ _ _ (by omega) (by omega) h3
theorem TapeAt.set {a : Addr} {tp : List DV} {n : Int} (h : TapeSt tp n) : TapeAt (M.set a (.lst tp)) a n := ⟨tp, Sto.set_same, h⟩
/-- a draw: what it is, where the tape lies then -/
theorem draw_r {a : Addr} {n k : Int} (t : TapeAt M a n) (hn : n < 1000000) (h1 : 1 ≤ k) (h2 : k < 1000000) (h : ∀ tp v, TapeSt tp (n + 1) → 0 ≤ v → v < k → R (.dat (.int v)) (M.set a (.lst tp))) : sp_law_draw [.obj a, .dat (.int k)] M R := ⟨a, n, k, rfl, t, hn, h1, h2, h⟩
def names17 : List Str := ["a", "ab", "abc", "net", "end", "within", "to", "table", "step", "box", "port", "next", "b", "zzzzzzzz", "both", "place", "ba"]
theorem names_ok : names17.all (fun s => decide (1 ≤ s.length) && decide (s.length ≤ 8) && s.cps.toList.all letter) = true ∧ names17.Nodup := by decide +kernel
def pickN (f s : Nat) : List Str := (List.range 6).map fun i => names17.getD ((f + s * i) % 17) ""
theorem pick_nodup : ∀ f, f < 17 → ∀ s, s < 17 → 1 ≤ s → (pickN f s).Nodup := by decide +kernel
theorem pick_ok {f s : Nat} : ∀ p ∈ pickN f s, PortOk p := by
  intro p hp
  obtain ⟨i, _, rfl⟩ := List.mem_map.mp hp
  have hl : (f + s * i) % 17 < names17.length := Nat.mod_lt _ (by decide)
  have hm : names17.getD ((f + s * i) % 17) "" ∈ names17 := by
    rw [List.getD_eq_getElem?_getD, List.getElem?_eq_getElem hl]
    exact List.getElem_mem hl
  have := List.all_eq_true.mp names_ok.1 _ hm
  simp only [Bool.and_eq_true, decide_eq_true_eq] at this
  exact ⟨this.1.1, this.1.2, this.2⟩
theorem read__law_names : Reads t__law_names N__law_names.length sp_law_names := by
  rintro _ M R ⟨a, n, rfl, t, hn, h⟩
  simp [t__law_names, startD, dats]
  refine ⟨sz_le (by decide), sz_le (by decide), sz_le (by decide), draw_r t (by omega) (by decide) (by decide) fun tp1 v1 t1 a1 b1 => draw_r (TapeAt.set t1) (by omega) (by decide) (by decide) fun tp2 v2 t2 a2 b2 => ?_⟩
  obtain ⟨f, rfl⟩ := Int.eq_ofNat_of_zero_le a1
  obtain ⟨s, rfl⟩ := Int.eq_ofNat_of_zero_le a2
  simp [set_set]
  have hs : (1 : Int) + (s : Int) = ((s + 1 : Nat) : Int) := by omega
  rw [hs]
  refine lc_map (List.range 6) (fun i => .dat (.int (0 + (i : Int)))) (fun i => .str (names17.getD ((f + (s + 1) * i) % 17) "")) trivial (sz_le (by decide)) (fun i hi Q hQ => ?_) ⟨_, rfl, giv ?_⟩
  · have hi : i < 6 := by simpa using hi
    have cm : CMul ((s + 1 : Nat) : Int) (i : Int) := .inr ⟨by omega, by omega⟩
    have e : ((f : Int) + ((s + 1 : Nat) : Int) * (i : Int)) % 17 = (((f + (s + 1) * i) % 17 : Nat) : Int) := by
      push_cast
      rfl
    have hl : (f + (s + 1) * i) % 17 < names17.length := Nat.mod_lt _ (by decide)
    have e2 : ∀ z : List DV, z = names17.map (fun x => DV.dat (.str x)) → atI z (((f + (s + 1) * i) % 17 : Nat) : Int) = some (.dat (.str (names17.getD ((f + (s + 1) * i) % 17) ""))) := fun z hz => by
      rw [hz, at_map, at_nat hl, List.getD_eq_getElem?_getD, List.getElem?_eq_getElem hl]; rfl
    simp [wipeD]
    refine ⟨cm, ?_⟩
    rw [show ((f : Int) + ((s : Int) + 1) * (i : Int)) % 17 = (((f + (s + 1) * i) % 17 : Nat) : Int) from e]
    exact ⟨_, e2 _ rfl, hQ⟩
  · have := h tp2 (pickN f (s + 1)) (by rw [show n + 2 = n + 1 + 1 by omega]; exact t2) (by simp [pickN]) (pick_nodup f (by omega) _ (by omega) (by omega)) pick_ok
    exact this
end
end DL
namespace DL
open PySem PySem.Spec PyProof.Rows L2
section
variable {M M' : Sto} {R : DK} {dvs : List DV} {env : Env} {DD : DEnds}
@[simp] theorem r_yes {RT : Bool → Sto → Prop} : dYes env M RT = RT true M := propext Iff.rfl
theorem set_eq {a : Addr} {o : MO} (h : M a = some o) : M.set a o = M := by
  funext b
  by_cases e : b = a
  · subst e; rw [Sto.set_same, h]
  · rw [Sto.set_ne e]
theorem sorted_r {α : Type} {x : DV} (enc : α → PyData) (inj : ∀ a b, PySem.W.keyToks (enc a) = PySem.W.keyToks (enc b) → a = b) (cmp : ∀ a b, CCmp (enc a) (enc b)) (tup : ∀ a, ∃ y r, enc a = .tuple (y :: r)) (dep : ∀ a, (enc a).depth ≤ 50) {l : List α}
    (e : lstOf M x = some ((l.map enc).map DV.dat)) (nd : l.Nodup) (h : ∀ l' : List α, l'.Perm l → Rises (l'.map enc) → R (.dat (.list (l'.map enc))) M) : dSorted [x] M R := by
  obtain ⟨l', e1, p, r⟩ := sort_fine enc inj cmp l nd
  refine ⟨x, _, l.map enc, rfl, e, dats_map _, sort_all enc cmp l, .inl ?_, ?_, ?_⟩
  · intro d hd
    obtain ⟨a, _, rfl⟩ := List.mem_map.mp hd
    exact tup a
  · intro d hd
    obtain ⟨a, _, rfl⟩ := List.mem_map.mp hd
    exact dep a
  · rw [e1]; exact h l' p r
theorem rises_fst {m : Mom} (h : Rises (m.map dPair)) (nd : (m.map (·.1)).Nodup) : Rises (sTx (m.map (·.1))) := by
  intro p hp
  obtain ⟨i, hi⟩ := List.mem_iff_getElem?.mp hp
  obtain ⟨h1, h2⟩ := List.getElem?_zip_eq_some.mp hi
  rw [List.getElem?_tail] at h2
  unfold sTx at h1 h2
  rw [List.map_map, List.getElem?_map] at h1 h2
  obtain ⟨x, hx, ex⟩ := Option.map_eq_some_iff.mp h1
  obtain ⟨y, hy, ey⟩ := Option.map_eq_some_iff.mp h2
  rw [← ex, ← ey]
  refine ⟨cmp_str _ _, ?_⟩
  have lt := rises_at h (i := i) (a := dPair x) (b := dPair y) (by rw [List.getElem?_map, hx]; rfl) (by rw [List.getElem?_map, hy]; rfl)
  unfold dPair at lt
  rw [PySem.W.dataLt_pair (by rfl) (by rfl)] at lt
  have ne : x.1 ≠ y.1 := by
    obtain ⟨lx, gx⟩ := List.getElem?_eq_some_iff.mp hx
    obtain ⟨ly, gy⟩ := List.getElem?_eq_some_iff.mp hy
    have := List.pairwise_iff_getElem.mp nd i (i + 1) (by simpa using lx) (by simpa using ly) (by omega)
    simpa [gx, gy] using this
  have e : PyData.eqv (.str x.1) (.str y.1) = false := by rw [eqv_s]; exact decide_eq_false ne
  rw [e] at lt
  simpa using lt
theorem take_sub {α : Type} {l : List α} {i : Nat} {x : α} (h : l[i]? = some x) : l.take (i + 1) = l.take i ++ [x] := by rw [List.take_add_one, h]; rfl
def mo1 (M : Sto) (a : Addr) (n : Int) (l : List Str) (i : Nat) (acc : List DV) (M' : Sto) : Prop := ∃ (tp : List DV) (ps : List Str), M' = M.set a (.lst tp) ∧ TapeSt tp (n + i) ∧ acc = (sTx ps).map DV.dat ∧ List.Sublist ps (l.take i)
def mo2 (M : Sto) (a : Addr) (n : Int) (ps : List Str) (i : Nat) (acc : List DV) (M' : Sto) : Prop := ∃ (tp : List DV) (m : Mom), M' = M.set a (.lst tp) ∧ TapeSt tp (n + 2 * i) ∧ acc = (m.map dPair).map DV.dat ∧ m.map (·.1) = ps.take i ∧ ∀ p ∈ m, 0 ≤ p.2 ∧ p.2 < 3
theorem at_tx {l : List Str} {i : Nat} {x : DV} (e : ((sTx l).map DV.dat)[i]? = some x) : ∃ s, l[i]? = some s ∧ x = .dat (.str s) := by
  unfold sTx at e
  rw [List.map_map, List.getElem?_map] at e
  obtain ⟨s, e1, rfl⟩ := Option.map_eq_some_iff.mp e
  exact ⟨s, e1, rfl⟩
theorem at_lt {α : Type} {l : List α} {i : Nat} {x : α} (e : l[i]? = some x) : i < l.length := (List.getElem?_eq_some_iff.mp e).1
theorem tx_snoc (ps : List Str) (s : Str) : (sTx ps).map DV.dat ++ [.dat (.str s)] = (sTx (ps ++ [s])).map DV.dat := by simp [sTx]
theorem pr_snoc (m : Mom) (s : Str) (v : Int) : (m.map dPair).map DV.dat ++ [.dat (.tuple [.str s, .int v])] = ((m ++ [(s, v)]).map dPair).map DV.dat := by simp [dPair]
theorem read__law_moment : Reads t__law_moment N__law_moment.length sp_law_moment := by
  rintro _ M R ⟨a, n, l, few, rfl, ⟨tp0, ea, t0⟩, hn, nd, hl, h⟩
  simp [t__law_moment, startD]
  refine ⟨mo1 M a n l, ⟨tp0, [], (set_eq ea).symm, by simpa using t0, rfl, List.nil_sublist _⟩, fun _ _ _ _ _ => by simp, ?_, ?_⟩
  · rintro i x acc M' e ⟨tp, ps, rfl, ts, rfl, sub⟩
    obtain ⟨s, e1, rfl⟩ := at_tx e
    have hi := at_lt e1
    have tk := take_sub e1
    simp [wipeD]
    refine draw_r (TapeAt.set ts) (by omega) (by decide) (by decide) fun tp' v t' v0 v1 => ?_
    have t'' : TapeSt tp' (n + ((i + 1 : Nat) : Int)) := by rw [show n + ((i + 1 : Nat) : Int) = n + i + 1 by omega]; exact t'
    have ps6 : ps.length ≤ 6 := Nat.le_trans sub.length_le (by simp; omega)
    by_cases hv : v < few
    · simp [hv]
      refine ⟨by have := sz_le (show 7 ≤ 1000000 by decide); simp [sTx]; omega, tp', ps ++ [s], set_set, t'', by simp [sTx], ?_⟩
      rw [tk]
      exact List.Sublist.append sub (List.Sublist.refl _)
    · simp [hv]
      refine ⟨tp', ps, set_set, t'', by simp [sTx], ?_⟩
      rw [tk]
      exact List.Sublist.trans sub (List.sublist_append_left _ _)
  · rintro acc M' ⟨tp, ps, rfl, ts, rfl, sub⟩
    have e6 : ((sTx l).map DV.dat).length = l.length := by simp [sTx]
    rw [e6] at sub ts
    rw [List.take_length] at sub
    have ps6 : ps.length ≤ 6 := Nat.le_trans sub.length_le hl
    refine ⟨sTx ps, rfl, ?_⟩
    refine ⟨mo2 M a (n + 6) ps, ⟨tp, [], rfl, ts.mono (by omega), rfl, by simp, by simp⟩, fun _ _ _ _ _ => by simp, ?_, ?_⟩
    · rintro i x acc M' e ⟨tp, m, rfl, ts, rfl, em, hm⟩
      obtain ⟨s, e1, rfl⟩ := at_tx e
      have hi := at_lt e1
      have tk := take_sub e1
      simp [wipeD]
      refine draw_r (k := 3) (TapeAt.set ts) (by omega) (by decide) (by decide) fun tp1 v1 t1 a1 b1 => draw_r (k := 2) (TapeAt.set t1) (by omega) (by decide) (by decide) fun tp2 v2 t2 a2 b2 => ?_
      have hv : v2 = 0 ∨ v2 = 1 := by omega
      have ml : m.length ≤ 6 := by
        have := congrArg List.length em
        simp at this; omega
      have t'' : TapeSt tp2 (n + 6 + 2 * ((i + 1 : Nat) : Int)) := by rw [show n + 6 + 2 * ((i + 1 : Nat) : Int) = n + 6 + 2 * i + 1 + 1 by omega]; exact t2
      simp
      refine ⟨.inl ⟨by omega, by omega⟩, by have := sz_le (show 7 ≤ 1000000 by decide); omega, by have := sz_le (show 7 ≤ 1000000 by decide); omega, ?_⟩
      refine ⟨tp2, m ++ [(s, v1 * v2)], by rw [set_set, set_set], t'', by simp [dPair], by simp [em, tk], ?_⟩
      intro p hp
      rcases List.mem_append.mp hp with hp | hp
      · exact hm p hp
      · rw [List.mem_singleton.mp hp]
        rcases hv with rfl | rfl
        · simp
        · simp; omega
    · rintro acc M' ⟨tp, m, rfl, ts, rfl, em, hm⟩
      have e7 : ((sTx ps).map DV.dat).length = ps.length := by simp [sTx]
      rw [e7] at em ts
      rw [List.take_length] at em
      refine ⟨m.map dPair, rfl, ?_⟩
      have nm : (m.map (·.1)).Nodup := by rw [em]; exact sub.nodup nd
      have ml : m.length ≤ 6 := by
        have := congrArg List.length em
        simp at this; omega
      refine sorted_r (x := .dat (.list (m.map dPair))) dPair (fun p q e => pair_inj e) cmp_pair (fun p => ⟨_, _, rfl⟩) (fun p => by have := (pl_pair p).2; omega) rfl (List.Pairwise.of_map (fun x => x.1) (fun a b h e => h (by rw [e])) nm) fun m' pm rm => ?_
      simp
      have pk : (m'.map (·.1)).Perm (m.map (·.1)) := pm.map _
      refine giv (h tp m' (ts.mono (by omega)) ⟨fun p hp => ?_, rises_fst rm (pk.nodup_iff.mpr nm), by rw [pm.length_eq]; exact ml⟩)
      have hp' := pm.mem_iff.mp hp
      refine ⟨?_, hm p hp'⟩
      have : p.1 ∈ m.map (·.1) := List.mem_map_of_mem hp'
      rw [em] at this
      exact sub.subset this
end
end DL
namespace DL
open PySem PySem.Spec PyProof.Rows L2
section
variable {M M' : Sto} {R : DK} {dvs : List DV} {env : Env} {DD : DEnds}
def LoopR (g : DG) (tb : DTS) (DD : DEnds) (lo : Int) (n : Nat) (env : Env) (M : Sto) : Prop := ∃ Pv : Nat → Env → Sto → Prop, Pv 0 env M ∧ (∀ i env M, i ≤ (rangeL lo n).length → Pv i env M → True) ∧
  (∀ i x env M, (rangeL lo n)[i]? = some x → Pv i env M → g x env M fun env2 M2 => tb { DD with nx := Pv (i + 1), ct := Pv (i + 1), bk := DD.nx } env2 M2) ∧ ∀ env M, Pv (rangeL lo n).length env M → DD.nx env M
theorem for_r1 {fa : DA} {g : DG} {tb : DTS} : dFor (dRange1 fa) g tb DD env M = fa env M fun dvs M1 => ∃ j : Int, dvs = [.dat (.int j)] ∧ -(2 ^ 62) ≤ j ∧ j < 2 ^ 62 ∧ LoopR g tb DD 0 j.toNat env M1 := propext Iff.rfl
theorem eqv_stp (a b : Stp) : PyData.eqv (dStp a) (dStp b) = decide (a = b) := by
  by_cases h : a = b
  · subst h
    rw [decide_eq_true rfl]
    exact PySem.W.eqv_refl_alike _ (alike_stp a a)
  · rw [decide_eq_false h]
    cases e : PyData.eqv (dStp a) (dStp b) with
    | false => rfl
    | true => exact absurd (stp_inj ((PySem.W.toks_eqv _ _ (alike_stp a b)).1 e)) h
theorem any_stp {l : List Stp} {s : Stp} : ((l.map dStp).any fun e => PyData.eqv e (dStp s)) = decide (s ∈ l) := by
  induction l with
  | nil => rfl
  | cons x l ih =>
    show (PyData.eqv (dStp x) (dStp s) || ((l.map dStp).any fun e => PyData.eqv e (dStp s))) = _
    rw [ih, eqv_stp]
    by_cases h : x = s
    · subst h; simp
    · have h' : ¬ s = x := fun e => h e.symm
      simp [h, h']
theorem plain_stp (l : List Stp) : PyData.plainAll (l.map dStp) = true := (plAll (n := 3) (by simp only [List.mem_map]; rintro x ⟨q, _, rfl⟩; exact pl_stp q)).1
theorem in_o {neg : Bool} {p : Addr} {d : PyData} {ds : List PyData} (e : M p = some (.lst (ds.map DV.dat))) (h1 : Pl 60 d) (h2 : PyData.plainAll ds = true) (h : R (.dat (.bool (neg ^^ ds.any fun e => PyData.eqv e d))) M) : dIn neg (.dat d) (.obj p) M R := by
  have e2 : datOf M (.obj p) = some (.list ds) := by simp [datOf, e, dats_map]
  have : (match datOf M (.dat d), datOf M (.obj p) with
    | some d, some (.list xs) => Pl 60 d ∧ PyData.plainAll xs = true ∧ R (.dat (.bool (neg ^^ xs.any fun e => PyData.eqv e d))) M
    | some d, some (.tuple xs) => Pl 60 d ∧ PyData.plainAll xs = true ∧ R (.dat (.bool (neg ^^ xs.any fun e => PyData.eqv e d))) M
    | _, _ => False) := by
    rw [e2]
    exact ⟨h1, h2, h⟩
  cases d <;> exact this
theorem add_ol {p : Addr} {ds es : List PyData} (e : M p = some (.lst (ds.map DV.dat))) (hz : ds.length + es.length ≤ sizeLine) (h : R (.dat (.list (ds ++ es))) M) : dAdd (.obj p) (.dat (.list es)) M R := by
  show match lstOf M (.obj p), lstOf M (.dat (.list es)) with
    | some xs, some ys => xs.length + ys.length ≤ sizeLine ∧ match dats (xs ++ ys) with
      | some ds => R (.dat (.list ds)) M
      | none => False
    | _, _ => False
  simp [lstOf, e]
  refine ⟨hz, ?_⟩
  rw [← List.map_append, dats_map]
  exact h
theorem append_r {p : Addr} {xs : List DV} {y : DV} (e : M p = some (.lst xs)) (hz : xs.length < 1000000) (h : R (.dat .none) (M.set p (.lst (xs ++ [y])))) : tyOk "list" (.obj p) M ∧ dAppend (.obj p) [y] M R :=
  ⟨.inr ⟨rfl, xs, by simp [lstOf, e]⟩, p, xs, y, rfl, rfl, e, by have := sz_le (show 1000000 ≤ 1000000 by decide); omega, h⟩
theorem wk_keep {a p : Addr} {d : PyData} {tp : List DV} {n : Int} {xs : List DV} (ha : M a ≠ none) (hp : M p = none) (t : TapeSt tp n) : Wk M (.dat d) ((M.set a (.lst tp)).set p (.lst xs)) (.dat d) (M.set a (.lst tp)) := by
  have np : p ≠ a := fun e => ha (e ▸ hp)
  refine .dat d (fun b m e => ?_) (fun b e => ?_) (fun b m e => ?_)
  · by_cases hb : b = p
    · subst hb
      rw [Sto.set_ne np, hp] at e; cases e
    · rw [Sto.set_ne hb]; exact e
  · by_cases hb : b = a
    · subst hb; rw [Sto.set_same]; simp
    · rw [Sto.set_ne hb]; exact e
  · by_cases hb : b = a
    · subst hb
      rw [Sto.set_same] at e
      cases e
      obtain ⟨ns, s, r, rfl, _⟩ := t
      exact .inr (by simp [objs])
    · rw [Sto.set_ne hb] at e
      exact .inl e
theorem set_comm {a p : Addr} {o o' : MO} (h : a ≠ p) : (M.set a o).set p o' = (M.set p o').set a o := by
  funext b
  by_cases h1 : b = p
  · subst h1
    rw [Sto.set_same, Sto.set_ne (fun e => h e.symm), Sto.set_same]
  · by_cases h2 : b = a
    · subst h2
      rw [Sto.set_ne h1, Sto.set_same, Sto.set_same]
    · rw [Sto.set_ne h1, Sto.set_ne h2, Sto.set_ne h2, Sto.set_ne h1]
/-- the tape and a list beside it -/
def Two (M : Sto) (a p : Addr) (n : Int) (xs : List DV) (M' : Sto) : Prop := ∃ tp, TapeSt tp n ∧ M' = (M.set a (.lst tp)).set p (.lst xs)
theorem Two.tape {a p : Addr} {n : Int} {xs : List DV} (t : Two M a p n xs M') (h : a ≠ p) : TapeAt M' a n := by
  obtain ⟨tp, t, rfl⟩ := t
  exact ⟨tp, by rw [Sto.set_ne h, Sto.set_same], t⟩
theorem Two.set {a p : Addr} {n m : Int} {xs : List DV} {tp : List DV} (t : Two M a p n xs M') (h : a ≠ p) (t' : TapeSt tp m) : Two M a p m xs (M'.set a (.lst tp)) := by
  obtain ⟨tp0, _, rfl⟩ := t
  exact ⟨tp, t', by rw [set_comm h, set_comm h, set_set]⟩
theorem Two.at {a p : Addr} {n : Int} {xs : List DV} (t : Two M a p n xs M') : M' p = some (.lst xs) := by
  obtain ⟨tp, _, rfl⟩ := t
  exact Sto.set_same
theorem Two.put {a p : Addr} {n : Int} {xs ys : List DV} (t : Two M a p n xs M') : Two M a p n ys (M'.set p (.lst ys)) := by
  obtain ⟨tp, h, rfl⟩ := t
  exact ⟨tp, h, set_set⟩
theorem Two.mono {a p : Addr} {n m : Int} {xs : List DV} (t : Two M a p n xs M') (l : n ≤ m) : Two M a p m xs M' := by
  obtain ⟨tp, h, e⟩ := t
  exact ⟨tp, h.mono l, e⟩
theorem Two.out {a p : Addr} {n : Int} {xs : List DV} {d : PyData} (t : Two M a p n xs M') (ha : M a ≠ none) (hp : M p = none) : ∃ tp, TapeSt tp n ∧ Wk M (.dat d) M' (.dat d) (M.set a (.lst tp)) := by
  obtain ⟨tp, h, rfl⟩ := t
  exact ⟨tp, h, wk_keep ha hp h⟩
theorem mo_nil (l : List Str) : MoOk l [] := by
  refine ⟨fun p hp => absurd hp List.not_mem_nil, fun p hp => ?_, Nat.zero_le _⟩
  exact absurd hp List.not_mem_nil
def stl (i : Nat) : Stp := ((i : Int), [], (i : Int))
def tb1 (M : Sto) (a p : Addr) (n : Int) (l : List Str) (many few : Int) (i : Nat) (env : Env) (M' : Sto) : Prop := ∃ (fs : List Stp) (x y z w : Option DV), Two M a p (n + 20 * i) (accD fs) M' ∧ fs.Nodup ∧ (∀ s ∈ fs, StpOk l many s) ∧ fs.length ≤ i ∧
  env = [some (.obj a), some (.dat (.list (sTx l))), some (.dat (.int 5)), some (.dat (.int 12)), some (.dat (.int many)), some (.obj p), some (.dat (.int few)), x, y, z, w]
theorem read__law_table : Reads t__law_table N__law_table.length sp_law_table := by
  rintro _ M R ⟨a, n, l, rfl, ⟨tp0, ea, t0⟩, hn, nd, hl, hp, h⟩
  have ha : M a ≠ none := by rw [ea]; simp
  simp [t__law_table, startD]
  refine draw_r ⟨tp0, ea, t0⟩ (by omega) (by decide) (by decide) fun tp1 v1 t1 a1 b1 => ?_
  simp
  intro p hp0
  have np : a ≠ p := fun e => by subst e; rw [Sto.set_same] at hp0; cases hp0
  have hpM : M p = none := by rw [Sto.set_ne (fun e => np e.symm)] at hp0; exact hp0
  have w1 : Two M a p (n + 1) [] ((M.set a (.lst tp1)).set p (.lst [])) := ⟨tp1, t1, rfl⟩
  generalize (M.set a (.lst tp1)).set p (.lst []) = M1 at w1 ⊢
  refine draw_r (w1.tape np) (by omega) (by decide) (by decide) fun tp2 v2 t2 a2 b2 => ?_
  have w2 := w1.set np t2
  generalize M1.set a (.lst tp2) = M2 at w2 ⊢
  simp
  rw [for_r1]
  simp
  refine draw_r (w2.tape np) (by omega) (by decide) (by decide) fun tp3 v3 t3 a3 b3 => ?_
  have w3 := w2.set np t3
  generalize M2.set a (.lst tp3) = M3 at w3 ⊢
  simp
  have hk : v3.toNat ≤ 12 := by omega
  refine ⟨by omega, by omega, inv_range (tb1 M a p (n + 3) l (1 + v1) (1 + v2)) ⟨[], none, none, none, none, w3.mono (by omega), List.nodup_nil, by simp, by simp, rfl⟩ ?_ ?_⟩
  · rintro i env M' hi ⟨fs, x, y, z, w, tw, nf, of, lf, rfl⟩
    simp only [r_gname, r_seq, r_asg, r_cb, r_cons, r_nil, r_var]
    refine ⟨_, rfl, _, rfl, ?_⟩
    refine draw_r (tw.tape np) (by omega) (by omega) (by omega) fun tp4 v4 t4 a4 b4 => ?_
    have w4 := tw.set np t4
    generalize M'.set a (.lst tp4) = M4 at w4 ⊢
    simp
    refine ⟨a, n + 3 + 20 * i + 1, l, 1 + v2, rfl, w4.tape np, by omega, nd, hl, fun tp5 m t5 mo => ?_⟩
    have w5 := w4.set np t5
    generalize M4.set a (.lst tp5) = M5 at w5 ⊢
    refine draw_r (w5.tape np) (by omega) (by omega) (by omega) fun tp6 v6 t6 a6 b6 => ?_
    have w6 := w5.set np t6
    generalize M5.set a (.lst tp6) = M6 at w6 ⊢
    simp
    refine ⟨sz_le (by decide), in_o (d := dStp (v4, m, v6)) (ds := fs.map dStp) w6.at ((pl_stp _).mono (by omega)) (plain_stp fs) ?_⟩
    rw [any_stp]
    have so : StpOk l (1 + v1) (v4, m, v6) := ⟨a4, b4, mo, a6, b6⟩
    by_cases hm : (v4, m, v6) ∈ fs
    · simp [hm]
      exact ⟨fs, _, _, _, _, w6.mono (by omega), nf, of, by omega, rfl⟩
    · simp [hm]
      refine append_r w6.at (by simp [accD]; omega) ?_
      refine ⟨fs ++ [(v4, m, v6)], _, _, _, _, ?_, ?_, ?_, by simp; omega, rfl⟩
      · have e : accD fs ++ [DV.dat (.tuple [.int v4, dMo m, .int v6])] = accD (fs ++ [(v4, m, v6)]) := by simp [accD, dStp]
        rw [e]
        exact w6.put.mono (by omega)
      · exact List.nodup_append.mpr ⟨nf, by simp, by rintro x hx y hy rfl; rw [List.mem_singleton.mp hy] at hx; exact hm hx⟩
      · intro s hs
        rcases List.mem_append.mp hs with hs | hs
        · exact of s hs
        · rw [List.mem_singleton.mp hs]; exact so
  · rintro env M' ⟨fs, x, y, z, w, tw, nf, of, lf, rfl⟩
    simp
    refine draw_r (tw.tape np) (by omega) (by decide) (by decide) fun tp4 v4 t4 a4 b4 => ?_
    have w4 := tw.set np t4
    generalize M'.set a (.lst tp4) = M4 at w4 ⊢
    simp
    have fin : ∀ {x : DV} (gs : List Stp), lstOf M4 x = some ((gs.map dStp).map DV.dat) → gs.Nodup → (∀ s ∈ gs, StpOk l (1 + v1) s) → gs.length ≤ 60 → dSorted [x] M4 fun x M1 => dTupleOf [x] M1 fun x M1 => match dats [.dat (.tuple (sTx l)), .dat (.int (1 + v1)), x] with
        | some ds => ds.length ≤ sizeLine ∧ ∃ dv' M'', Wk M (.dat (.tuple ds)) M1 dv' M'' ∧ R dv' M''
        | none => False := fun {x} gs e nd og lg => by
      refine sorted_r dStp (fun _ _ e => stp_inj e) cmp_stp (fun s => ⟨_, _, rfl⟩) (fun s => by have := (pl_stp s).2; omega) e nd fun l' pm rl => ?_
      simp
      obtain ⟨tp, ts, wk⟩ := w4.out (d := dTab (l, 1 + v1, l')) ha hpM
      refine ⟨sz_le (by decide), _, _, wk, h tp _ (ts.mono (by omega)) ⟨hp, ‹l.Nodup›, hl, show 1 ≤ 1 + v1 by omega, show 1 + v1 ≤ 2000 by omega, fun s hs => og s (pm.mem_iff.mp hs), rl, by rw [pm.length_eq]; exact lg, pm.nodup_iff.mpr nd⟩ (by show 1 + v1 ≤ 5; omega)⟩
    by_cases h4 : v4 = 0
    · rw [if_pos h4]
      refine ⟨by omega, by omega, ?_⟩
      have nS : (1 + v1).toNat ≤ 5 := by omega
      refine lc_filter (List.range (1 + v1).toNat) (fun i => .dat (.int (0 + (i : Int)))) (fun i => !decide (stl i ∈ fs)) (fun i => dStp (stl i)) trivial (sz_le (by simp; omega)) (fun i hi Q N h1 h2 => ?_) ⟨_, rfl, ?_⟩
      · simp [wipeD]
        refine ⟨sz_le (by decide), in_o (d := dStp (stl i)) (ds := fs.map dStp) w4.at ((pl_stp _).mono (by omega)) (plain_stp fs) ?_⟩
        rw [any_stp]
        by_cases hm : stl i ∈ fs
        · simp [hm]
          exact h2 (by simp [hm])
        · simp [hm]
          exact ⟨sz_le (by decide), h1 (by simp [hm])⟩
      · have eg : ((List.range (1 + v1).toNat).filter fun i => !decide (stl i ∈ fs)).map (fun i => dStp (stl i)) = (((List.range (1 + v1).toNat).filter fun i => !decide (stl i ∈ fs)).map stl).map dStp := by rw [List.map_map]; rfl
        rw [eg]
        generalize hg : ((List.range (1 + v1).toNat).filter fun i => !decide (stl i ∈ fs)).map stl = gs
        have lg : gs.length ≤ 5 := by
          rw [← hg, List.length_map]
          exact Nat.le_trans (List.length_filter_le _ _) (by simp; omega)
        have mg : ∀ s ∈ gs, s ∉ fs ∧ StpOk l (1 + v1) s := by
          intro s hs
          rw [← hg] at hs
          obtain ⟨i, hi, rfl⟩ := List.mem_map.mp hs
          obtain ⟨h1, h2⟩ := List.mem_filter.mp hi
          have h1 : i < (1 + v1).toNat := by simpa using h1
          refine ⟨by simpa using h2, by show 0 ≤ (i : Int); omega, by show (i : Int) < _; omega, mo_nil l, by show 0 ≤ (i : Int); omega, by show (i : Int) < _; omega⟩
        have ng : gs.Nodup := by
          rw [← hg]
          refine List.Pairwise.map stl (fun a b hab e => hab (by have := congrArg Prod.fst e; exact Int.ofNat.inj this)) (List.nodup_range.filter _)
        refine add_ol w4.at (sz_le (by simp; omega)) ?_
        rw [← List.map_append]
        refine fin (fs ++ gs) rfl (List.nodup_append.mpr ⟨nf, ng, fun x hx y hy e => (mg y hy).1 (e ▸ hx)⟩) (fun s hs => ?_) (by simp; omega)
        rcases List.mem_append.mp hs with hs | hs
        · exact of s hs
        · exact (mg s hs).2
    · rw [if_neg h4]
      exact fin fs (by simp [lstOf, w4.at, accD]) nf of (by omega)
end
end DL
namespace DL
open PySem PySem.Spec PyProof.Rows L2
section
variable {M M' : Sto} {R : DK} {dvs : List DV} {env : Env} {DD : DEnds}
theorem lst_at {p : Addr} {xs : List DV} (e : M p = some (.lst xs)) : lstOf M (.obj p) = some xs := by simp [lstOf, e]
def iD (xs : List Int) : List DV := xs.map fun i => DV.dat (.int i)
def gr1 (M : Sto) (a p : Addr) (n : Int) (t : Tab) (i : Nat) (env : Env) (M' : Sto) : Prop := ∃ (xs : List Int) (z : Int) (w0 w1 w2 w3 w4 : Option DV), Two M a p (n + 2 * i) (iD (xs ++ [z])) M' ∧ xs.length = i ∧ (xs ++ [z]).Pairwise (· < ·) ∧ (∀ v ∈ xs ++ [z], 0 ≤ v ∧ v ≤ 120 * i) ∧ (i : Int) ≤ z ∧
  env = [some (.obj a), some (.dat (dTab t)), some (.dat (.tuple (sTx t.1))), some (.dat (.int t.2.1)), some (.dat (.tuple (t.2.2.map dStp))), some (.obj p), w0, w1, w2, w3, w4]
def nv (xs : List Int) (k : Int) : Int := xs.getD k.toNat 0
def mv (xs : List Int) (s : Stp) : Stp := (nv xs s.1, s.2.1, nv xs s.2.2)
theorem nv_at {xs : List Int} {k : Int} (h0 : 0 ≤ k) (h1 : k < xs.length) : atI (iD xs) k = some (.dat (.int (nv xs k))) := by
  obtain ⟨j, rfl⟩ := Int.eq_ofNat_of_zero_le h0
  have hj : j < xs.length := by omega
  unfold iD
  rw [at_map, at_nat hj]
  simp [nv, hj]
theorem nv_lt {xs : List Int} (h : xs.Pairwise (· < ·)) {j k : Int} (h0 : 0 ≤ j) (h1 : j < k) (h2 : k < xs.length) : nv xs j < nv xs k := by
  obtain ⟨a, rfl⟩ := Int.eq_ofNat_of_zero_le h0
  obtain ⟨b, rfl⟩ := Int.eq_ofNat_of_zero_le (show 0 ≤ k by omega)
  have ha : a < xs.length := by omega
  have hb : b < xs.length := by omega
  have := List.pairwise_iff_getElem.mp h a b ha hb (by omega)
  simpa [nv, ha, hb] using this
theorem nv_inj {xs : List Int} (h : xs.Pairwise (· < ·)) {j k : Int} (h0 : 0 ≤ j) (h1 : j < xs.length) (h2 : 0 ≤ k) (h3 : k < xs.length) (e : nv xs j = nv xs k) : j = k := by
  by_cases a : j < k
  · have := nv_lt h h0 a h3; omega
  · by_cases b : k < j
    · have := nv_lt h h2 b h1; omega
    · omega
theorem draw_pick {M : Sto} {a : Addr} {n : Int} {R : DK} (t : TapeAt M a n) (hn : n < 900000) (h : ∀ tp v, TapeSt tp (n + 2) → 0 ≤ v → v < 120 → R (.dat (.int v)) (M.set a (.lst tp))) :
    sp_law_draw [.obj a, .dat (.int 3)] M fun x M1 => dIx (.dat (.list [.int 2, .int 12, .int 120])) x M1 fun y M2 => sp_law_draw [.obj a, y] M2 R := by
  refine draw_r t (by omega) (by decide) (by decide) fun tp1 v1 t1 a1 b1 => ?_
  have step : ∀ k : Int, 1 ≤ k → k ≤ 120 → sp_law_draw [.obj a, .dat (.int k)] (M.set a (.lst tp1)) R := fun k h1 h2 => draw_r (TapeAt.set t1) (by omega) h1 (by omega) fun tp2 v2 t2 a2 b2 => by
    rw [set_set]
    exact h tp2 v2 (by rw [show n + 2 = n + 1 + 1 by omega]; exact t2) a2 (by omega)
  have : v1 = 0 ∨ v1 = 1 ∨ v1 = 2 := by omega
  rcases this with rfl | rfl | rfl
  · simp; exact step 2 (by decide) (by decide)
  · simp; exact step 12 (by decide) (by decide)
  · simp; exact step 120 (by decide) (by decide)
theorem read__law_great : Reads t__law_great N__law_great.length sp_law_great := by
  rintro _ M R ⟨a, n, t, rfl, ⟨tp0, ea, t0⟩, hn, ok, h5, h⟩
  have ha : M a ≠ none := by rw [ea]; simp
  have lo := ok.lo
  simp [t__law_great, startD, dTab]
  refine ⟨sz_le (by decide), fun p hp => ?_⟩
  have np : a ≠ p := fun e => by subst e; rw [hp] at ea; cases ea
  have w1 : Two M a p n [.dat (.int 0)] (M.set p (.lst [.dat (.int 0)])) := ⟨tp0, t0, by rw [set_eq ea]⟩
  generalize M.set p (.lst [.dat (.int 0)]) = M1 at w1 ⊢
  rw [for_r1]
  simp
  refine ⟨by omega, by omega, inv_range (gr1 M a p n t) ⟨[], 0, none, none, none, none, none, by simpa [iD] using w1, rfl, by simp, by simp, by simp, rfl⟩ ?_ ?_⟩
  · rintro i env M' hi ⟨xs, z, u0, u1, u2, u3, u4, tw, lx, inc, bd, zi, rfl⟩
    simp
    have hl : iD (xs ++ [z]) = iD xs ++ [.dat (.int z)] := by simp [iD]
    have at0 := tw.at
    refine ⟨.inr ⟨rfl, _, lst_at at0⟩, iD (xs ++ [z]), lst_at at0, .dat (.int z), by rw [hl]; exact at_last, ?_⟩
    simp
    refine ⟨sz_le (by decide), draw_pick (tw.tape np) (by omega) fun tp v t1 v0 v1 => ?_⟩
    have w2 := tw.set np t1
    generalize M'.set a (.lst tp) = M2 at w2 ⊢
    simp
    refine (append_r w2.at (by simp [iD]; omega) ?_).2
    have e6 : iD (xs ++ [z]) ++ [DV.dat (.int (z + 1 + v))] = iD ((xs ++ [z]) ++ [z + 1 + v]) := by simp [iD]
    rw [e6]
    have bz := bd z (by simp)
    refine ⟨xs ++ [z], z + 1 + v, _, _, _, _, _, w2.put.mono (by omega), by simp [lx], ?_, ?_, by omega, rfl⟩
    · refine List.pairwise_append.mpr ⟨inc, by simp, fun x hx y hy => ?_⟩
      rw [List.mem_singleton.mp hy]
      have : x ≤ z := by
        rcases List.mem_append.mp hx with hx | hx
        · have := (List.pairwise_append.mp inc).2.2 x hx z (by simp); omega
        · rw [List.mem_singleton.mp hx]; omega
      omega
    · intro y hy
      rcases List.mem_append.mp hy with hy | hy
      · have := bd y hy; omega
      · rw [List.mem_singleton.mp hy]; omega
  · rintro env M' ⟨xs, z, u0, u1, u2, u3, u4, tw, lx, inc, bd, zi, rfl⟩
    have many : ((xs ++ [z]).length : Int) = t.2.1 + 1 := by simp [lx]; omega
    have bz := bd z (by simp)
    have hl : iD (xs ++ [z]) = iD xs ++ [.dat (.int z)] := by simp [iD]
    have at0 := tw.at
    have nz : ∀ k : Int, 0 ≤ k → k < t.2.1 → 0 ≤ nv (xs ++ [z]) k ∧ nv (xs ++ [z]) k < z := fun k h0 h1 => by
      have e : nv (xs ++ [z]) t.2.1 = z := by
        unfold nv
        have : t.2.1.toNat = xs.length := by omega
        rw [this, List.getD_eq_getElem?_getD, List.getElem?_append_right (Nat.le_refl _)]
        simp
      have lt := nv_lt inc h0 h1 (by omega)
      rw [e] at lt
      refine ⟨?_, lt⟩
      have hk : k.toNat < (xs ++ [z]).length := by omega
      have : nv (xs ++ [z]) k ∈ xs ++ [z] := by
        unfold nv
        rw [List.getD_eq_getElem?_getD, List.getElem?_eq_getElem hk]
        exact List.getElem_mem hk
      exact (bd _ this).1
    simp
    refine lc_map t.2.2 (fun s => .dat (dStp s)) (fun s => dStp (mv (xs ++ [z]) s)) (by simp) (sz_le (by have := ok.short; omega)) (fun s hs Q hQ => ?_) ⟨_, rfl, ?_⟩
    · have so := ok.steps s hs
      simp [wipeD, dStp]
      refine ⟨_, lst_at at0, _, nv_at (xs := xs ++ [z]) so.1 (by have := so.2.1; omega), _, lst_at at0, _, nv_at (xs := xs ++ [z]) so.2.2.2.1 (by have := so.2.2.2.2; omega), ?_⟩
      simp
      exact ⟨sz_le (by decide), hQ⟩
    · have em : t.2.2.map (fun s => dStp (mv (xs ++ [z]) s)) = (t.2.2.map (mv (xs ++ [z]))).map dStp := by rw [List.map_map]; rfl
      have nm : (t.2.2.map (mv (xs ++ [z]))).Nodup := by
        refine List.Pairwise.map (mv (xs ++ [z])) ?_ (List.Pairwise.and_mem.mp ok.uniq)
        rintro s s' ⟨hs, hs', ne⟩ e
        have so := ok.steps s hs
        have so' := ok.steps s' hs'
        have e1 : nv (xs ++ [z]) s.1 = nv (xs ++ [z]) s'.1 := congrArg Prod.fst e
        have e2 : s.2.1 = s'.2.1 := congrArg (fun q => q.2.1) e
        have e3 : nv (xs ++ [z]) s.2.2 = nv (xs ++ [z]) s'.2.2 := congrArg (fun q => q.2.2) e
        have f1 := nv_inj inc so.1 (by have := so.2.1; omega) so'.1 (by have := so'.2.1; omega) e1
        have f3 := nv_inj inc so.2.2.2.1 (by have := so.2.2.2.2; omega) so'.2.2.2.1 (by have := so'.2.2.2.2; omega) e3
        exact ne (Prod.ext f1 (Prod.ext e2 f3))
      have fin : ∀ (m : Int) (M2 : Sto), z ≤ m → m ≤ 2000 → Two M a p (n + 2 * t.2.1.toNat + 1) (iD (xs ++ [z])) M2 → dSorted [.dat (.list (t.2.2.map fun s => dStp (mv (xs ++ [z]) s)))] M2 fun x_1 M1 => dTupleOf [x_1] M1 fun x_2 M1 => match dats [.dat (.tuple (sTx t.1)), .dat (.int m), x_2] with
          | some ds => ds.length ≤ sizeLine ∧ ∃ dv' M'', Wk M (.dat (.tuple ds)) M1 dv' M'' ∧ R dv' M''
          | none => False := fun m M2 hz hm w2 => by
        rw [em]
        refine sorted_r (l := t.2.2.map (mv (xs ++ [z]))) dStp (fun _ _ e => stp_inj e) cmp_stp (fun s => ⟨_, _, rfl⟩) (fun s => by have := (pl_stp s).2; omega) rfl nm fun l' pm rl => ?_
        simp
        obtain ⟨tp, ts, wk⟩ := w2.out (d := dTab (t.1, m, l')) ha hp
        have ll : l'.length = t.2.2.length := by rw [pm.length_eq, List.length_map]
        refine ⟨sz_le (by decide), _, _, wk, h tp _ (ts.mono (by omega)) ⟨ok.ports, ok.nodup, ok.few, show 1 ≤ m by omega, hm, fun s hs => ?_, rl, by show l'.length ≤ 60; rw [ll]; exact ok.short, pm.nodup_iff.mpr nm⟩⟩
        obtain ⟨s0, h0, rfl⟩ := List.mem_map.mp (pm.mem_iff.mp hs)
        have so := ok.steps s0 h0
        obtain ⟨q1, q2⟩ := nz s0.1 so.1 so.2.1
        obtain ⟨q3, q4⟩ := nz s0.2.2 so.2.2.2.1 so.2.2.2.2
        exact ⟨q1, show nv (xs ++ [z]) s0.1 < m by omega, so.2.2.1, q3, show nv (xs ++ [z]) s0.2.2 < m by omega⟩
      refine ⟨_, lst_at at0, .dat (.int z), by rw [hl]; exact at_last, ?_⟩
      simp
      refine ⟨sz_le (by decide), draw_r (tw.tape np) (by omega) (by decide) (by decide) fun tp v t1 v0 v1 => ?_⟩
      have w2 := tw.set np t1
      have hv : v = 0 ∨ v = 1 := by omega
      rcases hv with rfl | rfl
      · simp
        exact fin z _ (by omega) (by omega) (w2.mono (by omega))
      · simp
        exact fin 2000 _ (by omega) (by omega) (w2.mono (by omega))
end
end DL
namespace DL
open PySem PySem.Spec PyProof.Rows L2
/-! ### texts put together -/
theorem s_assoc (a b c : Str) : a ++ b ++ c = a ++ (b ++ c) := by
  show (⟨a.cps ++ b.cps ++ c.cps⟩ : Str) = ⟨a.cps ++ (b.cps ++ c.cps)⟩
  rw [Array.append_assoc]
@[simp] theorem s_len (a b : Str) : (a ++ b).length = a.length + b.length := by
  show (a.cps ++ b.cps).size = _
  rw [Array.size_append]; rfl
theorem s_nil (a : Str) : a ++ Str.ofString "" = a := by
  have e : (Str.ofString "").cps = #[] := by decide +kernel
  show (⟨a.cps ++ (Str.ofString "").cps⟩ : Str) = a
  rw [e, Array.append_empty]
theorem s_nil2 (a : Str) : Str.ofString "" ++ a = a := by
  have e : (Str.ofString "").cps = #[] := by decide +kernel
  show (⟨(Str.ofString "").cps ++ a.cps⟩ : Str) = a
  rw [e, Array.empty_append]
def tailT : List Str → Str
  | [] => Str.ofString ""
  | w :: ws => Str.ofString " " ++ w ++ tailT ws
theorem tailT_app : ∀ a b : List Str, tailT (a ++ b) = tailT a ++ tailT b
  | [], b => (s_nil2 _).symm
  | w :: a, b => by
    show Str.ofString " " ++ w ++ tailT (a ++ b) = Str.ofString " " ++ w ++ tailT a ++ tailT b
    rw [tailT_app a b, s_assoc (Str.ofString " " ++ w)]
theorem join_tail (w : Str) : ∀ ws : List Str, Txt.join blank (w :: ws) = w ++ tailT ws := by
  intro ws
  rw [TL.join_eq]
  induction ws generalizing w with
  | nil => exact (s_nil w).symm
  | cons v vs ih =>
    show w ++ blank ++ Str.join blank (v :: vs) = _
    rw [ih v]
    show w ++ Str.ofString " " ++ (v ++ tailT vs) = w ++ (Str.ofString " " ++ v ++ tailT vs)
    rw [s_assoc, s_assoc]
theorem join_none : ∀ ws : List Str, Txt.join (Str.ofString "") (ws.map fun w => Str.ofString " " ++ w) = tailT ws := by
  intro ws
  rw [TL.join_eq]
  induction ws with
  | nil => rfl
  | cons w ws ih =>
    cases ws with
    | nil => exact (s_nil _).symm
    | cons v vs =>
      show Str.ofString " " ++ w ++ Str.ofString "" ++ Str.join (Str.ofString "") ((v :: vs).map fun w => Str.ofString " " ++ w) = _
      rw [ih, s_nil]; rfl
theorem head_eq (t : Tab) : Str.ofString "table " ++ numT t.2.1 ++ tailT t.1 = Txt.join blank (headWords t) := by
  unfold headWords
  rw [join_tail]
  show _ = Str.ofString "table" ++ (Str.ofString " " ++ numT t.2.1 ++ tailT t.1)
  have e : Str.ofString "table " = Str.ofString "table" ++ Str.ofString " " := by decide +kernel
  rw [e, s_assoc, s_assoc, s_assoc]
def preT (s : Stp) : Str := Str.ofString "step " ++ numT s.1 ++ Str.ofString " " ++ numT s.2.2
theorem line_eq (s : Stp) : preT s ++ tailT (moWords s.2.1) = lineOf s := by
  unfold lineOf stpWords preT
  rw [join_tail]
  show _ = Str.ofString "step" ++ (Str.ofString " " ++ numT s.1 ++ (Str.ofString " " ++ numT s.2.2 ++ tailT (moWords s.2.1)))
  have e : Str.ofString "step " = Str.ofString "step" ++ Str.ofString " " := by decide +kernel
  rw [e]
  simp only [s_assoc]
theorem tail_len : ∀ {ws : List Str}, (∀ w ∈ ws, w.length ≤ 100) → (tailT ws).length ≤ ws.length * 101
  | [], _ => by
    have : (Str.ofString "").length = 0 := by decide +kernel
    simp [tailT, this]
  | w :: ws, h => by
    have h1 := tail_len fun x hx => h x (List.mem_cons_of_mem w hx)
    have h2 := h w List.mem_cons_self
    have e : (Str.ofString " ").length = 1 := by decide +kernel
    simp [tailT, e]
    omega
section
variable {M M' : Sto} {R : DK} {dvs : List DV} {env : Env} {DD : DEnds}
def LoopL (g : DG) (tb : DTS) (DD : DEnds) (xs : List DV) (S : Sto → Prop) (env : Env) (M : Sto) : Prop := ∃ Pv : Nat → Env → Sto → Prop, Pv 0 env M ∧ (∀ i env M, i ≤ xs.length → Pv i env M → S M) ∧
  (∀ i x env M, xs[i]? = some x → Pv i env M → g x env M fun env2 M2 => tb { DD with nx := Pv (i + 1), ct := Pv (i + 1), bk := DD.nx } env2 M2) ∧ ∀ env M, Pv xs.length env M → DD.nx env M
theorem for_l {fe : DT} {g : DG} {tb : DTS} : dFor (dSrc fe) g tb DD env M = fe env M fun x M1 => ∃ xs, seqOf M1 x = some xs ∧ LoopL g tb DD xs (fun M => seqOf M x = some xs) env M1 := propext Iff.rfl
theorem loop_l {α : Type} {l : List α} {d : α → DV} {S : Sto → Prop} {g : DG} {tb : DTS} (Pv : Nat → Env → Sto → Prop) (p0 : Pv 0 env M) (keep : ∀ i env M, Pv i env M → S M)
    (step : ∀ i x env M, l[i]? = some x → Pv i env M → g (d x) env M fun env2 M2 => tb { DD with nx := Pv (i + 1), ct := Pv (i + 1), bk := DD.nx } env2 M2) (done : ∀ env M, Pv l.length env M → DD.nx env M) : LoopL g tb DD (l.map d) S env M := by
  refine ⟨Pv, p0, fun i env M _ p => keep i env M p, fun i x env M e p => ?_, fun env M p => done env M (by rw [List.length_map] at p; exact p)⟩
  rw [List.getElem?_map] at e
  obtain ⟨y, e1, rfl⟩ := Option.map_eq_some_iff.mp e
  exact step i y env M e1 p
def txD (l : List Str) : List DV := (sTx l).map DV.dat
def ln1 (M : Sto) (p : Addr) (t : Tab) (i : Nat) (env : Env) (M' : Sto) : Prop := ∃ w2 w3 w4 w5 w6 : Option DV, M' = M.set p (.lst (txD (Txt.join blank (headWords t) :: (t.2.2.take i).map lineOf))) ∧ env = [some (.dat (dTab t)), some (.obj p), w2, w3, w4, w5, w6]
def ln2 (M : Sto) (p : Addr) (t : Tab) (s : Stp) (i j : Nat) (env : Env) (M' : Sto) : Prop := ∃ w2 w6 : Option DV, M' = M.set p (.lst (txD ((Txt.join blank (headWords t) :: (t.2.2.take i).map lineOf) ++ [preT s ++ tailT (moWords (s.2.1.take j))]))) ∧
  env = [some (.dat (dTab t)), some (.obj p), w2, some (.dat (.int s.1)), some (.dat (dMo s.2.1)), some (.dat (.int s.2.2)), w6]
theorem read__law_lines : Reads t__law_lines N__law_lines.length sp_law_lines := by
  rintro _ M R ⟨t, rfl, ok, h⟩
  have a1 := numOk (by have := ok.lo; omega) ok.hi
  have f := ok.few
  have hi := a1.hi
  have l6 : (Str.ofString "table ").length = 6 := by decide +kernel
  have l1 : (Str.ofString " ").length = 1 := by decide +kernel
  have l0 : (Str.ofString "").length = 0 := by decide +kernel
  have l5 : (Str.ofString "step ").length = 5 := by decide +kernel
  simp [t__law_lines, startD, dTab, a1.log]
  have hs : (sTx t.1).map DV.dat = t.1.map fun s => DV.dat (.str s) := by unfold sTx; rw [List.map_map]; rfl
  have pl : ∀ s ∈ t.1, s.length ≤ 8 := fun s hs => (ok.ports s hs).2.1
  have tl : (tailT t.1).length ≤ 6 * 101 := Nat.le_trans (tail_len fun w hw => by have := pl w hw; omega) (Nat.mul_le_mul_right _ f)
  rw [hs]
  refine ⟨sz_le (by omega), lc_map t.1 (fun s => .dat (.str s)) (fun s => .str (Str.ofString " " ++ s)) trivial (sz_le (by omega)) (fun s hs Q hQ => ?_) ⟨_, rfl, ?_⟩⟩
  · have := pl s hs
    simp [wipeD, l1]
    exact ⟨sz_le (by omega), hQ⟩
  · have ej : t.1.map (fun s => PyData.str (Str.ofString " " ++ s)) = sTx (t.1.map fun s => Str.ofString " " ++ s) := by unfold sTx; rw [List.map_map]; rfl
    rw [ej]
    refine join_r ?_ ?_
    · have := sum_le (f := fun y : Str => y.length) (k := 100) (l := t.1.map fun s => Str.ofString " " ++ s) (fun w hw => by
        obtain ⟨s, hs, rfl⟩ := List.mem_map.mp hw
        have := pl s hs
        simp [l1]; omega)
      rw [l0]
      simp at this ⊢
      omega
    · rw [join_none]
      simp
      refine ⟨sz_le (by omega), sz_le (by decide), fun p hp => ?_⟩
      rw [head_eq, for_l]
      simp
      refine loop_l (l := t.2.2) (d := fun s => .dat (dStp s)) (ln1 M p t) ⟨none, none, none, none, none, rfl, rfl⟩ (fun _ _ _ _ => by simp) ?_ ?_
      · rintro i s env M' e1 ⟨w2, w3, w4, w5, w6, rfl, rfl⟩
        have so := ok.steps s (List.mem_of_getElem? e1)
        have n1 := numOk so.1 (by have := so.2.1; have := ok.hi; omega)
        have n2 := numOk so.2.2.2.1 (by have := so.2.2.2.2; have := ok.hi; omega)
        have tk := take_sub e1
        have h1 := n1.hi
        have h2 := n2.hi
        have pre5 : (preT s).length ≤ 14 := by simp [preT, l5, l1]; omega
        simp [dStp, n1.log, n2.log, l5, l1]
        refine ⟨.inr ⟨rfl, _, lst_at Sto.set_same⟩, sz_le (by omega), sz_le (by omega), sz_le (by omega), ?_⟩
        refine (append_r Sto.set_same (by have := ok.short; simp [txD, sTx]; omega) ?_).2
        have e0 : ∀ H : List Str, txD H ++ [DV.dat (.str (Str.ofString "step " ++ numT s.1 ++ Str.ofString " " ++ numT s.2.2))] = txD (H ++ [preT s ++ tailT (moWords (s.2.1.take 0))]) := fun H => by
          simp [txD, sTx, preT, moWords, tailT, s_nil]
        rw [set_set, ← List.map_take, e0]
        have mo := so.2.2.1
        refine for_seq (xs := s.2.1) (d := fun q => .dat (dPair q)) (i0 := 4) rfl (by simp [dMo]) (ln2 M p t s i) ⟨w2, w6, rfl, rfl⟩ (fun _ _ _ _ => rfl) ?_ ?_
        · rintro k q env M' e2 ⟨u2, u6, rfl, rfl⟩
          obtain ⟨q1, q2, q3⟩ := mo.1 q (List.mem_of_getElem? e2)
          have n3 := numOk q2 (by omega)
          have h3 := n3.hi
          have p8 := (ok.ports _ q1).2.1
          have tk2 := take_sub e2
          have wl : (tailT (moWords (s.2.1.take k))).length ≤ 12 * 101 := by
            refine Nat.le_trans (tail_len fun w hw => ?_) (Nat.mul_le_mul_right _ ?_)
            · obtain ⟨r, hr, rfl | rfl⟩ := moWords_mem hw
              · have := (ok.ports _ (mo.1 r (List.mem_of_mem_take hr)).1).2.1; omega
              · have := mo.1 r (List.mem_of_mem_take hr)
                have := (numOk this.2.1 (by omega)).hi; omega
            · rw [moWords_len, List.length_take]
              have := mo.2.2; omega
          generalize hH : Txt.join blank (headWords t) :: (t.2.2.take i).map lineOf = H
          have eT : txD (H ++ [preT s ++ tailT (moWords (s.2.1.take k))]) = txD H ++ [.dat (.str (preT s ++ tailT (moWords (s.2.1.take k))))] := by simp [txD]; simp [sTx]
          have e5 : preT s ++ tailT (moWords (s.2.1.take k)) ++ Str.ofString " " ++ q.1 ++ Str.ofString " " ++ numT q.2 = preT s ++ tailT (moWords (s.2.1.take (k + 1))) := by
            rw [tk2]
            have : moWords (s.2.1.take k ++ [q]) = moWords (s.2.1.take k) ++ [q.1, numT q.2] := by simp [moWords]
            rw [this, tailT_app]
            show _ = preT s ++ (tailT (moWords (s.2.1.take k)) ++ (Str.ofString " " ++ q.1 ++ (Str.ofString " " ++ numT q.2 ++ Str.ofString "")))
            rw [s_nil]
            simp only [s_assoc]
          generalize hL : preT s ++ tailT (moWords (s.2.1.take k)) = L at e5 eT ⊢
          have lL : L.length ≤ 14 + 12 * 101 := by rw [← hL, s_len]; omega
          have last : atI (txD (H ++ [L])) (-1) = some (.dat (.str L)) := by rw [eT]; exact at_last
          simp [dPair]
          refine ⟨_, lst_at Sto.set_same, _, last, ?_⟩
          simp [n3.log, l1]
          refine ⟨sz_le (by omega), sz_le (by omega), sz_le (by omega), sz_le (by omega), _, Sto.set_same, H.length, ?_, ?_⟩
          · have : (txD (H ++ [L])).length = H.length + 1 := by simp [txD, sTx]
            rw [this]
            unfold ixN
            rw [if_neg (by omega), if_pos (by omega)]
            congr 1; omega
          · have : (txD (H ++ [L])).set H.length (DV.dat (.str (L ++ Str.ofString " " ++ q.1 ++ Str.ofString " " ++ numT q.2))) = txD (H ++ [preT s ++ tailT (moWords (s.2.1.take (k + 1)))]) := by
              rw [e5, eT]
              have hl : (txD H).length = H.length := by simp [txD, sTx]
              rw [← hl, List.set_append_right _ _ (Nat.le_refl _)]
              simp [txD, sTx]
            rw [this, set_set, ← hH]
            exact ⟨_, _, rfl, rfl⟩
        · rintro env M' ⟨u2, u6, rfl, rfl⟩
          refine ⟨_, _, _, _, _, ?_, rfl⟩
          rw [List.take_length, line_eq, tk, List.map_append]
          rfl
      · rintro env M' ⟨w2, w3, w4, w5, w6, rfl, rfl⟩
        simp
        refine ⟨.dat (.list (sTx (linesOf t))), M, .frz p _ (by rw [Sto.set_same]; rfl) hp (fun a m e => ?_) (fun a e => e) (fun a m e => .inl e), h⟩
        rw [Sto.set_ne (fun z => by subst z; rw [hp] at e; cases e)]; exact e
end
end DL
/-! ### the law's own call: nothing is being shown, so repr of lists and tuples may be asked -/
namespace DL
open PySem PySem.Spec PyProof.Rows L2
open PySem.W (codeIn fnOf)
abbrev BackG (P : Program) (w : World) (H : Hp) (s : Shared) (Q : VK) : Result → Shared → Prop := CR CX0 [] P w H s Q E0
def RunG (P : Program) (w : World) (K : PySem.W.Frag) (mg : Str → Option Value) (base : Heap) (fa : Addr) (fd : FuncData) (x : Str) (sp : DC) : Prop :=
  ∀ (s : Shared) (H : Hp) (u : Value) (v : V) (Q : VK), Env0 P w K mg base callerA [] s H → BindsTo s fd ⟨[u], []⟩ [(x, u)] → RelV v u → upC K sp [v] H Q → codeAny (model P w) callerA (.call (.ref fa) ⟨[u], []⟩) (BackG P w H s Q) s
theorem run_of {P : Program} {w : World} {K : PySem.W.Frag} {mg : Str → Option Value} {base : Heap} {k : Nat} {f : Addr} {x y qual : Str} {params : Arguments} {body : List Stmt} {scope : Scope} {fd : FuncData} {N : List Str} {sp : DC}
    (F : FunD K y qual params body scope [] [] f fd) (S : FnScope N [x] scope) (room : Room (k + 1) callerA) (len : ∀ dvs M R, sp dvs M R → dvs.length = 1) (t : DTS)
    (hbody : ∀ (cdv : Value) (s : Shared) (H : Hp), Room k (callerA.deeper (envOfC qual scope s.heap.objs.size f cdv)) → DSs (cxOf CX0 P w K mg base N qual scope f cdv callerA [] s H E0).nox body t)
    (read : ∀ dvs M R, sp dvs M R → t { nx := fun _ M' => ∃ dv' M'', Wk M (.dat .none) M' dv' M'' ∧ R dv' M'', rt := fun dv M' => ∃ dv' M'', Wk M dv M' dv' M'' ∧ R dv' M'' } (startD N.length dvs) M) : RunG P w K mg base f fd x sp := by
  obtain ⟨oc, od, dV, kV, doc, pm, an, cdv, ct, osl, rfl, lk, hcd, _, _⟩ := F.ex
  intro s H u v Q e0 hb rv ⟨Hid, M, dvs, R, sk, r, q, kk⟩
  have held : ∀ b o, base.get? b = some o → s.heap.get? b = some o := fun b o e => (e0.bs b o e).1
  have kin : K.In s.heap := e0.mod.kin.keeps held
  have nolim : s.heap.NoLimit := e0.mod.nolimit.keeps held
  have bound : ∀ z ∈ [x].zip [u], scope.names.lookup z.1 = some .local ∨ (scope.names.lookup z.1 = some .cell ∧ ((cellsFrom (s.heap.objs.size + 1) scope.names []).lookup z.1).isSome = true) := fun ⟨n, z⟩ hz =>
    (S.par n (List.of_mem_zip hz).1).elim .inl fun c => .inr ⟨c, PySem.W.cellsFrom_some _ _ _ (.inl c)⟩
  refine codeAny_call_function room.depth (kin _ _ lk) rfl S.co S.gen rfl (PySem.W.codeRec_of kin hcd) (hb _ _ _ _ ?_)
  refine wpAny_newFunctionEnv_cells S.kind bound fun env he s1 into => ?_
  subst he
  refine ⟨nolim.keeps into.toInCall.keep, codeAny_func ?_⟩
  have hl : [v].length = [x].length := rfl
  have I : Inv (cxOf CX0 P w K mg base N qual scope f cdv callerA [] s H E0) [] (L2.start N [v]) H s1 := inv_start S room.hd e0 hl (.cons rv .nil) into
  have body := hbody cdv s H (room.deeper _)
  have go : upS K t { nx := fun _ H' => Q .non H', rt := Q } (L2.start N [v]) H := by
    refine ⟨Hid, _, M, _, ok_start sk r, read dvs M R q, ⟨fun env' M' σ' H' f o q' => ?_, fun v H' p => kk v H' (p.wk sk fun _ _ z => z), fun _ _ _ _ _ _ z => z.elim, fun _ _ _ _ _ _ z => z.elim⟩⟩
    exact kk .non H' (Post.wk sk ⟨.dat .none, M', f, o.sok, Fz.non, q'⟩ fun dv M z => z)
  refine wpAny_mono ((PSs.nox body).run [] s1 (L2.start N [v]) H _ I go) (fun fl s2 out => ?_) fun e s2 out => out
  have done : ∀ {σ2 : L2.St} {H2 : Hp} {z : V} {zu : Value}, Inv (cxOf CX0 P w K mg base N qual scope f cdv callerA [] s H E0) [] σ2 H2 s2 → RelV z zu → Q z H2 → CE [] P w H s Q zu s2 := fun {σ2 H2 z zu} J rz qz => ⟨z, H2, J.os, J.bare, J.base, J.hok, rz, qz⟩
  cases fl with
  | ret zu => exact let ⟨z, σ2, H2, J, rz, qz⟩ := out; done J rz qz
  | next => exact let ⟨σ2, H2, J, qz⟩ := out; done (z := V.non) (zu := Value.none) J rfl qz
  | brk => exact let ⟨_, _, _, qz⟩ := out; False.elim qz
  | cont => exact let ⟨_, _, _, qz⟩ := out; False.elim qz
theorem law_callG {P : Program} {w : World} {K : PySem.W.Frag} {mg mb : Str → Option Value} {fa a : Addr} {fd : FuncData} {x : Str} {sp : DC} {s₁ : Shared} {vs : List Value} {ns : List Int}
    (KX : K.In s₁.heap) (top : s₁.heap.Ns mainGlobals mg) (bn : s₁.heap.Ns builtinsNs mb) (bb : ∀ x : Str, x ≠ "__name__" → mb x = bootBuiltins x) (lim : s₁.heap.NoLimit) (gens : s₁.gens = #[])
    (ha : s₁.heap.get? a = some { cls := .type "list", data := .seq vs.toArray }) (hi : IntsAre vs ns) (hl : ns.length ≤ sizeLine) (F : ∀ base : Heap, K.In base → base.Ns mainGlobals mg → RunG P w K mg base fa fd x sp) (bind : ∀ (s : Shared) (u : Value), BindsTo s fd ⟨[u], []⟩ [(x, u)])
    (hsp : ∀ H : Hp, Only H → SqL K H a (ns.map V.int) → upC K sp [.ref a] H (fun v _ => v = .bl true)) :
    codeAny (model P w) callerA (.call (.ref fa) ⟨[.ref a], []⟩) (fun r s' => r = .ok (.ret (.bool true)) ∧ OldK s₁.heap s'.heap ∧ s'.os = s₁.os ∧ AllBare s'.gens) s₁ := by
  have rv := vals_ints hi
  have nlen := hi.length
  have core : ∀ H : Hp, Only H → SqL K H a (ns.map V.int) → HOk P w H s₁.heap → (∀ b, H b ≠ none → b = a) → (H a ≠ none → K.lookup a = none) →
      codeAny (model P w) callerA (.call (.ref fa) ⟨[.ref a], []⟩) (fun r s' => r = .ok (.ret (.bool true)) ∧ OldK s₁.heap s'.heap ∧ s'.os = s₁.os ∧ AllBare s'.gens) s₁ := by
    intro H only sq hok one notK
    have low : ∀ {b : Addr} {o : Obj}, s₁.heap.get? b = some o → H b = none → (hidT s₁.heap H).get? b = some o := fun e n => hidT_get e n
    have dictFree : ∀ {b : Addr} {o : Obj} {es : Array DictEntry} {ep : Nat}, s₁.heap.get? b = some o → o.data = .dict es ep → H b = none := fun {b o es ep} e d => by
      cases q : H b with
      | none => rfl
      | some u =>
        obtain rfl : b = a := one b (by rw [q]; simp)
        rw [ha] at e; cases e
        exact nomatch (show Data.seq vs.toArray _ = Data.dict es ep from d)
    have nsLow : ∀ {b : Addr} {m : Str → Option Value}, s₁.heap.Ns b m → (hidT s₁.heap H).Ns b m := fun {b m} ⟨o, es, ep, e, d, rest⟩ => ⟨o, es, ep, low e (dictFree e d), d, rest⟩
    have kLow : K.In (hidT s₁.heap H) := fun b o e => low (KX b o e) (by
      cases q : H b with
      | none => rfl
      | some u =>
        obtain rfl : b = a := one b (by rw [q]; simp)
        rw [notK (by rw [q]; simp)] at e; cases e)
    have md : Mod K mg (hidT s₁.heap H) := ⟨kLow, nsLow top, ⟨mb, nsLow bn, bb⟩, let ⟨mc, h1, h2⟩ := lim; ⟨mc, nsLow h1, h2⟩⟩
    have none0 : ∀ {b : Addr}, b ∈ ([] : List Addr) → False := fun z => by cases z
    have e0 : Env0 P w K mg (hidT s₁.heap H) callerA [] s₁ H := ⟨rfl, md, fun b o e => of_hidT e, Nat.le_of_eq (hidT_size _ _), trivial, fun b hb => (none0 hb).elim, hok, .of_eq gens⟩
    refine codeAny_mono (F _ kLow (nsLow top) s₁ H (.ref a) (.ref a) _ e0 (bind s₁ (.ref a)) rfl (hsp H only sq)) fun r s2 out => ?_
    match r, out with
    | .error e, out => exact (show False from out).elim
    | .ok .next, out => exact False.elim out
    | .ok .brk, out => exact False.elim out
    | .ok .cont, out => exact False.elim out
    | .ok (.ret u), out =>
      obtain ⟨v, H2, os, bare, un, hok2, ru, (rfl : v = .bl true)⟩ := out
      obtain rfl : u = Value.bool true := ru
      refine ⟨rfl, OldK.of_keep fun b o e => ?_, os, bare⟩
      cases q : H b with
      | none => exact un.keep b o e q (fun z => none0 z) (fun z => none0 z)
      | some hu =>
        rcases only b with z | ⟨ob, xs, z⟩
        · rw [q] at z; cases z
        · have o1 := (hok b _ z).1
          have o2 := (hok2 b _ (un.frzs b ob _ z)).1
          rw [e] at o1; cases o1
          exact o2
  cases hk : K.lookup a with
  | some o =>
    have e := KX a o hk
    rw [ha] at e; cases e
    exact core (fun _ => none) (fun _ => .inl rfl) (.inr ⟨_, vs.toArray, _, hk, rfl, rfl, rfl, by rw [List.size_toArray, nlen]; exact hl, by simpa using rv⟩) (fun b u z => nomatch (show (none : Option HO) = some u from z)) (fun b z => absurd rfl z) fun z => absurd rfl z
  | none =>
    have at_a : ∀ {b : Addr} {u : HO}, (if b = a then some (HO.frz { cls := .type "list", data := .seq vs.toArray } (.lst (ns.map V.int))) else none) = some u → b = a ∧ u = .frz { cls := .type "list", data := .seq vs.toArray } (.lst (ns.map V.int)) := fun {b u} z => by
      by_cases hb : b = a
      · rw [if_pos hb] at z; cases z; exact ⟨hb, rfl⟩
      · rw [if_neg hb] at z; cases z
    refine core (fun b => if b = a then some (.frz { cls := .type "list", data := .seq vs.toArray } (.lst (ns.map V.int))) else none) (fun b => ?_) (.inl (.inr ⟨{ cls := .type "list", data := .seq vs.toArray }, if_pos rfl⟩)) (fun b u z => ?_) (fun b z => ?_) fun _ => hk
    · by_cases hb : b = a
      · exact .inr ⟨_, _, if_pos hb⟩
      · exact .inl (if_neg hb)
    · obtain ⟨rfl, rfl⟩ := at_a z
      exact ⟨ha, by rw [List.length_map]; exact hl, vs, _, rv, ha⟩
    · by_cases hb : b = a
      · exact hb
      · exact absurd (if_neg hb) z
theorem walkG {l : PySem.W.OpenLaw} {n : Nat} {q : Program} {loose : List Str} {XP : (Str → Option Value) → Heap → Prop} {YP : World → Heap → Prop} {d : DefRec} {x : Str} {sp : DC} (hn : l.most = some n) (hn2 : n ≤ sizeLine) (hdf : d.params.defaults = [])
    (F : ∀ (w : World) (mg : Str → Option Value) (fa : Addr) (h : Heap), YP w h → h.Ns mainGlobals mg → mg d.name = some (.ref fa) → ∃ (K : PySem.W.Frag) (fd : FuncData), K.In h ∧ (∀ (s : Shared) (u : Value), BindsTo s fd ⟨[u], []⟩ [(x, u)]) ∧ ∀ base : Heap, K.In base → base.Ns mainGlobals mg → RunG l.prog w K mg base fa fd x sp)
    (hsp : ∀ (K : PySem.W.Frag) (H : Hp) (a : Addr) (ns : List Int), ns.length ≤ n → Only H → SqL K H a (ns.map V.int) → upC K sp [.ref a] H (fun v _ => v = .bl true)) : PySem.W.WalkO q loose XP YP l.row.toRowW d [] (fun f vs => PySem.call f vs) := by
  refine Att.attach_call hn hdf fun w s₀ s₁ mg mb fa o pm cd doc a vs ns G Y ho hd hcd hmg hobj hints hlen hg => ?_
  obtain ⟨K, fd, KX, hb, hF⟩ := F w mg fa _ Y G.T.g hmg
  exact law_callG KX G.T.g G.T.b G.T.builtins G.T.nolimit hg hobj hints (Nat.le_trans hlen hn2) hF hb fun H hO hS => hsp K H a ns hlen hO hS
end DL
namespace DL
open PySem PySem.Spec PyProof.Rows L2
/-- what repr can show: a list or a tuple of plain things -/
structure ShOk (d : PyData) : Prop where
  sh : d.showable = true
  nd : d.hasDict = false
  dep : d.depth ≤ 20
  len : d.shown.length ≤ sizeLine
  ref : (∃ xs, d = .list xs) ∨ ∃ xs, d = .tuple xs
def dReprC : DC := fun dvs M R => ∃ x d, dvs = [x] ∧ datOf M x = some d ∧ ShOk d ∧ R (.dat (.str d.shown)) M
def dRepr (fe : DT) : DT := dCB dReprC (dCons fe dNil)
section
variable {X : Cx} {pos : Pos}
theorem cd_repr (hg : X.A.guards = some []) (hu : X.A.units + 64 < cLine) : CallD X (.builtin "repr") dReprC := by
  intro pins s σ H xs us Q I r ⟨Hid, M, dvs, R, sk, rr, hh, k⟩
  obtain ⟨x, d, rfl, e, ok, q⟩ := hh
  obtain ⟨v, rfl, rv⟩ := rp1 rr
  obtain ⟨u, rfl, ru⟩ := vals1 r
  obtain ⟨as, rd⟩ := Dp.reads I d v u (datOf_dp sk rv e) ru
  have isref : ∃ a, u = .ref a := by
    rcases ok.ref with ⟨ys, rfl⟩ | ⟨ys, rfl⟩
    · cases rd; exact ⟨_, rfl⟩
    · cases rd; exact ⟨_, rfl⟩
  obtain ⟨a, rfl⟩ := isref
  refine repr_of_reads' rd ok.sh (PyData.noDict_hsm ok.nd) hg (by have := ok.dep; omega) (fun _ _ e => e) (fun h' t tk hk => ?_) ok.len
  exact ⟨.str d.shown, H, I.kept (t' := tk) hk, ⟨_, rfl⟩, k _ H (Post.same (dv := .dat (.str _)) sk (Fz.str _) q)⟩
theorem de_repr {x : Expr} {fe : DT} {p : Pos} (hg : X.A.guards = some []) (hu : X.A.units + 64 < cLine) (gl : Gl X "repr") (hm : X.mg "repr" = none) (he : DE X x fe)
    (hs : starEach [x] X.env = (false, eval x X.env) :: starEach [] X.env := by rfl) (hpl : (backTo pos (starEach [] X.env)).any (·.1) = false := by rfl) : DE X (.Call (.Name "repr" p) [x] [] pos) (dRepr fe) :=
  de_callB (cd_repr hg hu) gl hm (by first | exact boot_repr | exact PyProof.Rows.boot_repr) (da_cons he da_nil hs) (by decide) (by decide) hs hpl
end
structure Gd (W : Nat) (d : PyData) : Prop where
  sh : d.showable = true
  nd : d.hasDict = false
  lv : d.leavesShort 13 = true
  wt : d.weight ≤ W
theorem Gd.mono {W V : Nat} {d : PyData} (g : Gd W d) (h : W ≤ V) : Gd V d := ⟨g.sh, g.nd, g.lv, Nat.le_trans g.wt h⟩
theorem gdAll {W : Nat} : ∀ {xs : List PyData}, (∀ x ∈ xs, Gd W x) → PyData.showableAll xs = true ∧ PyData.hasDictAll xs = false ∧ PyData.leavesShortAll 13 xs = true ∧ PyData.weightAll xs ≤ xs.length * (W + 1)
  | [], _ => ⟨rfl, rfl, rfl, Nat.zero_le _⟩
  | x :: xs, h => by
    have g := h x List.mem_cons_self
    obtain ⟨a, b, c, d⟩ := gdAll fun y hy => h y (List.mem_cons_of_mem x hy)
    refine ⟨by simp [PyData.showableAll, g.sh, a], by simp [PyData.hasDictAll, g.nd, b], by simp [PyData.leavesShortAll, g.lv, c], ?_⟩
    have := g.wt
    simp only [PyData.weightAll, List.length_cons, Nat.succ_mul]
    omega
theorem Gd.tup {W n : Nat} {xs : List PyData} (h : ∀ x ∈ xs, Gd W x) (l : xs.length ≤ n) : Gd (n * (W + 1)) (.tuple xs) := by
  obtain ⟨a, b, c, d⟩ := gdAll h
  exact ⟨by simpa [PyData.showable] using a, by simpa [PyData.hasDict] using b, by simpa [PyData.leavesShort] using c, by simp only [PyData.weight]; exact Nat.le_trans d (Nat.mul_le_mul_right _ l)⟩
theorem Gd.lst {W n : Nat} {xs : List PyData} (h : ∀ x ∈ xs, Gd W x) (l : xs.length ≤ n) : Gd (n * (W + 1)) (.list xs) := by
  obtain ⟨a, b, c, d⟩ := gdAll h
  exact ⟨by simpa [PyData.showable] using a, by simpa [PyData.hasDict] using b, by simpa [PyData.leavesShort] using c, by simp only [PyData.weight]; exact Nat.le_trans d (Nat.mul_le_mul_right _ l)⟩
theorem Gd.sok {W : Nat} {d : PyData} (g : Gd W d) (hW : W ≤ 1000000) (p : d.depth ≤ 20) (r : (∃ xs, d = .list xs) ∨ ∃ xs, d = .tuple xs) : ShOk d := by
  refine ⟨g.sh, g.nd, p, ?_, r⟩
  have := PyData.shown_le 13 (by decide) d g.lv
  have := g.wt
  have e : sizeLine = 16777216 := by decide
  omega
/-- signs of the plane -/
def Ch (s : Str) : Prop := ∀ c ∈ s.cps.toList, c < 4294967296
theorem ch_app {a b : Str} (h : Ch a) (h2 : Ch b) : Ch (a ++ b) := fun c hc => by
  have : c ∈ (a.cps ++ b.cps).toList := hc
  rw [Array.toList_append] at this
  exact (List.mem_append.mp this).elim (h c) (h2 c)
theorem gd_str {s : Str} {W : Nat} (h : Ch s) (l : s.length ≤ W) : Gd W (.str s) := by
  refine ⟨rfl, rfl, ?_, l⟩
  simp only [PyData.leavesShort, List.all_eq_true, decide_eq_true_eq]
  intro c hc
  have := h c hc
  have e : 16 ^ 8 = 4294967296 := by decide
  omega
theorem ch_num {i : Int} (h : NumOk i) : Ch (numT i) := fun c hc => by have := h.fig c hc; omega
theorem ch_port {s : Str} (h : PortOk s) : Ch s := fun c hc => by
  have := List.all_eq_true.mp h.2.2 c hc
  have := of_decide_eq_true this
  omega
theorem ch_lit : Ch (Str.ofString " ") ∧ Ch (Str.ofString "") ∧ Ch (Str.ofString "step") ∧ Ch (Str.ofString "table") := by unfold Ch; decide +kernel
theorem ch_tail : ∀ {ws : List Str}, (∀ w ∈ ws, Ch w) → Ch (tailT ws)
  | [], _ => ch_lit.2.1
  | w :: ws, h => ch_app (ch_app ch_lit.1 (h w List.mem_cons_self)) (ch_tail fun x hx => h x (List.mem_cons_of_mem w hx))
theorem gd_int {i : Int} (h0 : 0 ≤ i) (h1 : i ≤ 2000) : Gd 12 (.int i) := by
  have n := numOk h0 h1
  refine ⟨decide_eq_true n.log, rfl, ?_, ?_⟩
  · have : (PyData.shown (.int i)).length ≤ 13 := by
      have e : PyData.shown (.int i) = numT i := rfl
      rw [e]; have := n.hi; omega
    simpa [PyData.leavesShort] using this
  · show (if i == 0 then 0 else i.natAbs.log2 + 1) ≤ 12
    split
    · omega
    · rename_i hne
      have hz : i.natAbs ≠ 0 := fun z => hne (by simpa using Int.natAbs_eq_zero.mp z)
      have := (Nat.log2_lt hz (k := 11)).mpr (by omega)
      omega
theorem gd_mo {l : List Str} {m : Mom} (h : MoOk l m) (hp : ∀ p ∈ l, PortOk p) : Gd 200 (dMo m) := by
  refine (Gd.tup (W := 26) (n := 6) (fun x hx => ?_) (by simpa using h.2.2)).mono (by decide)
  obtain ⟨p, hp', rfl⟩ := List.mem_map.mp hx
  obtain ⟨q1, q2, q3⟩ := h.1 p hp'
  refine Gd.tup (W := 12) (n := 2) (fun x hx => ?_) (by simp)
  have hx : x = .str p.1 ∨ x = .int p.2 := by simpa using hx
  rcases hx with rfl | rfl
  · exact gd_str (ch_port (hp _ q1)) (by have := (hp _ q1).2.1; omega)
  · exact gd_int q2 (by omega)
theorem gd_stp {l : List Str} {n : Int} {s : Stp} (h : StpOk l n s) (hp : ∀ p ∈ l, PortOk p) (hn : n ≤ 2000) : Gd 700 (dStp s) := by
  refine (Gd.tup (W := 200) (n := 3) (fun x hx => ?_) (by simp)).mono (by decide)
  have hx : x = .int s.1 ∨ x = dMo s.2.1 ∨ x = .int s.2.2 := by simpa using hx
  obtain ⟨h1, h2, h3, h4, h5⟩ := h
  rcases hx with rfl | rfl | rfl
  · exact (gd_int h1 (by omega)).mono (by decide)
  · exact gd_mo h3 hp
  · exact (gd_int h4 (by omega)).mono (by decide)
theorem pl_tab (t : Tab) : Pl 5 (dTab t) := by
  refine Pl.tup (n := 4) (fun x hx => ?_)
  have hx : x = .tuple (sTx t.1) ∨ x = .int t.2.1 ∨ x = .tuple (t.2.2.map dStp) := by simpa using hx
  rcases hx with rfl | rfl | rfl
  · exact Pl.mono (Pl.tup (n := 0) (by simp only [sTx, List.mem_map]; rintro x ⟨q, _, rfl⟩; exact Pl.str)) (by omega)
  · exact Pl.int
  · exact Pl.tup (n := 3) (by simp only [List.mem_map]; rintro x ⟨q, _, rfl⟩; exact pl_stp q)
theorem sh_tab {t : Tab} (h : TabOk t) : ShOk (dTab t) := by
  refine Gd.sok (W := 200000) ?_ (by decide) (by have := (pl_tab t).2; omega) (.inr ⟨_, rfl⟩)
  refine (Gd.tup (W := 50000) (n := 3) (fun x hx => ?_) (by simp)).mono (by decide)
  have hx : x = .tuple (sTx t.1) ∨ x = .int t.2.1 ∨ x = .tuple (t.2.2.map dStp) := by simpa using hx
  rcases hx with rfl | rfl | rfl
  · refine (Gd.tup (W := 8) (n := 6) (fun x hx => ?_) (by simpa [sTx] using h.few)).mono (by decide)
    obtain ⟨p, hp', rfl⟩ := List.mem_map.mp hx
    exact gd_str (ch_port (h.ports p hp')) (h.ports p hp').2.1
  · exact (gd_int (by have := h.lo; omega) h.hi).mono (by decide)
  · refine (Gd.tup (W := 700) (n := 60) (fun x hx => ?_) (by simpa using h.short)).mono (by decide)
    obtain ⟨s, hs, rfl⟩ := List.mem_map.mp hx
    exact gd_stp (h.steps s hs) h.ports h.hi
theorem gd_join {ws : List Str} (h : ∀ w ∈ ws, Wd w ∧ Ch w) (hl : ws.length ≤ 100) (hne : ws ≠ []) : Gd 11000 (.str (Txt.join blank ws)) := by
  obtain ⟨w, r, rfl⟩ : ∃ w r, ws = w :: r := by
    cases ws with
    | nil => exact absurd rfl hne
    | cons w r => exact ⟨w, r, rfl⟩
  rw [join_tail]
  refine gd_str (ch_app (h w List.mem_cons_self).2 (ch_tail fun x hx => (h x (List.mem_cons_of_mem w hx)).2)) ?_
  have h1 := (h w List.mem_cons_self).1.1
  have h2 := tail_len fun x hx => (h x (List.mem_cons_of_mem w hx)).1.1
  have : r.length * 101 ≤ 100 * 101 := Nat.mul_le_mul_right _ (by simp at hl; omega)
  rw [s_len]
  omega
theorem ch_stp {l : List Str} {n : Int} {s : Stp} (h : StpOk l n s) (hp : ∀ p ∈ l, PortOk p) (hn : n ≤ 2000) {w : Str} (hw : w ∈ stpWords s) : Ch w := by
  obtain ⟨h1, h2, h3, h4, h5⟩ := h
  have hw : w = "step" ∨ w = numT s.1 ∨ w = numT s.2.2 ∨ w ∈ moWords s.2.1 := by simpa [stpWords] using hw
  rcases hw with rfl | rfl | rfl | hw
  · exact ch_lit.2.2.1
  · exact ch_num (numOk h1 (by omega))
  · exact ch_num (numOk h4 (by omega))
  · obtain ⟨p, hp', rfl | rfl⟩ := moWords_mem hw
    · exact ch_port (hp _ (h3.1 p hp').1)
    · exact ch_num (numOk (h3.1 p hp').2.1 (by have := (h3.1 p hp').2.2; omega))
theorem ch_head {t : Tab} (h : TabOk t) {w : Str} (hw : w ∈ headWords t) : Ch w := by
  have hw : w = "table" ∨ w = numT t.2.1 ∨ w ∈ t.1 := by simpa [headWords] using hw
  rcases hw with rfl | rfl | hw
  · exact ch_lit.2.2.2
  · exact ch_num (numOk (by have := h.lo; omega) h.hi)
  · exact ch_port (h.ports _ hw)
theorem sh_lines {t : Tab} (h : TabOk t) : ShOk (.list (sTx (linesOf t))) := by
  refine Gd.sok (W := 61 * 11001) ?_ (by decide) ?_ (.inl ⟨_, rfl⟩)
  · refine Gd.lst (W := 11000) (n := 61) (fun x hx => ?_) (by have := h.short; simp [sTx, linesOf]; omega)
    obtain ⟨w, hw, rfl⟩ := List.mem_map.mp hx
    rcases List.mem_cons.mp hw with rfl | hw
    · exact gd_join (fun w hw => ⟨wd_head h hw, ch_head h hw⟩) (by have := h.few; simp [headWords]; omega) (by simp [headWords])
    · obtain ⟨s, hs, rfl⟩ := List.mem_map.mp hw
      have so := h.steps s hs
      exact gd_join (fun w hw => ⟨wd_stp so h.ports h.hi hw, ch_stp so h.ports h.hi hw⟩) (by have := so.2.2.1.2.2; rw [stpWords_len]; omega) (by simp [stpWords])
  · exact Nat.le_trans (Pl.lst (n := 0) (by simp only [sTx, List.mem_map]; rintro x ⟨q, _, rfl⟩; exact Pl.str)).2 (by decide)
end DL
namespace DL
open PySem PySem.Spec PyProof.Rows L2
/-! ### unlike tables have unlike lines -/
theorem eqvAll_map {α : Type} [DecidableEq α] (f : α → PyData) (hf : ∀ a b, PyData.eqv (f a) (f b) = decide (a = b)) : ∀ l l' : List α, PyData.eqvAll (l.map f) (l'.map f) = decide (l = l')
  | [], [] => rfl
  | [], _ :: _ => by simp [PyData.eqvAll]
  | _ :: _, [] => by simp [PyData.eqvAll]
  | a :: l, b :: l' => by
    rw [List.map_cons, List.map_cons, PyData.eqvAll, hf, eqvAll_map f hf l l']
    by_cases h : a = b
    · by_cases h2 : l = l'
      · simp [h, h2]
      · simp [h, h2]
    · simp [h]
theorem eqv_tx (l l' : List Str) : PyData.eqv (.list (sTx l)) (.list (sTx l')) = decide (l = l') := by
  rw [PyData.eqv]
  exact eqvAll_map _ eqv_s l l'
instance decTab : DecidableEq Tab := @instDecidableEqProd (List Str) (Int × List Stp) inferInstance (@instDecidableEqProd Int (List Stp) inferInstance (@instDecidableEqList Stp inferInstance))
theorem eqv_tab (a b : Tab) : PyData.eqv (dTab a) (dTab b) = decide (a = b) := by
  have e1 : PyData.eqv (.tuple (sTx a.1)) (.tuple (sTx b.1)) = decide (a.1 = b.1) := by
    rw [PyData.eqv]; exact eqvAll_map _ eqv_s _ _
  have e2 : PyData.eqv (.tuple (a.2.2.map dStp)) (.tuple (b.2.2.map dStp)) = decide (a.2.2 = b.2.2) := by
    rw [PyData.eqv]; exact eqvAll_map _ eqv_stp _ _
  unfold dTab
  rw [PyData.eqv, PyData.eqvAll, PyData.eqvAll, PyData.eqvAll, PyData.eqvAll, e1, e2, eqv_i]
  obtain ⟨a1, a2, a3⟩ := a
  obtain ⟨b1, b2, b3⟩ := b
  by_cases h1 : a1 = b1
  · by_cases h2 : a2 = b2
    · by_cases h3 : a3 = b3
      · simp [h1, h2, h3]
      · simp [h1, h2, h3]
    · simp [h1, h2]
  · simp [h1]
theorem num_inj {i j : Int} (a : NumOk i) (b : NumOk j) (h : numT i = numT j) : i = j := by
  have e1 := a.back
  have e2 := b.back
  rw [h, e2] at e1
  exact (Option.some.inj e1).symm
theorem mo_back : ∀ {m m' : Mom}, (∀ p ∈ m, 0 ≤ p.2 ∧ p.2 < 3) → (∀ p ∈ m', 0 ≤ p.2 ∧ p.2 < 3) → moWords m = moWords m' → m = m'
  | [], [], _, _, _ => rfl
  | [], q :: m', _, _, h => by simp [moWords] at h
  | p :: m, [], _, _, h => by simp [moWords] at h
  | p :: m, q :: m', h1, h2, h => by
    have h : p.1 :: numT p.2 :: moWords m = q.1 :: numT q.2 :: moWords m' := h
    simp only [List.cons.injEq] at h
    obtain ⟨e1, e2, e3⟩ := h
    have a := h1 p List.mem_cons_self
    have b := h2 q List.mem_cons_self
    have e4 := num_inj (numOk a.1 (by omega)) (numOk b.1 (by omega)) e2
    rw [mo_back (fun x hx => h1 x (List.mem_cons_of_mem p hx)) (fun x hx => h2 x (List.mem_cons_of_mem q hx)) e3, Prod.ext e1 e4]
theorem line_back {l l' : List Str} {n n' : Int} {s s' : Stp} (h : StpOk l n s) (h' : StpOk l' n' s') (hp : ∀ p ∈ l, PortOk p) (hp' : ∀ p ∈ l', PortOk p) (hn : n ≤ 2000) (hn' : n' ≤ 2000) (e : lineOf s = lineOf s') : s = s' := by
  unfold lineOf at e
  have e1 : Txt.split (Txt.join blank (stpWords s)) (Str.ofString " ") = Txt.split (Txt.join blank (stpWords s')) (Str.ofString " ") := by rw [e]
  rw [wb (by simp [stpWords]) fun w hw => wd_stp h hp hn hw, wb (by simp [stpWords]) fun w hw => wd_stp h' hp' hn' hw] at e1
  simp only [stpWords, List.cons.injEq, true_and] at e1
  obtain ⟨a1, a2, a3⟩ := e1
  obtain ⟨h1, h2, h3, h4, h5⟩ := h
  obtain ⟨g1, g2, g3, g4, g5⟩ := h'
  have b1 := num_inj (numOk h1 (by omega)) (numOk g1 (by omega)) a1
  have b2 := num_inj (numOk h4 (by omega)) (numOk g4 (by omega)) a2
  have b3 := mo_back (fun p hp => (h3.1 p hp).2) (fun p hp => (g3.1 p hp).2) a3
  exact Prod.ext b1 (Prod.ext b3 b2)
theorem lines_back : ∀ {xs ys : List Stp} {l l' : List Str} {n n' : Int}, (∀ s ∈ xs, StpOk l n s) → (∀ s ∈ ys, StpOk l' n' s) → (∀ p ∈ l, PortOk p) → (∀ p ∈ l', PortOk p) → n ≤ 2000 → n' ≤ 2000 → xs.map lineOf = ys.map lineOf → xs = ys
  | [], [], _, _, _, _, _, _, _, _, _, _, _ => rfl
  | [], y :: ys, _, _, _, _, _, _, _, _, _, _, h => by simp at h
  | x :: xs, [], _, _, _, _, _, _, _, _, _, _, h => by simp at h
  | x :: xs, y :: ys, _, _, _, _, h1, h2, p1, p2, n1, n2, h => by
    simp only [List.map_cons, List.cons.injEq] at h
    rw [line_back (h1 x List.mem_cons_self) (h2 y List.mem_cons_self) p1 p2 n1 n2 h.1, lines_back (fun s hs => h1 s (List.mem_cons_of_mem x hs)) (fun s hs => h2 s (List.mem_cons_of_mem y hs)) p1 p2 n1 n2 h.2]
theorem tab_back {a b : Tab} (h : TabOk a) (g : TabOk b) (e : linesOf a = linesOf b) : a = b := by
  unfold linesOf at e
  simp only [List.cons.injEq] at e
  obtain ⟨e1, e2⟩ := e
  have e3 : Txt.split (Txt.join blank (headWords a)) (Str.ofString " ") = Txt.split (Txt.join blank (headWords b)) (Str.ofString " ") := by rw [e1]
  rw [wb (by simp [headWords]) fun w hw => wd_head h hw, wb (by simp [headWords]) fun w hw => wd_head g hw] at e3
  simp only [headWords, List.cons.injEq, true_and] at e3
  have b1 := num_inj (numOk (by have := h.lo; omega) h.hi) (numOk (by have := g.lo; omega) g.hi) e3.1
  have b2 := lines_back h.steps g.steps h.ports g.ports h.hi g.hi e2
  exact Prod.ext e3.2 (Prod.ext b1 b2)
theorem same_bool {a b : Tab} (h : TabOk a) (g : TabOk b) : decide (linesOf a = linesOf b) = decide (a = b) := by
  by_cases e : a = b
  · subst e; simp
  · have : ¬ linesOf a = linesOf b := fun z => e (tab_back h g z)
    simp [e, this]
end DL
namespace DL
open PySem PySem.Spec PyProof.Rows L2
abbrev s_law : Stmt := top 38
abbrev N_law : List Str := ["_law_script", "_law_tape_here", "_law_former", "_law_k", "_law_table_here", "_law_lines_here", "_law_turn", "_law_found", "_law_handed", "_law_other"]
/-- 0 _law_script, 1 _law_tape_here, 2 _law_former, 3 _law_k, 4 _law_table_here, 5 _law_lines_here, 6 _law_turn, 7 _law_found, 8 _law_handed, 9 _law_other -/
def t_turns : DTS := (dFor (dRange1 (dCons (dC (.int 2)) dNil)) (dgName 6) (dSeq (dAsg (dCB sptable_lines (dCons (dVar 4) dNil)) (dgName 7))
    (dSeq (dIf (dB (d2 (dRel CEq fun d e => !PyData.eqv d e) (dRepr (dVar 7)) (dRepr (dVar 5)))) (dRet (dC (.bool false))) dNext)
    (dSeq (dDrop (dM "list" dAppend (dVar 7) (dCons (dC (.str "step 0 0")) dNil)))
    (dDrop (dM0 "list" dReverse (dVar 7)))))))
def t_others : DTS := (dFor (dSrc (dVar 2)) (dgName 9) (dIf (dB (d2 (dRel CEq fun d e => !PyData.eqv d e) (d2 (dRel CEq PyData.eqv) (dCB sptable_lines (dCons (dVar 9) dNil)) (dVar 5)) (d2 (dRel CEq PyData.eqv) (dVar 9) (dVar 4)))) (dRet (dC (.bool false))) dNext))
def t_rest : DTS := (dSeq (dAsg (dCB sp_law_lines (dCons (dVar 4) dNil)) (dgName 5))
    (dSeq (dIf (dB (d2 (dIsB fun a b => !decide (a = b)) (dCB spis_table (dCons (dVar 4) dNil)) (dC (.bool true)))) (dRet (dC (.bool false))) dNext)
    (dSeq t_turns
    (dSeq (dAsg (dCB dListOfN (dCons (dVar 5) dNil)) (dgName 8))
    (dSeq (dAsg (dCB spread_table (dCons (dVar 8) dNil)) (dgName 7))
    (dSeq (dIf (dOr (dB (d2 (dRel CEq fun d e => !PyData.eqv d e) (dRepr (dVar 7)) (dRepr (dVar 4)))) (dB (d2 (dRel CEq fun d e => !PyData.eqv d e) (dVar 8) (dVar 5)))) (dRet (dC (.bool false))) dNext)
    (dSeq (dDrop (dM0 "list" dClear (dVar 8)))
    (dSeq (dIf (dOr (dB (d2 (dRel CEq fun d e => !PyData.eqv d e) (dRepr (dVar 7)) (dRepr (dVar 4)))) (dB (d2 (dRel CEq fun d e => !PyData.eqv d e) (dRepr (dCB spread_table (dCons (dVar 5) dNil))) (dRepr (dVar 4))))) (dRet (dC (.bool false))) dNext)
    (dSeq t_others
    (dDrop (dM "list" dAppend (dVar 2) (dCons (dVar 4) dNil))))))))))))
def t_law : DTS := (dSeq (dAsg (dCB sp_law_tape (dCons (dVar 0) dNil)) (dgName 1))
    (dSeq (dAsg (dLstN dNil) (dgName 2))
    (dSeq (dFor (dRange1 (dCons (dC (.int 5)) dNil)) (dgName 3) (dSeq (dAsg (dCB sp_law_table (dCons (dVar 1) (dCons (dSl (dCB sp_law_names (dCons (dVar 1) (dCons (dC (.int 6)) dNil))) dNoPart (dPart (dCB sp_law_draw (dCons (dVar 1) (dCons (dC (.int 7)) dNil))))) (dCons (dC (.int 5)) (dCons (dC (.int 12)) dNil))))) (dgName 4))
    (dSeq (dIf (dB (d2 (dRel CEq PyData.eqv) (dCB sp_law_draw (dCons (dVar 1) (dCons (dC (.int 2)) dNil))) (dC (.int 0)))) (dAsg (dCB sp_law_great (dCons (dVar 1) (dCons (dVar 4) dNil))) (dgName 4)) dNext)
    t_rest)))
    (dRet (dC (.bool true))))))
section
variable {M M' : Sto} {R : DK} {dvs : List DV} {env : Env} {DD : DEnds}
@[simp] theorem r_repr {fe : DT} : dRepr fe env M R = fe env M fun x M1 => dReprC [x] M1 R := propext Iff.rfl
theorem repr_r {x : DV} {d : PyData} (e : datOf M x = some d) (ok : ShOk d) (h : R (.dat (.str d.shown)) M) : dReprC [x] M R := ⟨x, d, rfl, e, ok, h⟩
theorem rev_r {p : Addr} {xs : List DV} (e : M p = some (.lst xs)) (h : R (.dat .none) (M.set p (.lst xs.reverse))) : tyOk "list" (.obj p) M ∧ dReverse (.obj p) [] M R := ⟨.inr ⟨rfl, xs, lst_at e⟩, p, xs, rfl, rfl, e, h⟩
theorem clear_r {p : Addr} {xs : List DV} (e : M p = some (.lst xs)) (h : R (.dat .none) (M.set p (.lst []))) : tyOk "list" (.obj p) M ∧ dClear (.obj p) [] M R := ⟨.inr ⟨rfl, xs, lst_at e⟩, p, xs, rfl, rfl, e, h⟩
def tabD (ts : List Tab) : List DV := (ts.map dTab).map DV.dat
/-- the tape and the former tables -/
structure St (M : Sto) (a f : Addr) (n : Int) (ts : List Tab) : Prop where
  ne : a ≠ f
  tape : TapeAt M a n
  form : M f = some (.lst (tabD ts))
theorem St.set {a f p : Addr} {n : Int} {ts : List Tab} {o : MO} (s : St M a f n ts) (h1 : p ≠ a) (h2 : p ≠ f) : St (M.set p o) a f n ts := by
  obtain ⟨tp, e, t⟩ := s.tape
  exact ⟨s.ne, ⟨tp, by rw [Sto.set_ne (fun z => h1 z.symm)]; exact e, t⟩, by rw [Sto.set_ne (fun z => h2 z.symm)]; exact s.form⟩
theorem St.fresh {a f p : Addr} {n : Int} {ts : List Tab} (s : St M a f n ts) (h : M p = none) : p ≠ a ∧ p ≠ f := by
  obtain ⟨tp, e, t⟩ := s.tape
  refine ⟨fun z => ?_, fun z => ?_⟩
  · subst z; rw [h] at e; cases e
  · subst z; have := s.form; rw [h] at this; cases this
theorem St.draw {a f : Addr} {n m : Int} {ts : List Tab} {tp : List DV} (s : St M a f n ts) (t : TapeSt tp m) : St (M.set a (.lst tp)) a f m ts :=
  ⟨s.ne, ⟨tp, Sto.set_same, t⟩, by rw [Sto.set_ne (fun z => s.ne z.symm)]; exact s.form⟩
theorem St.mono {a f : Addr} {n m : Int} {ts : List Tab} (s : St M a f n ts) (h : n ≤ m) : St M a f m ts := by
  obtain ⟨tp, e, t⟩ := s.tape
  exact ⟨s.ne, ⟨tp, e, t.mono h⟩, s.form⟩
def eL (scr : DV) (a f : Addr) (w3 : Option DV) (t : Tab) (w5 w6 w7 w8 w9 : Option DV) : Env := [some scr, some (.obj a), some (.obj f), w3, some (.dat (dTab t)), w5, w6, w7, w8, w9]
def tn1 (scr : DV) (a f : Addr) (n : Int) (ts : List Tab) (w3 : Option DV) (t : Tab) (w8 w9 : Option DV) (i : Nat) (env : Env) (M : Sto) : Prop := ∃ w6 w7, St M a f n ts ∧ env = [some scr, some (.obj a), some (.obj f), w3, some (.dat (dTab t)), some (.dat (.list (sTx (linesOf t)))), w6, w7, w8, w9]
theorem turns_ok {scr : DV} {a f : Addr} {n : Int} {ts : List Tab} {t : Tab} {w3 w8 w9 : Option DV} (ok : TabOk t) (h0 : tn1 scr a f n ts w3 t w8 w9 0 env M) (nx : ∀ env M, tn1 scr a f n ts w3 t w8 w9 2 env M → DD.nx env M) : t_turns DD env M := by
  unfold t_turns
  rw [for_r1]
  simp
  refine inv_range (tn1 scr a f n ts w3 t w8 w9) h0 ?_ nx
  rintro i env M' hi ⟨w6, w7, s, rfl⟩
  simp only [r_gname, r_seq, r_asg, r_cb, r_cons, r_nil, r_var]
  refine ⟨_, rfl, ?_⟩
  refine ⟨t, rfl, ok, fun p hp => ?_⟩
  obtain ⟨pa, pf⟩ := s.fresh hp
  have len : (sTx (linesOf t)).length ≤ 61 := by have := ok.short; simp [sTx, linesOf]; omega
  simp
  refine repr_r dat_list (sh_lines ok) ?_
  refine repr_r rfl (sh_lines ok) ?_
  simp
  refine append_r Sto.set_same (by simp; omega) ?_
  rw [set_set]
  refine rev_r Sto.set_same ?_
  rw [set_set]
  exact ⟨_, _, s.set pa pf, rfl⟩
def ot1 (scr : DV) (a f : Addr) (n : Int) (ts : List Tab) (w3 : Option DV) (t : Tab) (w6 w7 w8 : Option DV) (i : Nat) (env : Env) (M : Sto) : Prop := ∃ w9, St M a f n ts ∧ env = [some scr, some (.obj a), some (.obj f), w3, some (.dat (dTab t)), some (.dat (.list (sTx (linesOf t)))), w6, w7, w8, w9]
theorem others_ok {scr : DV} {a f : Addr} {n : Int} {ts : List Tab} {t : Tab} {w3 w6 w7 w8 : Option DV} (ok : TabOk t) (all : ∀ t ∈ ts, TabOk t) (h0 : ot1 scr a f n ts w3 t w6 w7 w8 0 env M) (nx : ∀ env M, ot1 scr a f n ts w3 t w6 w7 w8 ts.length env M → DD.nx env M) : t_others DD env M := by
  obtain ⟨w9, s, rfl⟩ := h0
  unfold t_others
  have ef : tabD ts = ts.map fun t => DV.dat (dTab t) := by unfold tabD; rw [List.map_map]; rfl
  refine for_seq (xs := ts) (d := fun t => .dat (dTab t)) (i0 := 2) rfl (by simp [lstOf, s.form, ef]) (ot1 scr a f n ts w3 t w6 w7 w8) ⟨w9, s, rfl⟩ ?_ ?_ nx
  · rintro i env M' ⟨_, s', _⟩
    simp [lstOf, s'.form, s.form]
  · rintro i o env M' e1 ⟨w9, s', rfl⟩
    have oo := all o (List.mem_of_getElem? e1)
    have eq1 : PyData.plainAll (sTx (linesOf t)) = true := plain_sTx _
    simp
    refine ⟨o, rfl, oo, fun q hq => ?_⟩
    obtain ⟨qa, qf⟩ := s'.fresh hq
    have plo : Pl 60 (.list (sTx (linesOf o))) := (Pl.lst (n := 0) (by simp only [sTx, List.mem_map]; rintro x ⟨q, _, rfl⟩; exact Pl.str)).mono (by omega)
    refine rel_r (C := CEq) (x := .obj q) (y := .dat (.list (sTx (linesOf t)))) (d := .list (sTx (linesOf o))) (e := .list (sTx (linesOf t))) dat_list rfl ⟨plo, eq1⟩ ?_
    have ce : CEq (dTab o) (dTab t) := ⟨(pl_tab o).mono (by omega), (pl_tab t).1⟩
    have cb : ∀ a b : Bool, CEq (.bool a) (.bool b) = True := fun a b => eq_true ⟨Pl.bool, rfl⟩
    have eb : ∀ a b : Bool, PyData.eqv (.bool a) (.bool b) = decide (a = b) := fun a b => by cases a <;> cases b <;> rfl
    simp only [r_rel, ce, cb, true_and, eb, eqv_tx, eqv_tab, same_bool oo ok, decide_true, Bool.not_true, r_B, Bool.false_eq_true, if_false, r_next]
    exact ⟨_, s'.set qa qf, rfl⟩
end
end DL
namespace DL
open PySem PySem.Spec PyProof.Rows L2
section
variable {M M' : Sto} {R : DK} {dvs : List DV} {env : Env} {DD : DEnds}
theorem listN_r {ds : List PyData} (h : ∀ p, M p = none → R (.obj p) (M.set p (.lst (ds.map DV.dat)))) : dListOfN [.dat (.list ds)] M R := ⟨_, _, rfl, rfl, h⟩
def lw1 (scr : DV) (a f : Addr) (i : Nat) (env : Env) (M : Sto) : Prop := ∃ (ts : List Tab) (w3 w4 w5 w6 w7 w8 w9 : Option DV), St M a f (400 * i) ts ∧ (∀ t ∈ ts, TabOk t) ∧ ts.length ≤ i ∧ env = [some scr, some (.obj a), some (.obj f), w3, w4, w5, w6, w7, w8, w9]
theorem rest_ok {scr : DV} {a f : Addr} {n : Int} {ts : List Tab} {t : Tab} {w3 w5 w6 w7 w8 w9 : Option DV} (ok : TabOk t) (all : ∀ t ∈ ts, TabOk t) (hl : ts.length < 1000) (s : St M a f n ts)
    (nx : ∀ (w5 w6 w7 w8 w9 : Option DV) (M' : Sto), St M' a f n (ts ++ [t]) → DD.nx [some scr, some (.obj a), some (.obj f), w3, some (.dat (dTab t)), w5, w6, w7, w8, w9] M') :
    t_rest DD [some scr, some (.obj a), some (.obj f), w3, some (.dat (dTab t)), w5, w6, w7, w8, w9] M := by
  have cs : ∀ a b : Str, CEq (.str a) (.str b) = True := ceq_str
  simp [t_rest]
  refine ⟨t, rfl, ok, ?_⟩
  simp
  refine ⟨t, rfl, ok, ?_⟩
  simp
  refine turns_ok (scr := scr) (a := a) (f := f) (n := n) (ts := ts) (t := t) (w3 := w3) (w8 := w8) (w9 := w9) ok ⟨w6, w7, s, rfl⟩ ?_
  rintro env M2 ⟨w6, w7, s2, rfl⟩
  simp
  refine listN_r fun h hh => ?_
  obtain ⟨ha, hf⟩ := s2.fresh hh
  have s3 := s2.set (o := .lst ((sTx (linesOf t)).map DV.dat)) ha hf
  refine ⟨.obj h, t, rfl, lst_list, ok, ?_⟩
  refine repr_r rfl (sh_tab ok) ?_
  refine repr_r rfl (sh_tab ok) ?_
  simp only [r_rel, ceq_str, true_and, eqv_s, decide_true, Bool.not_true, r_B, Bool.false_eq_true, if_false]
  have plo : Pl 60 (.list (sTx (linesOf t))) := (Pl.lst (n := 0) (by simp only [sTx, List.mem_map]; rintro x ⟨q, _, rfl⟩; exact Pl.str)).mono (by omega)
  refine rel_r (C := CEq) (x := .obj h) (y := .dat (.list (sTx (linesOf t)))) (d := .list (sTx (linesOf t))) (e := .list (sTx (linesOf t))) dat_list rfl ⟨plo, plain_sTx _⟩ ?_
  simp only [eqv_tx, decide_true, Bool.not_true, r_B, Bool.false_eq_true, if_false]
  refine clear_r Sto.set_same ?_
  rw [set_set]
  have s4 := s2.set (o := .lst []) ha hf
  refine repr_r rfl (sh_tab ok) ?_
  refine repr_r rfl (sh_tab ok) ?_
  simp only [r_rel, ceq_str, true_and, eqv_s, decide_true, Bool.not_true, r_B, Bool.false_eq_true, if_false]
  refine ⟨_, t, rfl, rfl, ok, ?_⟩
  refine repr_r rfl (sh_tab ok) ?_
  refine repr_r rfl (sh_tab ok) ?_
  simp only [r_rel, ceq_str, true_and, eqv_s, decide_true, Bool.not_true, r_B, Bool.false_eq_true, if_false]
  refine others_ok (scr := scr) (a := a) (f := f) (n := n) (ts := ts) (t := t) (w3 := w3) ok all ⟨_, s4, rfl⟩ ?_
  rintro env M5 ⟨w9, s5, rfl⟩
  simp
  refine append_r s5.form (by simp [tabD]; omega) ?_
  have e : tabD ts ++ [DV.dat (dTab t)] = tabD (ts ++ [t]) := by simp [tabD]
  rw [e]
  refine nx _ _ _ _ _ _ ⟨s5.ne, ?_, Sto.set_same⟩
  obtain ⟨tp, e, tt⟩ := s5.tape
  exact ⟨tp, by rw [Sto.set_ne s5.ne]; exact e, tt⟩
theorem read_law : ∀ dvs M R, splaw dvs M R → t_law { nx := fun _ M' => ∃ dv' M'', Wk M (.dat .none) M' dv' M'' ∧ R dv' M'', rt := fun dv M' => ∃ dv' M'', Wk M dv M' dv' M'' ∧ R dv' M'' } (startD N_law.length dvs) M := by
  rintro _ M R ⟨ns, rfl, hl, h⟩
  simp [t_law, startD]
  refine ⟨ns, rfl, hl, fun a tp ha t0 => ?_⟩
  simp
  intro f hf
  have ne : a ≠ f := fun z => by subst z; rw [Sto.set_same] at hf; cases hf
  have s0 : St ((M.set a (.lst tp)).set f (.lst [])) a f 0 [] := ⟨ne, ⟨tp, by rw [Sto.set_ne ne]; exact Sto.set_same, t0⟩, Sto.set_same⟩
  generalize (M.set a (.lst tp)).set f (.lst []) = M1 at s0 ⊢
  rw [for_r1]
  simp
  refine inv_range (lw1 (.dat (.list (sIn ns))) a f) ⟨[], none, none, none, none, none, none, none, by simpa using s0, by simp, by simp, rfl⟩ ?_ ?_
  · rintro i env M' hi ⟨ts, w3, w4, w5, w6, w7, w8, w9, s, all, lt, rfl⟩
    simp only [r_gname, r_seq, r_asg, r_cb, r_cons, r_nil, r_var, r_sl, r_nopart, r_part, r_c]
    refine ⟨_, rfl, _, rfl, ?_⟩
    refine ⟨a, 400 * i, rfl, s.tape, by omega, fun tp1 l t1 l6 nl ol => ?_⟩
    have s1 := s.draw t1
    generalize M'.set a (.lst tp1) = M1 at s1 ⊢
    refine ⟨_, rfl, draw_r s1.tape (by omega) (by decide) (by decide) fun tp2 v t2 v0 v1 => ?_⟩
    have s2 := s1.draw t2
    generalize M1.set a (.lst tp2) = M2 at s2 ⊢
    obtain ⟨k, rfl⟩ := Int.eq_ofNat_of_zero_le v0
    have ec : cutD (sTx l) none (some (k : Int)) = sTx (l.take k) := by
      rw [cut_upto]; simp [sTx, List.map_take]
    simp only [r_sl_l, ec]
    refine ⟨a, 400 * i + 2 + 1, l.take k, rfl, s2.tape, by omega, nl.sublist (List.take_sublist _ _), by rw [List.length_take]; omega, fun p hp => ol p (List.mem_of_mem_take hp), fun tp3 t t3 ok h5 => ?_⟩
    have s3 := s2.draw t3
    generalize M2.set a (.lst tp3) = M3 at s3 ⊢
    have fin : ∀ (DD : DEnds) (t : Tab) (M4 : Sto), DD.nx = lw1 (.dat (.list (sIn ns))) a f (i + 1) → TabOk t → St M4 a f (400 * i + 2 + 1 + 300 + 1 + 20) ts → t_rest DD [some (.dat (.list (sIn ns))), some (.obj a), some (.obj f), some (.dat (.int (0 + (i : Int)))), some (.dat (dTab t)), w5, w6, w7, w8, w9] M4 := fun DD t M4 en ok s4 => by
      refine rest_ok ok all (by omega) s4 fun u5 u6 u7 u8 u9 M5 s5 => ?_
      rw [en]
      refine ⟨ts ++ [t], _, _, _, _, _, _, _, s5.mono (by omega), fun x hx => ?_, by simp; omega, rfl⟩
      rcases List.mem_append.mp hx with hx | hx
      · exact all x hx
      · rw [List.mem_singleton.mp hx]; exact ok
    simp only [r_if, r_dB, r_2, r_cb, r_cons, r_nil, r_var, r_c, List.set_cons_succ, List.set_cons_zero]
    refine ⟨_, rfl, draw_r s3.tape (by omega) (by decide) (by decide) fun tp4 v4 t4 a4 b4 => ?_⟩
    have s4 := s3.draw t4
    generalize M3.set a (.lst tp4) = M4 at s4 ⊢
    simp only [r_rel, ceq_int, true_and, r_B, eqv_i]
    by_cases h4 : v4 = 0
    · simp only [h4, decide_true, if_true, r_asg, r_cb, r_cons, r_nil, r_var]
      refine ⟨_, rfl, _, rfl, a, 400 * i + 2 + 1 + 300 + 1, t, rfl, s4.tape, by omega, ok, h5, fun tp5 t' t5 ok' => ?_⟩
      exact fin _ t' _ rfl ok' (s4.draw t5)
    · simp only [h4, decide_false, Bool.false_eq_true, if_false, r_next]
      exact fin _ t _ rfl ok (s4.mono (by omega))
  · rintro env M' ⟨ts, w3, w4, w5, w6, w7, w8, w9, s, all, lt, rfl⟩
    simp
    exact giv (h M')
end
end DL
namespace DL
open PySem PySem.Spec PyProof.Rows L2
theorem len_is_port : ∀ dvs M R, spis_port dvs M R → dvs.length = 1 := by
  rintro _ _ _ ⟨s, rfl, _⟩; rfl
theorem len_is_whole : ∀ dvs M R, spis_whole dvs M R → dvs.length = 1 := by
  rintro _ _ _ ⟨i, rfl, _⟩; rfl
theorem len_is_thing : ∀ dvs M R, spis_thing dvs M R → dvs.length = 2 := by
  rintro _ _ _ ⟨n, i, rfl, _⟩; rfl
theorem len_are_unlike_ports : ∀ dvs M R, spare_unlike_ports dvs M R → dvs.length = 1 := by
  rintro _ _ _ ⟨l, rfl, _⟩; rfl
theorem len_is_rising : ∀ dvs M R, spis_rising dvs M R → dvs.length = 1 := by
  rintro _ _ _ ⟨ds, rfl | rfl, _⟩ <;> rfl
theorem len_is_pair : ∀ dvs M R, spis_pair dvs M R → dvs.length = 3 := by
  rintro _ _ _ ⟨n, l, s, i, rfl, _⟩; rfl
theorem len_is_moment_of : ∀ dvs M R, spis_moment_of dvs M R → dvs.length = 3 := by
  rintro _ _ _ ⟨l, m, rfl, _⟩; rfl
theorem len_is_table_step : ∀ dvs M R, spis_table_step dvs M R → dvs.length = 3 := by
  rintro _ _ _ ⟨l, n, s, rfl, _⟩; rfl
theorem len_is_table : ∀ dvs M R, spis_table dvs M R → dvs.length = 1 := by
  rintro _ _ _ ⟨t, rfl, _⟩; rfl
theorem len_step_line : ∀ dvs M R, spstep_line dvs M R → dvs.length = 1 := by
  rintro _ _ _ ⟨l, n, s, rfl, _⟩; rfl
theorem len_table_lines : ∀ dvs M R, sptable_lines dvs M R → dvs.length = 1 := by
  rintro _ _ _ ⟨t, rfl, _⟩; rfl
theorem len_number_in : ∀ dvs M R, spnumber_in dvs M R → dvs.length = 2 := by
  rintro _ _ _ ⟨i, n, rfl, _⟩; rfl
theorem len_read_head : ∀ dvs M R, spread_head dvs M R → dvs.length = 1 := by
  rintro _ _ _ ⟨t, rfl, _⟩; rfl
theorem len_read_moment : ∀ dvs M R, spread_moment dvs M R → dvs.length = 2 := by
  rintro _ _ _ ⟨l, m, rfl, _⟩; rfl
theorem len_read_step : ∀ dvs M R, spread_step dvs M R → dvs.length = 3 := by
  rintro _ _ _ ⟨l, n, s, rfl, _⟩; rfl
theorem len_read_table : ∀ dvs M R, spread_table dvs M R → dvs.length = 1 := by
  rintro _ _ _ ⟨x, t, rfl, _⟩; rfl
theorem len__law_tape : ∀ dvs M R, sp_law_tape dvs M R → dvs.length = 1 := by
  rintro _ _ _ ⟨ns, rfl, _⟩; rfl
theorem len__law_draw : ∀ dvs M R, sp_law_draw dvs M R → dvs.length = 2 := by
  rintro _ _ _ ⟨a, n, k, rfl, _⟩; rfl
theorem len__law_names : ∀ dvs M R, sp_law_names dvs M R → dvs.length = 2 := by
  rintro _ _ _ ⟨a, n, rfl, _⟩; rfl
theorem len__law_moment : ∀ dvs M R, sp_law_moment dvs M R → dvs.length = 3 := by
  rintro _ _ _ ⟨a, n, l, few, rfl, _⟩; rfl
theorem len__law_table : ∀ dvs M R, sp_law_table dvs M R → dvs.length = 4 := by
  rintro _ _ _ ⟨a, n, l, rfl, _⟩; rfl
theorem len__law_great : ∀ dvs M R, sp_law_great dvs M R → dvs.length = 2 := by
  rintro _ _ _ ⟨a, n, t, rfl, _⟩; rfl
theorem len__law_lines : ∀ dvs M R, sp_law_lines dvs M R → dvs.length = 1 := by
  rintro _ _ _ ⟨t, rfl, _⟩; rfl
theorem len_law : ∀ dvs M R, splaw dvs M R → dvs.length = 1 := by
  rintro _ _ _ ⟨ns, rfl, _⟩; rfl
theorem read_is_table : Reads t_is_table N_is_table.length spis_table := by
  rintro _ M R ⟨t, rfl, ⟨h1, h2, h3, h4, h5, h6, h7, h8, h9⟩, h⟩
  have e0 : ¬ (6 : Int) < (t.1.length : Int) := by omega
  simp [t_is_table, startD, dTab]
  refine ⟨t.1, rfl, h1, h2, by omega, ?_⟩
  simp [sTx, e0]
  refine ⟨_, rfl, ?_⟩
  simp [h4, h5]
  refine lc_map t.2.2 (fun p => .dat (dStp p)) (fun _ => .bool true) (by simp) (sz_le (by omega)) (fun p hp Q hQ => ?_) ⟨_, rfl, all_true ?_⟩
  · simp [wipeD]
    exact ⟨t.1, t.2.1, p, rfl, h6 p hp, hQ⟩
  · simp only [r_B, if_true]
    refine ⟨t.2.2.map dStp, Or.inr rfl, ?_, h7, giv h⟩
    rw [List.length_map]; omega
/-! ### the derivations (printed by gen.py) -/
section
variable {P : Program} {w : World} {K : PySem.W.Frag} {mg : Str → Option Value} {base : Heap}
theorem units_of {k : Nat} {A : Around} (hr : Room k A) : A.units + 64 < cLine := by
  have := hr.un
  omega
theorem sc_is_port : FnScope N_is_port ["thing"] (defScope s_is_port) := ⟨rfl, rfl, rfl, by decide +kernel, rfl, by decide +kernel, by decide +kernel⟩
theorem ok_is_port (F : At K mg "is_port" s_is_port) (fr : Fre mg) {k_LETTERS : Tok} (c_LETTERS : mg "LETTERS" = some (.str "abcdefghijklmnopqrstuvwxyz" k_LETTERS)) {k_MOST_LETTERS : Tok} (c_MOST_LETTERS : mg "MOST_LETTERS" = some (.int 8 k_MOST_LETTERS)) : Has P w K mg base "is_port" 1 ["thing"] spis_port :=
  has_of (k := 0) F sc_is_port len_is_port t_is_port (fun f fd FF => FF.bindsN fun _ _ _ _ _ _ us hl => match us, hl with | [_], _ => rfl)
    (fun f cdv A outer s H E hr => by
    have hh := hr.hd
    have nd := sc_is_port.nd
    have hu := units_of hr
    exact (dss_cons (ds_if (dt_w (dw_or (dt_not (dt_val (de_isi rfl fr.isinstance (de_var (pv 0)) (pe_bltn rfl fr.str (by first | exact boot_str | exact PyProof.Rows.boot_str | decide +kernel) rfl)))) (dw_or1 (dt_not (dt_chain (od_le hu) (od_le hu) de_int (de_callB cd_len rfl fr.len (by first | exact boot_len | exact PyProof.Rows.boot_len) (da_cons (de_var (pv 0)) da_nil)) (de_globI rfl c_MOST_LETTERS ⟨_, rfl⟩)))))) (dss_one (ds_ret de_bl)) dss_nil)
      (dss_one (ds_ret (de_callB (cd_all hh) rfl fr.all (by first | exact boot_all | exact PyProof.Rows.boot_all) (da_cons (de_lc (own := [("sign", 1)]) rfl nd (di_str (de_var (pv 0))) (blkOk_by (N := N_is_port) (own := [("sign", 1)]) (sc := defScope s_is_port) (by decide +kernel)) (fun _ _ _ _ _ => (dg_name (i := 1) (pg_name (i := 1) nd rfl (by first | exact Or.inl rfl | exact Or.inr rfl)))) (fun _ _ _ _ _ => dts_nil) (fun _ _ _ _ _ => (de_cmp (od_in hu) (de_var (pv 1)) (de_globS rfl c_LETTERS ⟨_, rfl⟩) (by rfl)))) da_nil)))))) read_is_port
theorem sc_is_whole : FnScope N_is_whole ["thing"] (defScope s_is_whole) := ⟨rfl, rfl, rfl, by decide +kernel, rfl, by decide +kernel, by decide +kernel⟩
theorem ok_is_whole (F : At K mg "is_whole" s_is_whole) (fr : Fre mg) : Has P w K mg base "is_whole" 1 ["thing"] spis_whole :=
  has_of (k := 0) F sc_is_whole len_is_whole t_is_whole (fun f fd FF => FF.bindsN fun _ _ _ _ _ _ us hl => match us, hl with | [_], _ => rfl)
    (fun f cdv A outer s H E hr => by
    have hh := hr.hd
    have nd := sc_is_whole.nd
    have hu := units_of hr
    exact (dss_one (ds_ret (de_and (de_isi rfl fr.isinstance (de_var (pv 0)) (pe_bltn rfl fr.int (by first | exact boot_int | exact PyProof.Rows.boot_int | decide +kernel) rfl)) (de_one (de_not (de_isi rfl fr.isinstance (de_var (pv 0)) (pe_bltn rfl fr.bool (by first | exact boot_bool | exact PyProof.Rows.boot_bool | decide +kernel) rfl)))))))) read_is_whole
theorem sc_is_thing : FnScope N_is_thing ["things", "thing"] (defScope s_is_thing) := ⟨rfl, rfl, rfl, by decide +kernel, rfl, by decide +kernel, by decide +kernel⟩
theorem ok_is_thing (F : At K mg "is_thing" s_is_thing) (fr : Fre mg) (his_whole : Has P w K mg base "is_whole" 1 ["thing"] spis_whole) : Has P w K mg base "is_thing" 2 ["things", "thing"] spis_thing :=
  has_of (k := 1) F sc_is_thing len_is_thing t_is_thing (fun f fd FF => FF.bindsN fun _ _ _ _ _ _ us hl => match us, hl with | [_, _], _ => rfl)
    (fun f cdv A outer s H E hr => by
    have hh := hr.hd
    have nd := sc_is_thing.nd
    have hu := units_of hr
    exact (dss_one (ds_ret (de_and (de_callH his_whole (hr.mono (by decide)) rfl (da_cons (de_var (pv 1)) da_nil)) (de_one (de_chain (od_le hu) (od_lt hu) de_int (de_var (pv 1)) (de_var (pv 0)))))))) read_is_thing
theorem sc_are_unlike_ports : FnScope N_are_unlike_ports ["thing"] (defScope s_are_unlike_ports) := ⟨rfl, rfl, rfl, by decide +kernel, rfl, by decide +kernel, by decide +kernel⟩
theorem ok_are_unlike_ports (F : At K mg "are_unlike_ports" s_are_unlike_ports) (fr : Fre mg) (his_port : Has P w K mg base "is_port" 1 ["thing"] spis_port) : Has P w K mg base "are_unlike_ports" 2 ["thing"] spare_unlike_ports :=
  has_of (k := 1) F sc_are_unlike_ports len_are_unlike_ports t_are_unlike_ports (fun f fd FF => FF.bindsN fun _ _ _ _ _ _ us hl => match us, hl with | [_], _ => rfl)
    (fun f cdv A outer s H E hr => by
    have hh := hr.hd
    have nd := sc_are_unlike_ports.nd
    have hu := units_of hr
    exact (dss_cons (ds_if (dt_w (dw_or (dt_not (dt_val (de_isi rfl fr.isinstance (de_var (pv 0)) (pe_bltn rfl fr.tuple (by first | exact boot_tuple | exact PyProof.Rows.boot_tuple | decide +kernel) rfl)))) (dw_or1 (dt_not (dt_val (de_callB (cd_all hh) rfl fr.all (by first | exact boot_all | exact PyProof.Rows.boot_all) (da_cons (de_lc (own := [("one", 1)]) rfl nd (di_seq (de_var (pv 0))) (blkOk_by (N := N_are_unlike_ports) (own := [("one", 1)]) (sc := defScope s_are_unlike_ports) (by decide +kernel)) (fun _ _ _ _ _ => (dg_name (i := 1) (pg_name (i := 1) nd rfl (by first | exact Or.inl rfl | exact Or.inr rfl)))) (fun _ _ _ _ _ => dts_nil) (fun _ _ _ _ _ => (de_callH his_port (hr.mono (by decide)) rfl (da_cons (de_var (pv 1)) da_nil)))) da_nil))))))) (dss_one (ds_ret de_bl)) dss_nil)
      (dss_one (ds_ret (de_cmp (od_eq hu) (de_lenSet rfl rfl fr.len rfl fr.set (de_var (pv 0))) (de_callB cd_len rfl fr.len (by first | exact boot_len | exact PyProof.Rows.boot_len) (da_cons (de_var (pv 0)) da_nil)) (by rfl)))))) read_are_unlike_ports
theorem sc_is_rising : FnScope N_is_rising ["things"] (defScope s_is_rising) := ⟨rfl, rfl, rfl, by decide +kernel, rfl, by decide +kernel, by decide +kernel⟩
theorem ok_is_rising (F : At K mg "is_rising" s_is_rising) (fr : Fre mg) : Has P w K mg base "is_rising" 1 ["things"] spis_rising :=
  has_of (k := 0) F sc_is_rising len_is_rising t_is_rising (fun f fd FF => FF.bindsN fun _ _ _ _ _ _ us hl => match us, hl with | [_], _ => rfl)
    (fun f cdv A outer s H E hr => by
    have hh := hr.hd
    have nd := sc_is_rising.nd
    have hu := units_of hr
    exact (dss_one (ds_ret (de_callB (cd_all hh) rfl fr.all (by first | exact boot_all | exact PyProof.Rows.boot_all) (da_cons (de_lc (own := [("one", 1), ("other", 2)]) rfl nd (di_zip rfl fr.zip (da_cons (de_var (pv 0)) (da_cons (de_slice (de_var (pv 0)) (do_some de_int) do_none) da_nil))) (blkOk_by (N := N_is_rising) (own := [("one", 1), ("other", 2)]) (sc := defScope s_is_rising) (by decide +kernel)) (fun _ _ _ _ _ => (dg_tup rfl (dgs_cons (dg_name (i := 1) (pg_name (i := 1) nd rfl (by first | exact Or.inl rfl | exact Or.inr rfl))) (dgs_cons (dg_name (i := 2) (pg_name (i := 2) nd rfl (by first | exact Or.inl rfl | exact Or.inr rfl))) dgs_nil)))) (fun _ _ _ _ _ => dts_nil) (fun _ _ _ _ _ => (de_cmp (od_lt hu) (de_var (pv 1)) (de_var (pv 2)) (by rfl)))) da_nil))))) read_is_rising
theorem sc_is_pair : FnScope N_is_pair ["things", "ports", "thing"] (defScope s_is_pair) := ⟨rfl, rfl, rfl, by decide +kernel, rfl, by decide +kernel, by decide +kernel⟩
theorem ok_is_pair (F : At K mg "is_pair" s_is_pair) (fr : Fre mg) : Has P w K mg base "is_pair" 1 ["things", "ports", "thing"] spis_pair :=
  has_of (k := 0) F sc_is_pair len_is_pair t_is_pair (fun f fd FF => FF.bindsN fun _ _ _ _ _ _ us hl => match us, hl with | [_, _, _], _ => rfl)
    (fun f cdv A outer s H E hr => by
    have hh := hr.hd
    have nd := sc_is_pair.nd
    have hu := units_of hr
    exact (dss_cons (ds_if (dt_w (dw_or (dt_not (dt_val (de_isi rfl fr.isinstance (de_var (pv 2)) (pe_bltn rfl fr.tuple (by first | exact boot_tuple | exact PyProof.Rows.boot_tuple | decide +kernel) rfl)))) (dw_or (dt_cmp (od_ne hu) (de_callB cd_len rfl fr.len (by first | exact boot_len | exact PyProof.Rows.boot_len) (da_cons (de_var (pv 2)) da_nil)) de_int (by rfl)) (dw_or (dt_not (dt_val (de_isi rfl fr.isinstance (de_ix (de_var (pv 2)) de_int) (pe_bltn rfl fr.str (by first | exact boot_str | exact PyProof.Rows.boot_str | decide +kernel) rfl)))) (dw_or1 (dt_cmp (od_notIn hu) (de_ix (de_var (pv 2)) de_int) (de_var (pv 1)) (by rfl))))))) (dss_one (ds_ret de_bl)) dss_nil)
      (dss_one (ds_ret (de_and (de_isi rfl fr.isinstance (de_ix (de_var (pv 2)) de_int) (pe_bltn rfl fr.int (by first | exact boot_int | exact PyProof.Rows.boot_int | decide +kernel) rfl)) (de_and (de_not (de_isi rfl fr.isinstance (de_ix (de_var (pv 2)) de_int) (pe_bltn rfl fr.bool (by first | exact boot_bool | exact PyProof.Rows.boot_bool | decide +kernel) rfl))) (de_one (de_chain (od_le hu) (od_lt hu) de_int (de_ix (de_var (pv 2)) de_int) (de_var (pv 0)))))))))) read_is_pair
theorem sc_is_moment_of : FnScope N_is_moment_of ["things", "ports", "thing"] (defScope s_is_moment_of) := ⟨rfl, rfl, rfl, by decide +kernel, rfl, by decide +kernel, by decide +kernel⟩
theorem ok_is_moment_of (F : At K mg "is_moment_of" s_is_moment_of) (fr : Fre mg) (his_pair : Has P w K mg base "is_pair" 1 ["things", "ports", "thing"] spis_pair) (his_rising : Has P w K mg base "is_rising" 1 ["things"] spis_rising) : Has P w K mg base "is_moment_of" 2 ["things", "ports", "thing"] spis_moment_of :=
  has_of (k := 1) F sc_is_moment_of len_is_moment_of t_is_moment_of (fun f fd FF => FF.bindsN fun _ _ _ _ _ _ us hl => match us, hl with | [_, _, _], _ => rfl)
    (fun f cdv A outer s H E hr => by
    have hh := hr.hd
    have nd := sc_is_moment_of.nd
    have hu := units_of hr
    exact (dss_cons (ds_if (dt_w (dw_or (dt_not (dt_val (de_isi rfl fr.isinstance (de_var (pv 2)) (pe_bltn rfl fr.tuple (by first | exact boot_tuple | exact PyProof.Rows.boot_tuple | decide +kernel) rfl)))) (dw_or1 (dt_not (dt_val (de_callB (cd_all hh) rfl fr.all (by first | exact boot_all | exact PyProof.Rows.boot_all) (da_cons (de_lc (own := [("one", 3)]) rfl nd (di_seq (de_var (pv 2))) (blkOk_by (N := N_is_moment_of) (own := [("one", 3)]) (sc := defScope s_is_moment_of) (by decide +kernel)) (fun _ _ _ _ _ => (dg_name (i := 3) (pg_name (i := 3) nd rfl (by first | exact Or.inl rfl | exact Or.inr rfl)))) (fun _ _ _ _ _ => dts_nil) (fun _ _ _ _ _ => (de_callH his_pair (hr.mono (by decide)) rfl (da_cons (de_var (pv 0)) (da_cons (de_var (pv 1)) (da_cons (de_var (pv 3)) da_nil)))))) da_nil))))))) (dss_one (ds_ret de_bl)) dss_nil)
      (dss_one (ds_ret (de_callH his_rising (hr.mono (by decide)) rfl (da_cons (de_lc (own := [("pair", 4)]) rfl nd (di_seq (de_var (pv 2))) (blkOk_by (N := N_is_moment_of) (own := [("pair", 4)]) (sc := defScope s_is_moment_of) (by decide +kernel)) (fun _ _ _ _ _ => (dg_name (i := 4) (pg_name (i := 4) nd rfl (by first | exact Or.inl rfl | exact Or.inr rfl)))) (fun _ _ _ _ _ => dts_nil) (fun _ _ _ _ _ => (de_ix (de_var (pv 4)) de_int))) da_nil)))))) read_is_moment_of
theorem sc_is_table_step : FnScope N_is_table_step ["seen", "many", "thing"] (defScope s_is_table_step) := ⟨rfl, rfl, rfl, by decide +kernel, rfl, by decide +kernel, by decide +kernel⟩
theorem ok_is_table_step (F : At K mg "is_table_step" s_is_table_step) (fr : Fre mg) (his_thing : Has P w K mg base "is_thing" 2 ["things", "thing"] spis_thing) (his_moment_of : Has P w K mg base "is_moment_of" 2 ["things", "ports", "thing"] spis_moment_of) {k_MOST_THINGS : Tok} (c_MOST_THINGS : mg "MOST_THINGS" = some (.int 3 k_MOST_THINGS)) : Has P w K mg base "is_table_step" 3 ["seen", "many", "thing"] spis_table_step :=
  has_of (k := 2) F sc_is_table_step len_is_table_step t_is_table_step (fun f fd FF => FF.bindsN fun _ _ _ _ _ _ us hl => match us, hl with | [_, _, _], _ => rfl)
    (fun f cdv A outer s H E hr => by
    have hh := hr.hd
    have nd := sc_is_table_step.nd
    have hu := units_of hr
    exact (dss_cons (ds_if (dt_w (dw_or (dt_not (dt_val (de_isi rfl fr.isinstance (de_var (pv 2)) (pe_bltn rfl fr.tuple (by first | exact boot_tuple | exact PyProof.Rows.boot_tuple | decide +kernel) rfl)))) (dw_or1 (dt_cmp (od_ne hu) (de_callB cd_len rfl fr.len (by first | exact boot_len | exact PyProof.Rows.boot_len) (da_cons (de_var (pv 2)) da_nil)) de_int (by rfl))))) (dss_one (ds_ret de_bl)) dss_nil)
      (dss_one (ds_ret (de_and (de_callH his_thing (hr.mono (by decide)) rfl (da_cons (de_var (pv 1)) (da_cons (de_ix (de_var (pv 2)) de_int) da_nil))) (de_and (de_callH his_moment_of (hr.mono (by decide)) rfl (da_cons (de_globI rfl c_MOST_THINGS ⟨_, rfl⟩) (da_cons (de_var (pv 0)) (da_cons (de_ix (de_var (pv 2)) de_int) da_nil)))) (de_one (de_callH his_thing (hr.mono (by decide)) rfl (da_cons (de_var (pv 1)) (da_cons (de_ix (de_var (pv 2)) de_int) da_nil)))))))))) read_is_table_step
theorem sc_is_table : FnScope N_is_table ["thing"] (defScope s_is_table) := ⟨rfl, rfl, rfl, by decide +kernel, rfl, by decide +kernel, by decide +kernel⟩
theorem ok_is_table (F : At K mg "is_table" s_is_table) (fr : Fre mg) (hare_unlike_ports : Has P w K mg base "are_unlike_ports" 2 ["thing"] spare_unlike_ports) (his_whole : Has P w K mg base "is_whole" 1 ["thing"] spis_whole) (his_table_step : Has P w K mg base "is_table_step" 3 ["seen", "many", "thing"] spis_table_step) (his_rising : Has P w K mg base "is_rising" 1 ["things"] spis_rising) {k_MOST_SEEN : Tok} (c_MOST_SEEN : mg "MOST_SEEN" = some (.int 6 k_MOST_SEEN)) {k_MOST_STANDS : Tok} (c_MOST_STANDS : mg "MOST_STANDS" = some (.int 2000 k_MOST_STANDS)) : Has P w K mg base "is_table" 4 ["thing"] spis_table :=
  has_of (k := 3) F sc_is_table len_is_table t_is_table (fun f fd FF => FF.bindsN fun _ _ _ _ _ _ us hl => match us, hl with | [_], _ => rfl)
    (fun f cdv A outer s H E hr => by
    have hh := hr.hd
    have nd := sc_is_table.nd
    have hu := units_of hr
    exact (dss_cons (ds_if (dt_w (dw_or (dt_not (dt_val (de_isi rfl fr.isinstance (de_var (pv 0)) (pe_bltn rfl fr.tuple (by first | exact boot_tuple | exact PyProof.Rows.boot_tuple | decide +kernel) rfl)))) (dw_or1 (dt_cmp (od_ne hu) (de_callB cd_len rfl fr.len (by first | exact boot_len | exact PyProof.Rows.boot_len) (da_cons (de_var (pv 0)) da_nil)) de_int (by rfl))))) (dss_one (ds_ret de_bl)) dss_nil)
      (dss_cons (ds_asg [1, 2, 3] (de_var (pv 0)) (dg_tup rfl (dgs_cons (dg_name (i := 1) (pg_name (i := 1) nd rfl (by first | exact Or.inl rfl | exact Or.inr rfl))) (dgs_cons (dg_name (i := 2) (pg_name (i := 2) nd rfl (by first | exact Or.inl rfl | exact Or.inr rfl))) (dgs_cons (dg_name (i := 3) (pg_name (i := 3) nd rfl (by first | exact Or.inl rfl | exact Or.inr rfl))) dgs_nil)))))
      (dss_cons (ds_if (dt_w (dw_or (dt_not (dt_val (de_callH hare_unlike_ports (hr.mono (by decide)) rfl (da_cons (de_var (pv 1)) da_nil)))) (dw_or1 (dt_cmp (od_gt hu) (de_callB cd_len rfl fr.len (by first | exact boot_len | exact PyProof.Rows.boot_len) (da_cons (de_var (pv 1)) da_nil)) (de_globI rfl c_MOST_SEEN ⟨_, rfl⟩) (by rfl))))) (dss_one (ds_ret de_bl)) dss_nil)
      (dss_cons (ds_if (dt_w (dw_or (dt_not (dt_val (de_callH his_whole (hr.mono (by decide)) rfl (da_cons (de_var (pv 2)) da_nil)))) (dw_or (dt_not (dt_chain (od_le hu) (od_le hu) de_int (de_var (pv 2)) (de_globI rfl c_MOST_STANDS ⟨_, rfl⟩))) (dw_or1 (dt_not (dt_val (de_isi rfl fr.isinstance (de_var (pv 3)) (pe_bltn rfl fr.tuple (by first | exact boot_tuple | exact PyProof.Rows.boot_tuple | decide +kernel) rfl)))))))) (dss_one (ds_ret de_bl)) dss_nil)
      (dss_one (ds_ret (de_and (de_callB (cd_all hh) rfl fr.all (by first | exact boot_all | exact PyProof.Rows.boot_all) (da_cons (de_lc (own := [("step", 4)]) rfl nd (di_seq (de_var (pv 3))) (blkOk_by (N := N_is_table) (own := [("step", 4)]) (sc := defScope s_is_table) (by decide +kernel)) (fun _ _ _ _ _ => (dg_name (i := 4) (pg_name (i := 4) nd rfl (by first | exact Or.inl rfl | exact Or.inr rfl)))) (fun _ _ _ _ _ => dts_nil) (fun _ _ _ _ _ => (de_callH his_table_step (hr.mono (by decide)) rfl (da_cons (de_var (pv 1)) (da_cons (de_var (pv 2)) (da_cons (de_var (pv 4)) da_nil)))))) da_nil)) (de_one (de_callH his_rising (hr.mono (by decide)) rfl (da_cons (de_var (pv 3)) da_nil))))))))))) read_is_table
theorem sc_step_line : FnScope N_step_line ["step"] (defScope s_step_line) := ⟨rfl, rfl, rfl, by decide +kernel, rfl, by decide +kernel, by decide +kernel⟩
theorem ok_step_line (F : At K mg "step_line" s_step_line) (fr : Fre mg) : Has P w K mg base "step_line" 1 ["step"] spstep_line :=
  has_of (k := 0) F sc_step_line len_step_line t_step_line (fun f fd FF => FF.bindsN fun _ _ _ _ _ _ us hl => match us, hl with | [_], _ => rfl)
    (fun f cdv A outer s H E hr => by
    have hh := hr.hd
    have nd := sc_step_line.nd
    have hu := units_of hr
    exact (dss_cons (ds_asg [1, 2, 3] (de_var (pv 0)) (dg_tup rfl (dgs_cons (dg_name (i := 1) (pg_name (i := 1) nd rfl (by first | exact Or.inl rfl | exact Or.inr rfl))) (dgs_cons (dg_name (i := 2) (pg_name (i := 2) nd rfl (by first | exact Or.inl rfl | exact Or.inr rfl))) (dgs_cons (dg_name (i := 3) (pg_name (i := 3) nd rfl (by first | exact Or.inl rfl | exact Or.inr rfl))) dgs_nil)))))
      (dss_cons (ds_set (ps_set (i := 4) nd rfl (by first | exact Or.inl rfl | exact Or.inr rfl) (de_lst (da_cons de_str (da_cons (de_callTy cd_str rfl fr.str (by first | exact boot_str | exact PyProof.Rows.boot_str) (da_cons (de_var (pv 1)) da_nil)) (da_cons (de_callTy cd_str rfl fr.str (by first | exact boot_str | exact PyProof.Rows.boot_str) (da_cons (de_var (pv 3)) da_nil)) da_nil))))))
      (dss_cons (ds_for [5, 6] PassesOwn.never rfl (di_seq (de_var (pv 2))) (dg_tup rfl (dgs_cons (dg_name (i := 5) (pg_name (i := 5) nd rfl (by first | exact Or.inl rfl | exact Or.inr rfl))) (dgs_cons (dg_name (i := 6) (pg_name (i := 6) nd rfl (by first | exact Or.inl rfl | exact Or.inr rfl))) dgs_nil))) (dss_one (ds_set (ps_set (i := 4) nd rfl (by first | exact Or.inl rfl | exact Or.inr rfl) (de_op od_add (de_var (pv 4)) (de_lst (da_cons (de_var (pv 5)) (da_cons (de_callTy cd_str rfl fr.str (by first | exact boot_str | exact PyProof.Rows.boot_str) (da_cons (de_var (pv 6)) da_nil)) da_nil))))))))
      (dss_one (ds_ret (de_bm PySem.F.plainAttrs_str PySem.F.slot_str_join PySem.F.type_str_join md_join de_str (da_cons (de_var (pv 4)) da_nil)))))))) read_step_line
theorem sc_table_lines : FnScope N_table_lines ["table"] (defScope s_table_lines) := ⟨rfl, rfl, rfl, by decide +kernel, rfl, by decide +kernel, by decide +kernel⟩
theorem ok_table_lines (F : At K mg "table_lines" s_table_lines) (fr : Fre mg) (hstep_line : Has P w K mg base "step_line" 1 ["step"] spstep_line) : Has P w K mg base "table_lines" 2 ["table"] sptable_lines :=
  has_of (k := 1) F sc_table_lines len_table_lines t_table_lines (fun f fd FF => FF.bindsN fun _ _ _ _ _ _ us hl => match us, hl with | [_], _ => rfl)
    (fun f cdv A outer s H E hr => by
    have hh := hr.hd
    have nd := sc_table_lines.nd
    have hu := units_of hr
    exact (dss_cons (ds_asg [1, 2, 3] (de_var (pv 0)) (dg_tup rfl (dgs_cons (dg_name (i := 1) (pg_name (i := 1) nd rfl (by first | exact Or.inl rfl | exact Or.inr rfl))) (dgs_cons (dg_name (i := 2) (pg_name (i := 2) nd rfl (by first | exact Or.inl rfl | exact Or.inr rfl))) (dgs_cons (dg_name (i := 3) (pg_name (i := 3) nd rfl (by first | exact Or.inl rfl | exact Or.inr rfl))) dgs_nil)))))
      (dss_one (ds_ret (de_op od_addN (de_lst (da_cons (de_bm PySem.F.plainAttrs_str PySem.F.slot_str_join PySem.F.type_str_join md_join de_str (da_cons (de_op od_add (de_lst (da_cons de_str (da_cons (de_callTy cd_str rfl fr.str (by first | exact boot_str | exact PyProof.Rows.boot_str) (da_cons (de_var (pv 2)) da_nil)) da_nil))) (de_callTy cd_list rfl fr.list (by first | exact boot_list | exact PyProof.Rows.boot_list) (da_cons (de_var (pv 1)) da_nil))) da_nil)) da_nil)) (de_lc (own := [("step", 4)]) rfl nd (di_seq (de_var (pv 3))) (blkOk_by (N := N_table_lines) (own := [("step", 4)]) (sc := defScope s_table_lines) (by decide +kernel)) (fun _ _ _ _ _ => (dg_name (i := 4) (pg_name (i := 4) nd rfl (by first | exact Or.inl rfl | exact Or.inr rfl)))) (fun _ _ _ _ _ => dts_nil) (fun _ _ _ _ _ => (de_callH hstep_line (hr.mono (by decide)) rfl (da_cons (de_var (pv 4)) da_nil))))))))) read_table_lines
theorem sc_number_in : FnScope N_number_in ["word", "most"] (defScope s_number_in) := ⟨rfl, rfl, rfl, by decide +kernel, rfl, by decide +kernel, by decide +kernel⟩
theorem ok_number_in (F : At K mg "number_in" s_number_in) (fr : Fre mg) {k_FIGURES : Tok} (c_FIGURES : mg "FIGURES" = some (.str "0123456789" k_FIGURES)) {k_MOST_FIGURES : Tok} (c_MOST_FIGURES : mg "MOST_FIGURES" = some (.int 4 k_MOST_FIGURES)) : Has P w K mg base "number_in" 1 ["word", "most"] spnumber_in :=
  has_of (k := 0) F sc_number_in len_number_in t_number_in (fun f fd FF => FF.bindsN fun _ _ _ _ _ _ us hl => match us, hl with | [_, _], _ => rfl)
    (fun f cdv A outer s H E hr => by
    have hh := hr.hd
    have nd := sc_number_in.nd
    have hu := units_of hr
    exact (dss_cons (ds_if (dt_w (dw_or (dt_not (dt_chain (od_le hu) (od_le hu) de_int (de_callB cd_len rfl fr.len (by first | exact boot_len | exact PyProof.Rows.boot_len) (da_cons (de_var (pv 0)) da_nil)) (de_globI rfl c_MOST_FIGURES ⟨_, rfl⟩))) (dw_or1 (dt_not (dt_val (de_callB (cd_all hh) rfl fr.all (by first | exact boot_all | exact PyProof.Rows.boot_all) (da_cons (de_lc (own := [("sign", 2)]) rfl nd (di_str (de_var (pv 0))) (blkOk_by (N := N_number_in) (own := [("sign", 2)]) (sc := defScope s_number_in) (by decide +kernel)) (fun _ _ _ _ _ => (dg_name (i := 2) (pg_name (i := 2) nd rfl (by first | exact Or.inl rfl | exact Or.inr rfl)))) (fun _ _ _ _ _ => dts_nil) (fun _ _ _ _ _ => (de_cmp (od_in hu) (de_var (pv 2)) (de_globS rfl c_FIGURES ⟨_, rfl⟩) (by rfl)))) da_nil))))))) (dss_one (ds_ret de_non)) dss_nil)
      (dss_cons (ds_if (dt_w (dw_or (dt_w (dw_and (dt_cmp (od_eq hu) (de_ix (de_var (pv 0)) de_int) de_str (by rfl)) (dw_and1 (dt_cmp (od_ne hu) (de_var (pv 0)) de_str (by rfl))))) (dw_or1 (dt_cmp (od_ge hu) (de_callTy cd_int rfl fr.int (by first | exact boot_int | exact PyProof.Rows.boot_int) (da_cons (de_var (pv 0)) da_nil)) (de_var (pv 1)) (by rfl))))) (dss_one (ds_ret de_non)) dss_nil)
      (dss_one (ds_ret (de_callTy cd_int rfl fr.int (by first | exact boot_int | exact PyProof.Rows.boot_int) (da_cons (de_var (pv 0)) da_nil))))))) read_number_in
theorem sc_read_head : FnScope N_read_head ["words"] (defScope s_read_head) := ⟨rfl, rfl, rfl, by decide +kernel, rfl, by decide +kernel, by decide +kernel⟩
theorem ok_read_head (F : At K mg "read_head" s_read_head) (fr : Fre mg) (hnumber_in : Has P w K mg base "number_in" 1 ["word", "most"] spnumber_in) (hare_unlike_ports : Has P w K mg base "are_unlike_ports" 2 ["thing"] spare_unlike_ports) {k_MOST_SEEN : Tok} (c_MOST_SEEN : mg "MOST_SEEN" = some (.int 6 k_MOST_SEEN)) {k_MOST_STANDS : Tok} (c_MOST_STANDS : mg "MOST_STANDS" = some (.int 2000 k_MOST_STANDS)) : Has P w K mg base "read_head" 3 ["words"] spread_head :=
  has_of (k := 2) F sc_read_head len_read_head t_read_head (fun f fd FF => FF.bindsN fun _ _ _ _ _ _ us hl => match us, hl with | [_], _ => rfl)
    (fun f cdv A outer s H E hr => by
    have hh := hr.hd
    have nd := sc_read_head.nd
    have hu := units_of hr
    exact (dss_cons (ds_if (dt_w (dw_or (dt_cmp (od_ne hu) (de_ix (de_var (pv 0)) de_int) de_str (by rfl)) (dw_or1 (dt_not (dt_chain (od_le hu) (od_le hu) de_int (de_callB cd_len rfl fr.len (by first | exact boot_len | exact PyProof.Rows.boot_len) (da_cons (de_var (pv 0)) da_nil)) (de_op od_add de_int (de_globI rfl c_MOST_SEEN ⟨_, rfl⟩))))))) (dss_one (ds_ret de_non)) dss_nil)
      (dss_cons (ds_set (ps_set (i := 1) nd rfl (by first | exact Or.inl rfl | exact Or.inr rfl) (de_callH hnumber_in (hr.mono (by decide)) rfl (da_cons (de_ix (de_var (pv 0)) de_int) (da_cons (de_op od_add (de_globI rfl c_MOST_STANDS ⟨_, rfl⟩) de_int) da_nil)))))
      (dss_cons (ds_set (ps_set (i := 2) nd rfl (by first | exact Or.inl rfl | exact Or.inr rfl) (de_callTy cd_tuple rfl fr.tuple (by first | exact boot_tuple | exact PyProof.Rows.boot_tuple) (da_cons (de_slice (de_var (pv 0)) (do_some de_int) do_none) da_nil))))
      (dss_cons (ds_if (dt_w (dw_or (dt_cmp od_isN (de_var (pv 1)) de_non (by rfl)) (dw_or (dt_cmp (od_eq hu) (de_var (pv 1)) de_int (by rfl)) (dw_or1 (dt_not (dt_val (de_callH hare_unlike_ports (hr.mono (by decide)) rfl (da_cons (de_var (pv 2)) da_nil)))))))) (dss_one (ds_ret de_non)) dss_nil)
      (dss_one (ds_ret (de_tup (da_cons (de_var (pv 2)) (da_cons (de_var (pv 1)) da_nil)))))))))) read_read_head
theorem sc_read_moment : FnScope N_read_moment ["seen", "words"] (defScope s_read_moment) := ⟨rfl, rfl, rfl, by decide +kernel, rfl, by decide +kernel, by decide +kernel⟩
theorem ok_read_moment (F : At K mg "read_moment" s_read_moment) (fr : Fre mg) (hnumber_in : Has P w K mg base "number_in" 1 ["word", "most"] spnumber_in) (his_rising : Has P w K mg base "is_rising" 1 ["things"] spis_rising) {k_MOST_THINGS : Tok} (c_MOST_THINGS : mg "MOST_THINGS" = some (.int 3 k_MOST_THINGS)) : Has P w K mg base "read_moment" 2 ["seen", "words"] spread_moment :=
  has_of (k := 1) F sc_read_moment len_read_moment t_read_moment (fun f fd FF => FF.bindsN fun _ _ _ _ _ _ us hl => match us, hl with | [_, _], _ => rfl)
    (fun f cdv A outer s H E hr => by
    have hh := hr.hd
    have nd := sc_read_moment.nd
    have hu := units_of hr
    exact (dss_cons (ds_set (ps_set (i := 2) nd rfl (by first | exact Or.inl rfl | exact Or.inr rfl) (de_slice3 (de_var (pv 1)))))
      (dss_cons (ds_setLc (i := 3) (own := [("word", 4)]) rfl nd rfl (by rfl) (sw_true rfl (by rfl) rfl (by decide +kernel)) (di_seq (de_slice3 (de_var (pv 1)))) (blkOk_by (N := N_read_moment) (own := [("word", 4)]) (sc := defScope s_read_moment) (by decide +kernel)) (fun _ _ _ _ _ => (dg_name (i := 4) (pg_name (i := 4) nd rfl (by first | exact Or.inl rfl | exact Or.inr rfl)))) (fun _ _ _ _ _ => dts_nil) (fun _ _ _ _ _ => (de_callH hnumber_in (hr.mono (by decide)) rfl (da_cons (de_var (pv 4)) (da_cons (de_globI rfl c_MOST_THINGS ⟨_, rfl⟩) da_nil)))))
      (dss_cons (ds_if (dt_w (dw_or (dt_cmp (od_ne hu) (de_callB cd_len rfl fr.len (by first | exact boot_len | exact PyProof.Rows.boot_len) (da_cons (de_var (pv 2)) da_nil)) (de_callB cd_len rfl fr.len (by first | exact boot_len | exact PyProof.Rows.boot_len) (da_cons (de_var (pv 3)) da_nil)) (by rfl)) (dw_or (dt_cmp (od_in hu) de_non (de_var (pv 3)) (by rfl)) (dw_or1 (dt_not (dt_val (de_callH his_rising (hr.mono (by decide)) rfl (da_cons (de_var (pv 2)) da_nil)))))))) (dss_one (ds_ret de_non)) dss_nil)
      (dss_cons (ds_if (dt_not (dt_val (de_callB (cd_all hh) rfl fr.all (by first | exact boot_all | exact PyProof.Rows.boot_all) (da_cons (de_lc (own := [("port", 5)]) rfl nd (di_seq (de_var (pv 2))) (blkOk_by (N := N_read_moment) (own := [("port", 5)]) (sc := defScope s_read_moment) (by decide +kernel)) (fun _ _ _ _ _ => (dg_name (i := 5) (pg_name (i := 5) nd rfl (by first | exact Or.inl rfl | exact Or.inr rfl)))) (fun _ _ _ _ _ => dts_nil) (fun _ _ _ _ _ => (de_cmp (od_in hu) (de_var (pv 5)) (de_var (pv 0)) (by rfl)))) da_nil)))) (dss_one (ds_ret de_non)) dss_nil)
      (dss_one (ds_ret (de_tupZip rfl rfl fr.tuple rfl fr.zip (da_cons (de_var (pv 2)) (da_cons (de_var (pv 3)) da_nil)))))))))) read_read_moment
theorem sc_read_step : FnScope N_read_step ["seen", "many", "words"] (defScope s_read_step) := ⟨rfl, rfl, rfl, by decide +kernel, rfl, by decide +kernel, by decide +kernel⟩
theorem ok_read_step (F : At K mg "read_step" s_read_step) (fr : Fre mg) (hnumber_in : Has P w K mg base "number_in" 1 ["word", "most"] spnumber_in) (hread_moment : Has P w K mg base "read_moment" 2 ["seen", "words"] spread_moment) : Has P w K mg base "read_step" 3 ["seen", "many", "words"] spread_step :=
  has_of (k := 2) F sc_read_step len_read_step t_read_step (fun f fd FF => FF.bindsN fun _ _ _ _ _ _ us hl => match us, hl with | [_, _, _], _ => rfl)
    (fun f cdv A outer s H E hr => by
    have hh := hr.hd
    have nd := sc_read_step.nd
    have hu := units_of hr
    exact (dss_cons (ds_if (dt_w (dw_or (dt_cmp (od_ne hu) (de_ix (de_var (pv 2)) de_int) de_str (by rfl)) (dw_or1 (dt_cmp (od_lt hu) (de_callB cd_len rfl fr.len (by first | exact boot_len | exact PyProof.Rows.boot_len) (da_cons (de_var (pv 2)) da_nil)) de_int (by rfl))))) (dss_one (ds_ret de_non)) dss_nil)
      (dss_cons (ds_set (ps_set (i := 3) nd rfl (by first | exact Or.inl rfl | exact Or.inr rfl) (de_callH hnumber_in (hr.mono (by decide)) rfl (da_cons (de_ix (de_var (pv 2)) de_int) (da_cons (de_var (pv 1)) da_nil)))))
      (dss_cons (ds_set (ps_set (i := 4) nd rfl (by first | exact Or.inl rfl | exact Or.inr rfl) (de_callH hnumber_in (hr.mono (by decide)) rfl (da_cons (de_ix (de_var (pv 2)) de_int) (da_cons (de_var (pv 1)) da_nil)))))
      (dss_cons (ds_set (ps_set (i := 5) nd rfl (by first | exact Or.inl rfl | exact Or.inr rfl) (de_callH hread_moment (hr.mono (by decide)) rfl (da_cons (de_var (pv 0)) (da_cons (de_slice (de_var (pv 2)) (do_some de_int) do_none) da_nil)))))
      (dss_cons (ds_if (dt_w (dw_or (dt_cmp od_isN (de_var (pv 3)) de_non (by rfl)) (dw_or (dt_cmp od_isN (de_var (pv 4)) de_non (by rfl)) (dw_or1 (dt_cmp od_isN (de_var (pv 5)) de_non (by rfl)))))) (dss_one (ds_ret de_non)) dss_nil)
      (dss_one (ds_ret (de_tup (da_cons (de_var (pv 3)) (da_cons (de_var (pv 5)) (da_cons (de_var (pv 4)) da_nil)))))))))))) read_read_step
theorem sc_read_table : FnScope N_read_table ["lines"] (defScope s_read_table) := ⟨rfl, rfl, rfl, by decide +kernel, rfl, by decide +kernel, by decide +kernel⟩
theorem ok_read_table (F : At K mg "read_table" s_read_table) (fr : Fre mg) (hread_head : Has P w K mg base "read_head" 3 ["words"] spread_head) (hread_step : Has P w K mg base "read_step" 3 ["seen", "many", "words"] spread_step) : Has P w K mg base "read_table" 4 ["lines"] spread_table :=
  has_of (k := 3) F sc_read_table len_read_table t_read_table (fun f fd FF => FF.bindsN fun _ _ _ _ _ _ us hl => match us, hl with | [_], _ => rfl)
    (fun f cdv A outer s H E hr => by
    have hh := hr.hd
    have nd := sc_read_table.nd
    have hu := units_of hr
    exact (dss_cons (ds_set (ps_set (i := 1) nd rfl (by first | exact Or.inl rfl | exact Or.inr rfl) (de_ifExp (dt_cmp (od_gt hu) (de_callB cd_len rfl fr.len (by first | exact boot_len | exact PyProof.Rows.boot_len) (da_cons (de_var (pv 0)) da_nil)) de_int (by rfl)) (de_callH hread_head (hr.mono (by decide)) rfl (da_cons (de_bm PySem.F.plainAttrs_str PySem.F.slot_str_split PySem.F.type_str_split md_split (de_ix (de_var (pv 0)) de_int) (da_cons de_str da_nil)) da_nil)) de_non)))
      (dss_cons (ds_if (dt_cmp od_isN (de_var (pv 1)) de_non (by rfl)) (dss_one ds_never) dss_nil)
      (dss_cons (ds_set (ps_set (i := 2) nd rfl (by first | exact Or.inl rfl | exact Or.inr rfl) (de_lstN da_nil)))
      (dss_cons (ds_for [3] PassesOwn.never rfl (di_range2 rfl fr.range (da_cons de_int (da_cons (de_callB cd_len rfl fr.len (by first | exact boot_len | exact PyProof.Rows.boot_len) (da_cons (de_var (pv 0)) da_nil)) da_nil))) (dg_name (i := 3) (pg_name (i := 3) nd rfl (by first | exact Or.inl rfl | exact Or.inr rfl))) (dss_cons (ds_set (ps_set (i := 4) nd rfl (by first | exact Or.inl rfl | exact Or.inr rfl) (de_callH hread_step (hr.mono (by decide)) rfl (da_cons (de_ix (de_var (pv 1)) de_int) (da_cons (de_ix (de_var (pv 1)) de_int) (da_cons (de_bm PySem.F.plainAttrs_str PySem.F.slot_str_split PySem.F.type_str_split md_split (de_ix (de_var (pv 0)) (de_var (pv 3))) (da_cons de_str da_nil)) da_nil))))))
      (dss_cons (ds_if (dt_w (dw_or (dt_cmp od_isN (de_var (pv 4)) de_non (by rfl)) (dw_or1 (dt_w (dw_and (dt_cmp (od_ne hu) (de_var (pv 2)) (de_lst da_nil) (by rfl)) (dw_and1 (dt_cmp (od_le hu) (de_var (pv 4)) (de_ix (de_var (pv 2)) de_neg) (by rfl)))))))) (dss_one ds_never) dss_nil)
      (dss_one (ds_expr (de_bm PySem.F.plainAttrs_list PySem.F.slot_list_append PySem.F.type_list_append md_append (de_var (pv 2)) (da_cons (de_var (pv 4)) da_nil)))))))
      (dss_one (ds_ret (de_tup (da_cons (de_ix (de_var (pv 1)) de_int) (da_cons (de_ix (de_var (pv 1)) de_int) (da_cons (de_callTy cd_tuple rfl fr.tuple (by first | exact boot_tuple | exact PyProof.Rows.boot_tuple) (da_cons (de_var (pv 2)) da_nil)) da_nil))))))))))) read_read_table
theorem sc__law_tape : FnScope N__law_tape ["_law_script"] (defScope s__law_tape) := ⟨rfl, rfl, rfl, by decide +kernel, rfl, by decide +kernel, by decide +kernel⟩
theorem ok__law_tape (F : At K mg "_law_tape" s__law_tape) (fr : Fre mg) : Has P w K mg base "_law_tape" 1 ["_law_script"] sp_law_tape :=
  has_of (k := 0) F sc__law_tape len__law_tape t__law_tape (fun f fd FF => FF.bindsN fun _ _ _ _ _ _ us hl => match us, hl with | [_], _ => rfl)
    (fun f cdv A outer s H E hr => by
    have hh := hr.hd
    have nd := sc__law_tape.nd
    have hu := units_of hr
    exact (dss_one (ds_ret (de_lstN (da_cons (de_slice (de_var (pv 0)) do_none (do_some de_int)) (da_cons de_int (da_cons de_int da_nil))))))) read__law_tape
theorem sc__law_draw : FnScope N__law_draw ["_law_tape_here", "_law_many"] (defScope s__law_draw) := ⟨rfl, rfl, rfl, by decide +kernel, rfl, by decide +kernel, by decide +kernel⟩
theorem ok__law_draw (F : At K mg "_law_draw" s__law_draw) (fr : Fre mg) : Has P w K mg base "_law_draw" 1 ["_law_tape_here", "_law_many"] sp_law_draw :=
  has_of (k := 0) F sc__law_draw len__law_draw t__law_draw (fun f fd FF => FF.bindsN fun _ _ _ _ _ _ us hl => match us, hl with | [_, _], _ => rfl)
    (fun f cdv A outer s H E hr => by
    have hh := hr.hd
    have nd := sc__law_draw.nd
    have hu := units_of hr
    exact (dss_cons (ds_if (dt_cmp (od_gt hu) (de_ix (de_var (pv 0)) de_int) de_int (by rfl)) (dss_cons (ds_set (ps_set (i := 2) nd rfl (by first | exact Or.inl rfl | exact Or.inr rfl) (de_op od_mod (de_ix (de_var (pv 0)) de_int) (de_var (pv 1)))))
      (dss_cons (ds_asg [] (de_op od_fdiv (de_ix (de_var (pv 0)) de_int) (de_var (pv 1))) (dg_sub (de_var (pv 0)) de_int))
      (dss_one (ds_ret (de_var (pv 2)))))) dss_nil)
      (dss_cons (ds_set (ps_set (i := 3) nd rfl (by first | exact Or.inl rfl | exact Or.inr rfl) (de_ix (de_var (pv 0)) de_int)))
      (dss_cons (ds_asg [] (de_op od_add (de_var (pv 3)) de_int) (dg_sub (de_var (pv 0)) de_int))
      (dss_cons (ds_set (ps_set (i := 4) nd rfl (by first | exact Or.inl rfl | exact Or.inr rfl) de_int))
      (dss_cons (ds_if (dt_cmp (od_gt hu) (de_callB cd_len rfl fr.len (by first | exact boot_len | exact PyProof.Rows.boot_len) (da_cons (de_ix (de_var (pv 0)) de_int) da_nil)) de_int (by rfl)) (dss_one (ds_set (ps_set (i := 4) nd rfl (by first | exact Or.inl rfl | exact Or.inr rfl) (de_ix (de_ix (de_var (pv 0)) de_int) (de_op od_mod (de_var (pv 3)) (de_callB cd_len rfl fr.len (by first | exact boot_len | exact PyProof.Rows.boot_len) (da_cons (de_ix (de_var (pv 0)) de_int) da_nil))))))) dss_nil)
      (dss_cons (ds_if (dt_cmp (od_ge hu) (de_var (pv 4)) (de_op od_pow de_int de_int) (by rfl)) (dss_cons (ds_asg [] (de_op od_fdiv (de_var (pv 4)) (de_var (pv 1))) (dg_sub (de_var (pv 0)) de_int))
      (dss_one (ds_ret (de_op od_mod (de_var (pv 4)) (de_var (pv 1)))))) dss_nil)
      (dss_cons (ds_set (ps_set (i := 5) nd rfl (by first | exact Or.inl rfl | exact Or.inr rfl) (de_op od_mod (de_op od_mul (de_op od_add (de_op od_add (de_op od_add (de_op od_mod (de_var (pv 4)) de_int) (de_op od_mul (de_op od_mul de_int (de_var (pv 3))) (de_var (pv 3)))) (de_op od_mul de_int (de_var (pv 3)))) de_int) de_int) de_int)))
      (dss_cons (ds_set (ps_set (i := 5) nd rfl (by first | exact Or.inl rfl | exact Or.inr rfl) (de_op od_mod (de_op od_add (de_op od_mul (de_var (pv 5)) de_int) (de_op od_mul de_int (de_var (pv 3)))) de_int)))
      (dss_one (ds_ret (de_op od_mod (de_op od_fdiv (de_var (pv 5)) de_int) (de_var (pv 1)))))))))))))) read__law_draw
theorem sc__law_names : FnScope N__law_names ["_law_tape_here", "_law_many"] (defScope s__law_names) := ⟨rfl, rfl, rfl, by decide +kernel, rfl, by decide +kernel, by decide +kernel⟩
theorem ok__law_names (F : At K mg "_law_names" s__law_names) (fr : Fre mg) (h_law_draw : Has P w K mg base "_law_draw" 1 ["_law_tape_here", "_law_many"] sp_law_draw) : Has P w K mg base "_law_names" 2 ["_law_tape_here", "_law_many"] sp_law_names :=
  has_of (k := 1) F sc__law_names len__law_names t__law_names (fun f fd FF => FF.bindsN fun _ _ _ _ _ _ us hl => match us, hl with | [_, _], _ => rfl)
    (fun f cdv A outer s H E hr => by
    have hh := hr.hd
    have nd := sc__law_names.nd
    have hu := units_of hr
    exact (dss_cons (ds_set (ps_set (i := 2) nd rfl (by first | exact Or.inl rfl | exact Or.inr rfl) (de_lst (da_cons de_str (da_cons de_str (da_cons de_str (da_cons de_str (da_cons de_str (da_cons de_str (da_cons de_str (da_cons de_str (da_cons de_str (da_cons de_str (da_cons de_str (da_cons de_str (da_cons de_str (da_cons de_str da_nil)))))))))))))))))
      (dss_cons (ds_set (ps_set (i := 2) nd rfl (by first | exact Or.inl rfl | exact Or.inr rfl) (de_op od_add (de_var (pv 2)) (de_lst (da_cons de_str (da_cons de_str (da_cons de_str da_nil)))))))
      (dss_cons (ds_set (ps_set (i := 3) nd rfl (by first | exact Or.inl rfl | exact Or.inr rfl) (de_callH h_law_draw (hr.mono (by decide)) rfl (da_cons (de_var (pv 0)) (da_cons de_int da_nil)))))
      (dss_cons (ds_set (ps_set (i := 4) nd rfl (by first | exact Or.inl rfl | exact Or.inr rfl) (de_op od_add de_int (de_callH h_law_draw (hr.mono (by decide)) rfl (da_cons (de_var (pv 0)) (da_cons de_int da_nil))))))
      (dss_one (ds_ret (de_lc (own := [("_law_k", 5)]) rfl nd (di_range1 rfl fr.range (da_cons (de_var (pv 1)) da_nil)) (blkOk_by (N := N__law_names) (own := [("_law_k", 5)]) (sc := defScope s__law_names) (by decide +kernel)) (fun _ _ _ _ _ => (dg_name (i := 5) (pg_name (i := 5) nd rfl (by first | exact Or.inl rfl | exact Or.inr rfl)))) (fun _ _ _ _ _ => dts_nil) (fun _ _ _ _ _ => (de_ix (de_var (pv 2)) (de_op od_mod (de_op od_add (de_var (pv 3)) (de_op od_mul (de_var (pv 4)) (de_var (pv 5)))) de_int))))))))))) read__law_names
theorem sc__law_moment : FnScope N__law_moment ["_law_tape_here", "_law_seen", "_law_few"] (defScope s__law_moment) := ⟨rfl, rfl, rfl, by decide +kernel, rfl, by decide +kernel, by decide +kernel⟩
theorem ok__law_moment (F : At K mg "_law_moment" s__law_moment) (fr : Fre mg) (h_law_draw : Has P w K mg base "_law_draw" 1 ["_law_tape_here", "_law_many"] sp_law_draw) : Has P w K mg base "_law_moment" 2 ["_law_tape_here", "_law_seen", "_law_few"] sp_law_moment :=
  has_of (k := 1) F sc__law_moment len__law_moment t__law_moment (fun f fd FF => FF.bindsN fun _ _ _ _ _ _ us hl => match us, hl with | [_, _, _], _ => rfl)
    (fun f cdv A outer s H E hr => by
    have hh := hr.hd
    have nd := sc__law_moment.nd
    have hu := units_of hr
    exact (dss_cons (ds_setLc (i := 3) (own := [("_law_port", 4)]) rfl nd rfl (by rfl) (sw_true rfl (by rfl) rfl (by decide +kernel)) (di_seq (de_var (pv 1))) (blkOk_by (N := N__law_moment) (own := [("_law_port", 4)]) (sc := defScope s__law_moment) (by decide +kernel)) (fun _ _ _ _ _ => (dg_name (i := 4) (pg_name (i := 4) nd rfl (by first | exact Or.inl rfl | exact Or.inr rfl)))) (fun _ _ _ _ _ => (dts_one (dt_cmp (od_lt hu) (de_callH h_law_draw (hr.mono (by decide)) rfl (da_cons (de_var (pv 0)) (da_cons de_int da_nil))) (de_var (pv 2)) (by rfl)))) (fun _ _ _ _ _ => (de_var (pv 4))))
      (dss_one (ds_ret (de_callTy cd_tuple rfl fr.tuple (by first | exact boot_tuple | exact PyProof.Rows.boot_tuple) (da_cons (de_callB (cd_sorted hu) rfl fr.sorted (by first | exact boot_sorted | exact PyProof.Rows.boot_sorted) (da_cons (de_lc (own := [("_law_port", 4)]) rfl nd (di_seq (de_var (pv 3))) (blkOk_by (N := N__law_moment) (own := [("_law_port", 4)]) (sc := defScope s__law_moment) (by decide +kernel)) (fun _ _ _ _ _ => (dg_name (i := 4) (pg_name (i := 4) nd rfl (by first | exact Or.inl rfl | exact Or.inr rfl)))) (fun _ _ _ _ _ => dts_nil) (fun _ _ _ _ _ => (de_tup (da_cons (de_var (pv 4)) (da_cons (de_op od_mul (de_callH h_law_draw (hr.mono (by decide)) rfl (da_cons (de_var (pv 0)) (da_cons de_int da_nil))) (de_callH h_law_draw (hr.mono (by decide)) rfl (da_cons (de_var (pv 0)) (da_cons de_int da_nil)))) da_nil))))) da_nil)) da_nil)))))) read__law_moment
theorem sc__law_table : FnScope N__law_table ["_law_tape_here", "_law_seen", "_law_most", "_law_steps"] (defScope s__law_table) := ⟨rfl, rfl, rfl, by decide +kernel, rfl, by decide +kernel, by decide +kernel⟩
theorem ok__law_table (F : At K mg "_law_table" s__law_table) (fr : Fre mg) (h_law_draw : Has P w K mg base "_law_draw" 1 ["_law_tape_here", "_law_many"] sp_law_draw) (h_law_moment : Has P w K mg base "_law_moment" 2 ["_law_tape_here", "_law_seen", "_law_few"] sp_law_moment) : Has P w K mg base "_law_table" 3 ["_law_tape_here", "_law_seen", "_law_most", "_law_steps"] sp_law_table :=
  has_of (k := 2) F sc__law_table len__law_table t__law_table (fun f fd FF => FF.bindsN fun _ _ _ _ _ _ us hl => match us, hl with | [_, _, _, _], _ => rfl)
    (fun f cdv A outer s H E hr => by
    have hh := hr.hd
    have nd := sc__law_table.nd
    have hu := units_of hr
    exact (dss_cons (ds_set (ps_set (i := 4) nd rfl (by first | exact Or.inl rfl | exact Or.inr rfl) (de_op od_add de_int (de_callH h_law_draw (hr.mono (by decide)) rfl (da_cons (de_var (pv 0)) (da_cons (de_var (pv 2)) da_nil))))))
      (dss_cons (ds_set (ps_set (i := 5) nd rfl (by first | exact Or.inl rfl | exact Or.inr rfl) (de_lstN da_nil)))
      (dss_cons (ds_set (ps_set (i := 6) nd rfl (by first | exact Or.inl rfl | exact Or.inr rfl) (de_op od_add de_int (de_callH h_law_draw (hr.mono (by decide)) rfl (da_cons (de_var (pv 0)) (da_cons de_int da_nil))))))
      (dss_cons (ds_for [7] PassesOwn.never rfl (di_range1 rfl fr.range (da_cons (de_callH h_law_draw (hr.mono (by decide)) rfl (da_cons (de_var (pv 0)) (da_cons (de_op od_add (de_var (pv 3)) de_int) da_nil))) da_nil)) (dg_name (i := 7) (pg_name (i := 7) nd rfl (by first | exact Or.inl rfl | exact Or.inr rfl))) (dss_cons (ds_set (ps_set (i := 8) nd rfl (by first | exact Or.inl rfl | exact Or.inr rfl) (de_callH h_law_draw (hr.mono (by decide)) rfl (da_cons (de_var (pv 0)) (da_cons (de_var (pv 4)) da_nil)))))
      (dss_cons (ds_set (ps_set (i := 9) nd rfl (by first | exact Or.inl rfl | exact Or.inr rfl) (de_tup (da_cons (de_var (pv 8)) (da_cons (de_callH h_law_moment (hr.mono (by decide)) rfl (da_cons (de_var (pv 0)) (da_cons (de_var (pv 1)) (da_cons (de_var (pv 6)) da_nil)))) (da_cons (de_callH h_law_draw (hr.mono (by decide)) rfl (da_cons (de_var (pv 0)) (da_cons (de_var (pv 4)) da_nil))) da_nil))))))
      (dss_one (ds_if (dt_cmp (od_notIn hu) (de_var (pv 9)) (de_var (pv 5)) (by rfl)) (dss_one (ds_expr (de_bm PySem.F.plainAttrs_list PySem.F.slot_list_append PySem.F.type_list_append md_append (de_var (pv 5)) (da_cons (de_var (pv 9)) da_nil)))) dss_nil)))))
      (dss_cons (ds_if (dt_cmp (od_eq hu) (de_callH h_law_draw (hr.mono (by decide)) rfl (da_cons (de_var (pv 0)) (da_cons de_int da_nil))) de_int (by rfl)) (dss_one (ds_set (ps_set (i := 5) nd rfl (by first | exact Or.inl rfl | exact Or.inr rfl) (de_op od_add (de_var (pv 5)) (de_lc (own := [("_law_stand", 10)]) rfl nd (di_range1 rfl fr.range (da_cons (de_var (pv 4)) da_nil)) (blkOk_by (N := N__law_table) (own := [("_law_stand", 10)]) (sc := defScope s__law_table) (by decide +kernel)) (fun _ _ _ _ _ => (dg_name (i := 10) (pg_name (i := 10) nd rfl (by first | exact Or.inl rfl | exact Or.inr rfl)))) (fun _ _ _ _ _ => (dts_one (dt_cmp (od_notIn hu) (de_tup (da_cons (de_var (pv 10)) (da_cons (de_tup da_nil) (da_cons (de_var (pv 10)) da_nil)))) (de_var (pv 5)) (by rfl)))) (fun _ _ _ _ _ => (de_tup (da_cons (de_var (pv 10)) (da_cons (de_tup da_nil) (da_cons (de_var (pv 10)) da_nil)))))))))) dss_nil)
      (dss_one (ds_ret (de_tup (da_cons (de_callTy cd_tuple rfl fr.tuple (by first | exact boot_tuple | exact PyProof.Rows.boot_tuple) (da_cons (de_var (pv 1)) da_nil)) (da_cons (de_var (pv 4)) (da_cons (de_callTy cd_tuple rfl fr.tuple (by first | exact boot_tuple | exact PyProof.Rows.boot_tuple) (da_cons (de_callB (cd_sorted hu) rfl fr.sorted (by first | exact boot_sorted | exact PyProof.Rows.boot_sorted) (da_cons (de_var (pv 5)) da_nil)) da_nil)) da_nil)))))))))))) read__law_table
theorem sc__law_great : FnScope N__law_great ["_law_tape_here", "_law_table_here"] (defScope s__law_great) := ⟨rfl, rfl, rfl, by decide +kernel, rfl, by decide +kernel, by decide +kernel⟩
theorem ok__law_great (F : At K mg "_law_great" s__law_great) (fr : Fre mg) (h_law_draw : Has P w K mg base "_law_draw" 1 ["_law_tape_here", "_law_many"] sp_law_draw) : Has P w K mg base "_law_great" 2 ["_law_tape_here", "_law_table_here"] sp_law_great :=
  has_of (k := 1) F sc__law_great len__law_great t__law_great (fun f fd FF => FF.bindsN fun _ _ _ _ _ _ us hl => match us, hl with | [_, _], _ => rfl)
    (fun f cdv A outer s H E hr => by
    have hh := hr.hd
    have nd := sc__law_great.nd
    have hu := units_of hr
    exact (dss_cons (ds_asg [2, 3, 4] (de_var (pv 1)) (dg_tup rfl (dgs_cons (dg_name (i := 2) (pg_name (i := 2) nd rfl (by first | exact Or.inl rfl | exact Or.inr rfl))) (dgs_cons (dg_name (i := 3) (pg_name (i := 3) nd rfl (by first | exact Or.inl rfl | exact Or.inr rfl))) (dgs_cons (dg_name (i := 4) (pg_name (i := 4) nd rfl (by first | exact Or.inl rfl | exact Or.inr rfl))) dgs_nil)))))
      (dss_cons (ds_set (ps_set (i := 5) nd rfl (by first | exact Or.inl rfl | exact Or.inr rfl) (de_lstN (da_cons de_int da_nil))))
      (dss_cons (ds_for [6] PassesOwn.never rfl (di_range1 rfl fr.range (da_cons (de_var (pv 3)) da_nil)) (dg_name (i := 6) (pg_name (i := 6) nd rfl (by first | exact Or.inl rfl | exact Or.inr rfl))) (dss_one (ds_expr (de_bm PySem.F.plainAttrs_list PySem.F.slot_list_append PySem.F.type_list_append md_append (de_var (pv 5)) (da_cons (de_op od_add (de_op od_add (de_ix (de_var (pv 5)) de_neg) de_int) (de_callH h_law_draw (hr.mono (by decide)) rfl (da_cons (de_var (pv 0)) (da_cons (de_ix (de_lst (da_cons de_int (da_cons de_int (da_cons de_int da_nil)))) (de_callH h_law_draw (hr.mono (by decide)) rfl (da_cons (de_var (pv 0)) (da_cons de_int da_nil)))) da_nil)))) da_nil)))))
      (dss_cons (ds_setLc (i := 7) (own := [("_law_start", 8), ("_law_moment_here", 9), ("_law_to", 10)]) rfl nd rfl (by rfl) (sw_true rfl (by rfl) rfl (by decide +kernel)) (di_seq (de_var (pv 4))) (blkOk_by (N := N__law_great) (own := [("_law_start", 8), ("_law_moment_here", 9), ("_law_to", 10)]) (sc := defScope s__law_great) (by decide +kernel)) (fun _ _ _ _ _ => (dg_tup rfl (dgs_cons (dg_name (i := 8) (pg_name (i := 8) nd rfl (by first | exact Or.inl rfl | exact Or.inr rfl))) (dgs_cons (dg_name (i := 9) (pg_name (i := 9) nd rfl (by first | exact Or.inl rfl | exact Or.inr rfl))) (dgs_cons (dg_name (i := 10) (pg_name (i := 10) nd rfl (by first | exact Or.inl rfl | exact Or.inr rfl))) dgs_nil))))) (fun _ _ _ _ _ => dts_nil) (fun _ _ _ _ _ => (de_tup (da_cons (de_ix (de_var (pv 5)) (de_var (pv 8))) (da_cons (de_var (pv 9)) (da_cons (de_ix (de_var (pv 5)) (de_var (pv 10))) da_nil))))))
      (dss_one (ds_ret (de_tup (da_cons (de_var (pv 2)) (da_cons (de_ix (de_lst (da_cons (de_ix (de_var (pv 5)) de_neg) (da_cons de_int da_nil))) (de_callH h_law_draw (hr.mono (by decide)) rfl (da_cons (de_var (pv 0)) (da_cons de_int da_nil)))) (da_cons (de_callTy cd_tuple rfl fr.tuple (by first | exact boot_tuple | exact PyProof.Rows.boot_tuple) (da_cons (de_callB (cd_sorted hu) rfl fr.sorted (by first | exact boot_sorted | exact PyProof.Rows.boot_sorted) (da_cons (de_var (pv 7)) da_nil)) da_nil)) da_nil))))))))))) read__law_great
theorem sc__law_lines : FnScope N__law_lines ["_law_table_here"] (defScope s__law_lines) := ⟨rfl, rfl, rfl, by decide +kernel, rfl, by decide +kernel, by decide +kernel⟩
theorem ok__law_lines (F : At K mg "_law_lines" s__law_lines) (fr : Fre mg) : Has P w K mg base "_law_lines" 1 ["_law_table_here"] sp_law_lines :=
  has_of (k := 0) F sc__law_lines len__law_lines t__law_lines (fun f fd FF => FF.bindsN fun _ _ _ _ _ _ us hl => match us, hl with | [_], _ => rfl)
    (fun f cdv A outer s H E hr => by
    have hh := hr.hd
    have nd := sc__law_lines.nd
    have hu := units_of hr
    exact (dss_cons (ds_set (ps_set (i := 1) nd rfl (by first | exact Or.inl rfl | exact Or.inr rfl) (de_lstN (da_cons (de_op od_add (de_op od_add de_str (de_callTy cd_str rfl fr.str (by first | exact boot_str | exact PyProof.Rows.boot_str) (da_cons (de_ix (de_var (pv 0)) de_int) da_nil))) (de_bm PySem.F.plainAttrs_str PySem.F.slot_str_join PySem.F.type_str_join md_join de_str (da_cons (de_lc (own := [("_law_port", 2)]) rfl nd (di_seq (de_ix (de_var (pv 0)) de_int)) (blkOk_by (N := N__law_lines) (own := [("_law_port", 2)]) (sc := defScope s__law_lines) (by decide +kernel)) (fun _ _ _ _ _ => (dg_name (i := 2) (pg_name (i := 2) nd rfl (by first | exact Or.inl rfl | exact Or.inr rfl)))) (fun _ _ _ _ _ => dts_nil) (fun _ _ _ _ _ => (de_op od_add de_str (de_var (pv 2))))) da_nil))) da_nil))))
      (dss_cons (ds_for [3, 4, 5] PassesOwn.never rfl (di_seq (de_ix (de_var (pv 0)) de_int)) (dg_tup rfl (dgs_cons (dg_name (i := 3) (pg_name (i := 3) nd rfl (by first | exact Or.inl rfl | exact Or.inr rfl))) (dgs_cons (dg_name (i := 4) (pg_name (i := 4) nd rfl (by first | exact Or.inl rfl | exact Or.inr rfl))) (dgs_cons (dg_name (i := 5) (pg_name (i := 5) nd rfl (by first | exact Or.inl rfl | exact Or.inr rfl))) dgs_nil)))) (dss_cons (ds_expr (de_bm PySem.F.plainAttrs_list PySem.F.slot_list_append PySem.F.type_list_append md_append (de_var (pv 1)) (da_cons (de_op od_add (de_op od_add (de_op od_add de_str (de_callTy cd_str rfl fr.str (by first | exact boot_str | exact PyProof.Rows.boot_str) (da_cons (de_var (pv 3)) da_nil))) de_str) (de_callTy cd_str rfl fr.str (by first | exact boot_str | exact PyProof.Rows.boot_str) (da_cons (de_var (pv 5)) da_nil))) da_nil)))
      (dss_one (ds_for [2, 6] PassesOwn.never rfl (di_seq (de_var (pv 4))) (dg_tup rfl (dgs_cons (dg_name (i := 2) (pg_name (i := 2) nd rfl (by first | exact Or.inl rfl | exact Or.inr rfl))) (dgs_cons (dg_name (i := 6) (pg_name (i := 6) nd rfl (by first | exact Or.inl rfl | exact Or.inr rfl))) dgs_nil))) (dss_one (ds_asg [] (de_op od_add (de_op od_add (de_op od_add (de_op od_add (de_ix (de_var (pv 1)) de_neg) de_str) (de_var (pv 2))) de_str) (de_callTy cd_str rfl fr.str (by first | exact boot_str | exact PyProof.Rows.boot_str) (da_cons (de_var (pv 6)) da_nil))) (dg_sub (de_var (pv 1)) de_neg)))))))
      (dss_one (ds_ret (de_var (pv 1))))))) read__law_lines
theorem sc_law : FnScope N_law ["_law_script"] (defScope s_law) := ⟨rfl, rfl, rfl, by decide +kernel, rfl, by decide +kernel, by decide +kernel⟩
theorem ok_law {f : Addr} {fd : FuncData} (F : FunD K "law" "law" (defArgs s_law) (defBody s_law) (defScope s_law) [] [] f fd) (fr : Fre mg) (h_law_tape : Has P w K mg base "_law_tape" 1 ["_law_script"] sp_law_tape) (h_law_names : Has P w K mg base "_law_names" 2 ["_law_tape_here", "_law_many"] sp_law_names) (h_law_draw : Has P w K mg base "_law_draw" 1 ["_law_tape_here", "_law_many"] sp_law_draw) (h_law_table : Has P w K mg base "_law_table" 3 ["_law_tape_here", "_law_seen", "_law_most", "_law_steps"] sp_law_table) (h_law_great : Has P w K mg base "_law_great" 2 ["_law_tape_here", "_law_table_here"] sp_law_great) (h_law_lines : Has P w K mg base "_law_lines" 1 ["_law_table_here"] sp_law_lines) (his_table : Has P w K mg base "is_table" 4 ["thing"] spis_table) (htable_lines : Has P w K mg base "table_lines" 2 ["table"] sptable_lines) (hread_table : Has P w K mg base "read_table" 4 ["lines"] spread_table) : RunG P w K mg base f fd "_law_script" splaw :=
  run_of (k := 4) F sc_law ⟨rfl, by decide, by decide⟩ len_law t_law
    (fun cdv s H hr => by
    have hh := hr.hd
    have nd := sc_law.nd
    have hu := units_of hr
    have hg : (callerA.deeper (envOfC "law" (defScope s_law) s.heap.objs.size f cdv)).guards = some [] := rfl
    exact (dss_cons (ds_set (ps_set (i := 1) nd rfl (by first | exact Or.inl rfl | exact Or.inr rfl) (de_callH h_law_tape (hr.mono (by decide)) rfl (da_cons (de_var (pv 0)) da_nil))))
      (dss_cons (ds_set (ps_set (i := 2) nd rfl (by first | exact Or.inl rfl | exact Or.inr rfl) (de_lstN da_nil)))
      (dss_cons (ds_for [3] PassesOwn.never rfl (di_range1 rfl fr.range (da_cons de_int da_nil)) (dg_name (i := 3) (pg_name (i := 3) nd rfl (by first | exact Or.inl rfl | exact Or.inr rfl))) (dss_cons (ds_set (ps_set (i := 4) nd rfl (by first | exact Or.inl rfl | exact Or.inr rfl) (de_callH h_law_table (hr.mono (by decide)) rfl (da_cons (de_var (pv 1)) (da_cons (de_slice (de_callH h_law_names (hr.mono (by decide)) rfl (da_cons (de_var (pv 1)) (da_cons de_int da_nil))) do_none (do_some (de_callH h_law_draw (hr.mono (by decide)) rfl (da_cons (de_var (pv 1)) (da_cons de_int da_nil))))) (da_cons de_int (da_cons de_int da_nil)))))))
      (dss_cons (ds_if (dt_cmp (od_eq hu) (de_callH h_law_draw (hr.mono (by decide)) rfl (da_cons (de_var (pv 1)) (da_cons de_int da_nil))) de_int (by rfl)) (dss_one (ds_set (ps_set (i := 4) nd rfl (by first | exact Or.inl rfl | exact Or.inr rfl) (de_callH h_law_great (hr.mono (by decide)) rfl (da_cons (de_var (pv 1)) (da_cons (de_var (pv 4)) da_nil)))))) dss_nil)
      (dss_cons (ds_set (ps_set (i := 5) nd rfl (by first | exact Or.inl rfl | exact Or.inr rfl) (de_callH h_law_lines (hr.mono (by decide)) rfl (da_cons (de_var (pv 4)) da_nil))))
      (dss_cons (ds_if (dt_cmp od_isNotB (de_callH his_table (hr.mono (by decide)) rfl (da_cons (de_var (pv 4)) da_nil)) de_bl (by rfl)) (dss_one (ds_ret de_bl)) dss_nil)
      (dss_cons (ds_for [6] PassesOwn.never rfl (di_range1 rfl fr.range (da_cons de_int da_nil)) (dg_name (i := 6) (pg_name (i := 6) nd rfl (by first | exact Or.inl rfl | exact Or.inr rfl))) (dss_cons (ds_set (ps_set (i := 7) nd rfl (by first | exact Or.inl rfl | exact Or.inr rfl) (de_callH htable_lines (hr.mono (by decide)) rfl (da_cons (de_var (pv 4)) da_nil))))
      (dss_cons (ds_if (dt_cmp (od_ne hu) (de_repr hg hu rfl fr.repr (de_var (pv 7))) (de_repr hg hu rfl fr.repr (de_var (pv 5))) (by rfl)) (dss_one (ds_ret de_bl)) dss_nil)
      (dss_cons (ds_expr (de_bm PySem.F.plainAttrs_list PySem.F.slot_list_append PySem.F.type_list_append md_append (de_var (pv 7)) (da_cons de_str da_nil)))
      (dss_one (ds_expr (de_bm0 PySem.F.plainAttrs_list PySem.F.slot_list_reverse PySem.F.type_list_reverse md_reverse (de_var (pv 7)))))))))
      (dss_cons (ds_set (ps_set (i := 8) nd rfl (by first | exact Or.inl rfl | exact Or.inr rfl) (de_callTy cd_listN rfl fr.list (by first | exact boot_list | exact PyProof.Rows.boot_list) (da_cons (de_var (pv 5)) da_nil))))
      (dss_cons (ds_set (ps_set (i := 7) nd rfl (by first | exact Or.inl rfl | exact Or.inr rfl) (de_callH hread_table (hr.mono (by decide)) rfl (da_cons (de_var (pv 8)) da_nil))))
      (dss_cons (ds_if (dt_w (dw_or (dt_cmp (od_ne hu) (de_repr hg hu rfl fr.repr (de_var (pv 7))) (de_repr hg hu rfl fr.repr (de_var (pv 4))) (by rfl)) (dw_or1 (dt_cmp (od_ne hu) (de_var (pv 8)) (de_var (pv 5)) (by rfl))))) (dss_one (ds_ret de_bl)) dss_nil)
      (dss_cons (ds_expr (de_bm0 PySem.F.plainAttrs_list PySem.F.slot_list_clear PySem.F.type_list_clear md_clear (de_var (pv 8))))
      (dss_cons (ds_if (dt_w (dw_or (dt_cmp (od_ne hu) (de_repr hg hu rfl fr.repr (de_var (pv 7))) (de_repr hg hu rfl fr.repr (de_var (pv 4))) (by rfl)) (dw_or1 (dt_cmp (od_ne hu) (de_repr hg hu rfl fr.repr (de_callH hread_table (hr.mono (by decide)) rfl (da_cons (de_var (pv 5)) da_nil))) (de_repr hg hu rfl fr.repr (de_var (pv 4))) (by rfl))))) (dss_one (ds_ret de_bl)) dss_nil)
      (dss_cons (ds_for [9] PassesOwn.never rfl (di_seq (de_var (pv 2))) (dg_name (i := 9) (pg_name (i := 9) nd rfl (by first | exact Or.inl rfl | exact Or.inr rfl))) (dss_one (ds_if (dt_cmp (od_ne hu) (de_cmp (od_eq hu) (de_callH htable_lines (hr.mono (by decide)) rfl (da_cons (de_var (pv 9)) da_nil)) (de_var (pv 5)) (by rfl)) (de_cmp (od_eq hu) (de_var (pv 9)) (de_var (pv 4)) (by rfl)) (by rfl)) (dss_one (ds_ret de_bl)) dss_nil)))
      (dss_one (ds_expr (de_bm PySem.F.plainAttrs_list PySem.F.slot_list_append PySem.F.type_list_append md_append (de_var (pv 2)) (da_cons (de_var (pv 4)) da_nil))))))))))))))))
      (dss_one (ds_ret de_bl)))))) read_law
end
end DL
/-! ### the head: facts by names, the run -/
namespace DL
open PySem PySem.Spec PyProof.Rows L2
def d_is_port : He.DefD := ⟨("is_port", none), "is_port", "is_port", defArgs s_is_port, defBody s_is_port, defScope s_is_port, [], []⟩
def d_is_whole : He.DefD := ⟨("is_whole", none), "is_whole", "is_whole", defArgs s_is_whole, defBody s_is_whole, defScope s_is_whole, [], []⟩
def d_is_thing : He.DefD := ⟨("is_thing", none), "is_thing", "is_thing", defArgs s_is_thing, defBody s_is_thing, defScope s_is_thing, [], []⟩
def d_are_unlike_ports : He.DefD := ⟨("are_unlike_ports", none), "are_unlike_ports", "are_unlike_ports", defArgs s_are_unlike_ports, defBody s_are_unlike_ports, defScope s_are_unlike_ports, [], []⟩
def d_is_rising : He.DefD := ⟨("is_rising", none), "is_rising", "is_rising", defArgs s_is_rising, defBody s_is_rising, defScope s_is_rising, [], []⟩
def d_is_moment_of : He.DefD := ⟨("is_moment_of", none), "is_moment_of", "is_moment_of", defArgs s_is_moment_of, defBody s_is_moment_of, defScope s_is_moment_of, [], []⟩
def d_is_pair : He.DefD := ⟨("is_pair", none), "is_pair", "is_pair", defArgs s_is_pair, defBody s_is_pair, defScope s_is_pair, [], []⟩
def d_is_table_step : He.DefD := ⟨("is_table_step", none), "is_table_step", "is_table_step", defArgs s_is_table_step, defBody s_is_table_step, defScope s_is_table_step, [], []⟩
def d_is_table : He.DefD := ⟨("is_table", none), "is_table", "is_table", defArgs s_is_table, defBody s_is_table, defScope s_is_table, [], []⟩
def d_step_line : He.DefD := ⟨("step_line", none), "step_line", "step_line", defArgs s_step_line, defBody s_step_line, defScope s_step_line, [], []⟩
def d_table_lines : He.DefD := ⟨("table_lines", none), "table_lines", "table_lines", defArgs s_table_lines, defBody s_table_lines, defScope s_table_lines, [], []⟩
def d_number_in : He.DefD := ⟨("number_in", none), "number_in", "number_in", defArgs s_number_in, defBody s_number_in, defScope s_number_in, [], []⟩
def d_read_head : He.DefD := ⟨("read_head", none), "read_head", "read_head", defArgs s_read_head, defBody s_read_head, defScope s_read_head, [], []⟩
def d_read_moment : He.DefD := ⟨("read_moment", none), "read_moment", "read_moment", defArgs s_read_moment, defBody s_read_moment, defScope s_read_moment, [], []⟩
def d_read_step : He.DefD := ⟨("read_step", none), "read_step", "read_step", defArgs s_read_step, defBody s_read_step, defScope s_read_step, [], []⟩
def d_read_table : He.DefD := ⟨("read_table", none), "read_table", "read_table", defArgs s_read_table, defBody s_read_table, defScope s_read_table, [], []⟩
def d__law_tape : He.DefD := ⟨("_law_tape", none), "_law_tape", "_law_tape", defArgs s__law_tape, defBody s__law_tape, defScope s__law_tape, [], []⟩
def d__law_draw : He.DefD := ⟨("_law_draw", none), "_law_draw", "_law_draw", defArgs s__law_draw, defBody s__law_draw, defScope s__law_draw, [], []⟩
def d__law_names : He.DefD := ⟨("_law_names", none), "_law_names", "_law_names", defArgs s__law_names, defBody s__law_names, defScope s__law_names, [], []⟩
def d__law_moment : He.DefD := ⟨("_law_moment", none), "_law_moment", "_law_moment", defArgs s__law_moment, defBody s__law_moment, defScope s__law_moment, [], []⟩
def d__law_table : He.DefD := ⟨("_law_table", none), "_law_table", "_law_table", defArgs s__law_table, defBody s__law_table, defScope s__law_table, [], []⟩
def d__law_great : He.DefD := ⟨("_law_great", none), "_law_great", "_law_great", defArgs s__law_great, defBody s__law_great, defScope s__law_great, [], []⟩
def d__law_lines : He.DefD := ⟨("_law_lines", none), "_law_lines", "_law_lines", defArgs s__law_lines, defBody s__law_lines, defScope s__law_lines, [], []⟩
def d_law : He.DefD := ⟨("law", none), "law", "law", defArgs s_law, defBody s_law, defScope s_law, [], []⟩
def fn : List He.DefD := [d_is_port, d_is_whole, d_is_thing, d_are_unlike_ports, d_is_rising, d_is_moment_of, d_is_pair, d_is_table_step, d_is_table, d_step_line, d_table_lines, d_number_in, d_read_head, d_read_moment, d_read_step, d_read_table, d__law_tape, d__law_draw, d__law_names, d__law_moment, d__law_table, d__law_great, d__law_lines, d_law]
def fa : List He.Fa := [.glo "is_port", .glo "is_whole", .glo "is_thing", .glo "are_unlike_ports", .glo "is_rising", .glo "is_moment_of", .glo "is_pair", .glo "is_table_step", .glo "is_table", .glo "step_line", .glo "table_lines", .glo "number_in", .glo "read_head", .glo "read_moment", .glo "read_step", .glo "read_table", .glo "_law_tape", .glo "_law_draw", .glo "_law_names", .glo "_law_moment", .glo "_law_table", .glo "_law_great", .glo "_law_lines", .glo "law", .free "len", .free "set", .free "list", .free "tuple", .free "str", .free "int", .free "bool", .free "sorted", .free "all", .free "any", .free "range", .free "zip", .free "repr", .free "isinstance", .str "LETTERS" "abcdefghijklmnopqrstuvwxyz", .int "MOST_LETTERS" 8, .int "MOST_THINGS" 3, .int "MOST_SEEN" 6, .int "MOST_STANDS" 2000, .str "FIGURES" "0123456789", .int "MOST_FIGURES" 4]
abbrev Rw : PySem.W.OpenRow := PySem.W.OpenLaw.row PySem.Challenge.rw_mannerports_k43_tables_written_and_read
abbrev hk : PySem.W.Hook := He.hookD 4 fa fn
def ob (s : PySem.W.SharedT) : He.AlD := He.obsDG 4 fa fn (HandSHeadRun.getT s)
theorem ob_eq (s : PySem.W.SharedT) : ob s = hk.obs s.abs := He.obsDG_eq (HandSHeadRun.getT_eq s)
abbrev loose : List Str := ["MannerError", "NoText", "LETTERS", "MOST_LETTERS", "is_port", "is_whole", "is_thing", "are_unlike_ports", "is_rising", "MOST_THINGS", "MOST_SEEN", "is_moment_of", "is_pair", "MOST_STANDS", "is_table_step", "is_table", "FIGURES", "MOST_FIGURES", "step_line", "table_lines", "number_in", "read_head", "read_moment", "read_step", "read_table", "_law_tape", "_law_draw", "_law_names", "_law_moment", "_law_table", "_law_great", "_law_lines"]
theorem run (w : World) : HandSHeadRun.RunEq Rw (PySem.W.view Rw.prog [38]) hk ob 6000 loose w := by
  intro os
  kernel_rfl
theorem facts {P : Program} {w : World} {K : PySem.W.Frag} {h : Heap} {mg : Str → Option Value} {f : Addr} (X : K.In h) (G : h.Ns mainGlobals mg) (hfa : mg ("law" : Str) = some (.ref f)) (c : He.SaysD fa fn K) :
    ∃ fd : FuncData, (∀ (s : Shared) (v : Value), BindsTo s fd ⟨[v], []⟩ [("_law_script", v)]) ∧ ∀ base : Heap, K.In base → base.Ns mainGlobals mg → RunG P w K mg base f fd "_law_script" splaw := by
  have fr : Fre mg := ⟨He.free_ok X G (c.fact 24 (f := .free "len") rfl), He.free_ok X G (c.fact 25 (f := .free "set") rfl), He.free_ok X G (c.fact 26 (f := .free "list") rfl), He.free_ok X G (c.fact 27 (f := .free "tuple") rfl), He.free_ok X G (c.fact 28 (f := .free "str") rfl), He.free_ok X G (c.fact 29 (f := .free "int") rfl), He.free_ok X G (c.fact 30 (f := .free "bool") rfl), He.free_ok X G (c.fact 31 (f := .free "sorted") rfl), He.free_ok X G (c.fact 32 (f := .free "all") rfl), He.free_ok X G (c.fact 33 (f := .free "any") rfl), He.free_ok X G (c.fact 34 (f := .free "range") rfl), He.free_ok X G (c.fact 35 (f := .free "zip") rfl), He.free_ok X G (c.fact 36 (f := .free "repr") rfl), He.free_ok X G (c.fact 37 (f := .free "isinstance") rfl)⟩
  obtain ⟨k_LETTERS, c_LETTERS⟩ := He.str_ok X G (c.fact 38 (f := .str "LETTERS" "abcdefghijklmnopqrstuvwxyz") rfl)
  obtain ⟨k_MOST_LETTERS, c_MOST_LETTERS⟩ := He.int_ok X G (c.fact 39 (f := .int "MOST_LETTERS" 8) rfl)
  obtain ⟨k_MOST_THINGS, c_MOST_THINGS⟩ := He.int_ok X G (c.fact 40 (f := .int "MOST_THINGS" 3) rfl)
  obtain ⟨k_MOST_SEEN, c_MOST_SEEN⟩ := He.int_ok X G (c.fact 41 (f := .int "MOST_SEEN" 6) rfl)
  obtain ⟨k_MOST_STANDS, c_MOST_STANDS⟩ := He.int_ok X G (c.fact 42 (f := .int "MOST_STANDS" 2000) rfl)
  obtain ⟨k_FIGURES, c_FIGURES⟩ := He.str_ok X G (c.fact 43 (f := .str "FIGURES" "0123456789") rfl)
  obtain ⟨k_MOST_FIGURES, c_MOST_FIGURES⟩ := He.int_ok X G (c.fact 44 (f := .int "MOST_FIGURES" 4) rfl)
  have at_is_port : At K mg "is_port" s_is_port := let ⟨fd, F⟩ := c.def_ 0 (d := d_is_port) rfl; ⟨_, fd, He.glo_ok X G (c.fact 0 (f := .glo "is_port") rfl), F⟩
  have at_is_whole : At K mg "is_whole" s_is_whole := let ⟨fd, F⟩ := c.def_ 1 (d := d_is_whole) rfl; ⟨_, fd, He.glo_ok X G (c.fact 1 (f := .glo "is_whole") rfl), F⟩
  have at_is_thing : At K mg "is_thing" s_is_thing := let ⟨fd, F⟩ := c.def_ 2 (d := d_is_thing) rfl; ⟨_, fd, He.glo_ok X G (c.fact 2 (f := .glo "is_thing") rfl), F⟩
  have at_are_unlike_ports : At K mg "are_unlike_ports" s_are_unlike_ports := let ⟨fd, F⟩ := c.def_ 3 (d := d_are_unlike_ports) rfl; ⟨_, fd, He.glo_ok X G (c.fact 3 (f := .glo "are_unlike_ports") rfl), F⟩
  have at_is_rising : At K mg "is_rising" s_is_rising := let ⟨fd, F⟩ := c.def_ 4 (d := d_is_rising) rfl; ⟨_, fd, He.glo_ok X G (c.fact 4 (f := .glo "is_rising") rfl), F⟩
  have at_is_moment_of : At K mg "is_moment_of" s_is_moment_of := let ⟨fd, F⟩ := c.def_ 5 (d := d_is_moment_of) rfl; ⟨_, fd, He.glo_ok X G (c.fact 5 (f := .glo "is_moment_of") rfl), F⟩
  have at_is_pair : At K mg "is_pair" s_is_pair := let ⟨fd, F⟩ := c.def_ 6 (d := d_is_pair) rfl; ⟨_, fd, He.glo_ok X G (c.fact 6 (f := .glo "is_pair") rfl), F⟩
  have at_is_table_step : At K mg "is_table_step" s_is_table_step := let ⟨fd, F⟩ := c.def_ 7 (d := d_is_table_step) rfl; ⟨_, fd, He.glo_ok X G (c.fact 7 (f := .glo "is_table_step") rfl), F⟩
  have at_is_table : At K mg "is_table" s_is_table := let ⟨fd, F⟩ := c.def_ 8 (d := d_is_table) rfl; ⟨_, fd, He.glo_ok X G (c.fact 8 (f := .glo "is_table") rfl), F⟩
  have at_step_line : At K mg "step_line" s_step_line := let ⟨fd, F⟩ := c.def_ 9 (d := d_step_line) rfl; ⟨_, fd, He.glo_ok X G (c.fact 9 (f := .glo "step_line") rfl), F⟩
  have at_table_lines : At K mg "table_lines" s_table_lines := let ⟨fd, F⟩ := c.def_ 10 (d := d_table_lines) rfl; ⟨_, fd, He.glo_ok X G (c.fact 10 (f := .glo "table_lines") rfl), F⟩
  have at_number_in : At K mg "number_in" s_number_in := let ⟨fd, F⟩ := c.def_ 11 (d := d_number_in) rfl; ⟨_, fd, He.glo_ok X G (c.fact 11 (f := .glo "number_in") rfl), F⟩
  have at_read_head : At K mg "read_head" s_read_head := let ⟨fd, F⟩ := c.def_ 12 (d := d_read_head) rfl; ⟨_, fd, He.glo_ok X G (c.fact 12 (f := .glo "read_head") rfl), F⟩
  have at_read_moment : At K mg "read_moment" s_read_moment := let ⟨fd, F⟩ := c.def_ 13 (d := d_read_moment) rfl; ⟨_, fd, He.glo_ok X G (c.fact 13 (f := .glo "read_moment") rfl), F⟩
  have at_read_step : At K mg "read_step" s_read_step := let ⟨fd, F⟩ := c.def_ 14 (d := d_read_step) rfl; ⟨_, fd, He.glo_ok X G (c.fact 14 (f := .glo "read_step") rfl), F⟩
  have at_read_table : At K mg "read_table" s_read_table := let ⟨fd, F⟩ := c.def_ 15 (d := d_read_table) rfl; ⟨_, fd, He.glo_ok X G (c.fact 15 (f := .glo "read_table") rfl), F⟩
  have at__law_tape : At K mg "_law_tape" s__law_tape := let ⟨fd, F⟩ := c.def_ 16 (d := d__law_tape) rfl; ⟨_, fd, He.glo_ok X G (c.fact 16 (f := .glo "_law_tape") rfl), F⟩
  have at__law_draw : At K mg "_law_draw" s__law_draw := let ⟨fd, F⟩ := c.def_ 17 (d := d__law_draw) rfl; ⟨_, fd, He.glo_ok X G (c.fact 17 (f := .glo "_law_draw") rfl), F⟩
  have at__law_names : At K mg "_law_names" s__law_names := let ⟨fd, F⟩ := c.def_ 18 (d := d__law_names) rfl; ⟨_, fd, He.glo_ok X G (c.fact 18 (f := .glo "_law_names") rfl), F⟩
  have at__law_moment : At K mg "_law_moment" s__law_moment := let ⟨fd, F⟩ := c.def_ 19 (d := d__law_moment) rfl; ⟨_, fd, He.glo_ok X G (c.fact 19 (f := .glo "_law_moment") rfl), F⟩
  have at__law_table : At K mg "_law_table" s__law_table := let ⟨fd, F⟩ := c.def_ 20 (d := d__law_table) rfl; ⟨_, fd, He.glo_ok X G (c.fact 20 (f := .glo "_law_table") rfl), F⟩
  have at__law_great : At K mg "_law_great" s__law_great := let ⟨fd, F⟩ := c.def_ 21 (d := d__law_great) rfl; ⟨_, fd, He.glo_ok X G (c.fact 21 (f := .glo "_law_great") rfl), F⟩
  have at__law_lines : At K mg "_law_lines" s__law_lines := let ⟨fd, F⟩ := c.def_ 22 (d := d__law_lines) rfl; ⟨_, fd, He.glo_ok X G (c.fact 22 (f := .glo "_law_lines") rfl), F⟩
  obtain ⟨fd, F⟩ := c.def_ 23 (d := d_law) rfl
  have e := hfa.symm.trans (He.glo_ok X G (c.fact 23 (f := .glo "law") rfl))
  cases e
  have b := FunD.bindsA (ps := ["_law_script"]) F fun _ _ _ _ _ _ us hl => match us, hl with | [_], _ => rfl
  refine ⟨fd, fun s v => b s [v] rfl, fun base _ _ => ?_⟩
  have his_port := ok_is_port (P := P) (w := w) (base := base) at_is_port fr c_LETTERS c_MOST_LETTERS
  have his_whole := ok_is_whole (P := P) (w := w) (base := base) at_is_whole fr 
  have his_thing := ok_is_thing (P := P) (w := w) (base := base) at_is_thing fr his_whole
  have hare_unlike_ports := ok_are_unlike_ports (P := P) (w := w) (base := base) at_are_unlike_ports fr his_port
  have his_rising := ok_is_rising (P := P) (w := w) (base := base) at_is_rising fr 
  have his_pair := ok_is_pair (P := P) (w := w) (base := base) at_is_pair fr 
  have his_moment_of := ok_is_moment_of (P := P) (w := w) (base := base) at_is_moment_of fr his_pair his_rising
  have his_table_step := ok_is_table_step (P := P) (w := w) (base := base) at_is_table_step fr his_thing his_moment_of c_MOST_THINGS
  have his_table := ok_is_table (P := P) (w := w) (base := base) at_is_table fr hare_unlike_ports his_whole his_table_step his_rising c_MOST_SEEN c_MOST_STANDS
  have hstep_line := ok_step_line (P := P) (w := w) (base := base) at_step_line fr 
  have htable_lines := ok_table_lines (P := P) (w := w) (base := base) at_table_lines fr hstep_line
  have hnumber_in := ok_number_in (P := P) (w := w) (base := base) at_number_in fr c_FIGURES c_MOST_FIGURES
  have hread_head := ok_read_head (P := P) (w := w) (base := base) at_read_head fr hnumber_in hare_unlike_ports c_MOST_SEEN c_MOST_STANDS
  have hread_moment := ok_read_moment (P := P) (w := w) (base := base) at_read_moment fr hnumber_in his_rising c_MOST_THINGS
  have hread_step := ok_read_step (P := P) (w := w) (base := base) at_read_step fr hnumber_in hread_moment
  have hread_table := ok_read_table (P := P) (w := w) (base := base) at_read_table fr hread_head hread_step
  have h_law_tape := ok__law_tape (P := P) (w := w) (base := base) at__law_tape fr 
  have h_law_draw := ok__law_draw (P := P) (w := w) (base := base) at__law_draw fr 
  have h_law_names := ok__law_names (P := P) (w := w) (base := base) at__law_names fr h_law_draw
  have h_law_moment := ok__law_moment (P := P) (w := w) (base := base) at__law_moment fr h_law_draw
  have h_law_table := ok__law_table (P := P) (w := w) (base := base) at__law_table fr h_law_draw h_law_moment
  have h_law_great := ok__law_great (P := P) (w := w) (base := base) at__law_great fr h_law_draw
  have h_law_lines := ok__law_lines (P := P) (w := w) (base := base) at__law_lines fr 
  exact ok_law F fr h_law_tape h_law_names h_law_draw h_law_table h_law_great h_law_lines his_table htable_lines hread_table
theorem fz_ints {K : PySem.W.Frag} {H : Hp} {F : Addr → Prop} : ∀ ns : List Int, FzAll K H F (ns.map V.int) (sIn ns)
  | [] => .nil
  | n :: ns => .cons (.int n) (fz_ints ns)
theorem law_start {K : PySem.W.Frag} {H : Hp} {a : Addr} {ns : List Int} (hl : ns.length ≤ 63) (hO : Only H) (hS : SqL K H a (ns.map V.int)) : upC K splaw [.ref a] H (fun v _ => v = .bl true) := by
  refine ⟨fun _ => False, fun _ => none, [.dat (.list (sIn ns))], fun dv _ => dv = .dat (.bool true), ⟨fun _ _ e => (by cases e), fun _ z => z.elim⟩, .cons ?_ .nil, ⟨ns, rfl, hl, fun _ => rfl⟩, ?_⟩
  · exact Fz.lst (hS.imp (fun r => ⟨r, rfl, id⟩) id) (fz_ints ns)
  · rintro v H' ⟨dv, M', f, s, r, rfl⟩
    cases r; rfl
end DL
open PySem PySem.W PySem.Calls PyProof.Rows
theorem PySem.Challenge.cw_mannerports_k43_tables_written_and_read_holds : PySem.Challenge.rw_mannerports_k43_tables_written_and_read.Holds := by
  w_on; o_law
  refine HandSHeadRun.head_any (r := OpenLaw.row PySem.Challenge.rw_mannerports_k43_tables_written_and_read) (q := view (OpenLaw.row PySem.Challenge.rw_mannerports_k43_tables_written_and_read).prog [38]) (H := DL.hk) (ob := DL.ob) (M := 6000) (loose := DL.loose) (d := HandSHeadRun.topDef (OpenLaw.row PySem.Challenge.rw_mannerports_k43_tables_written_and_read).prog 38) (kwd := []) DL.ob_eq
    (by kernel_rfl) (fun s => by kernel_rfl) DL.run (by kernel_rfl) (by kernel_rfl) (by kernel_rfl) (by rfl) (by first | assumption | decide +kernel) (by decide +kernel) ⟨rfl, rfl, rfl, rfl, rfl, by decide +kernel⟩ ?hw ?hc
  case hw => w_witness2
  case hc =>
    refine DL.walkG (l := PySem.Challenge.rw_mannerports_k43_tables_written_and_read) (n := 63) (x := "_law_script") (sp := DL.splaw) rfl (by decide) (by kernel_rfl) ?F ?sp
    case F =>
      intro w mg fa h Y G hmg0
      obtain ⟨K, KX, c⟩ := Y
      have hmg : mg ("law" : PySem.Str) = some (.ref fa) := by
        have e : (HandSHeadRun.topDef (OpenLaw.row PySem.Challenge.rw_mannerports_k43_tables_written_and_read).prog 38).name = ("law" : PySem.Str) := by kernel_rfl
        rw [← e]
        exact hmg0
      obtain ⟨fd, hb, hF⟩ := DL.facts (P := (PySem.Challenge.rw_mannerports_k43_tables_written_and_read).prog) (w := w) KX G hmg c
      exact ⟨K, fd, KX, hb, hF⟩
    case sp =>
      intro K H a ns hl hO hS
      exact DL.law_start hl hO hS
