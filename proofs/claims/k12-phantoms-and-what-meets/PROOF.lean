import PyProof.Rows.All
import Wide.All
import OpenK.AllK
import Wide.FinOn
import HandS.ForMost
import HandS.Wide
import HandS.TupAny
import PyProof.ReprRoads
import HandS.IsInst
import HandS.Style
import HandS.Iter
import HandS.Dict
import PyProof.StrOps2
import PyProof.CallFns
import HandS.Set
import HandS.SetKeys
import HandS.SetBool
import HandS.TupSets
import KE.SortData
import HandS.Ends
import PyProof.ReprLen
import PySem.Challenge.RW_strangerwords_k12_phantoms_and_what_meet
set_option Elab.async false
set_option linter.all false
set_option maxRecDepth 100000
/-! Bv1: values by value: what is owned, what is shared, over the abstract heap. -/
namespace Bv
open PySem PySem.Spec PyProof.Rows L2

/-- a thing of a slot: shared data; an owned list, an owned dict (keys ints and texts; keys flat tuples); the script -/
inductive O where
  | d (t : PyData)
  | l (xs : List O)
  | m (ks : List Key) (xs : List O)
  | mt (ks : List (List Key)) (xs : List O)
  | sc (ns : List Int)

def keyD : Key → PyData
  | .inl i => .int i
  | .inr x => .str x
def keyT (k : List Key) : PyData := .tuple (k.map keyD)

mutual
/-- what it is, as data -/
def O.data : O → PyData
  | .d t => t
  | .l xs => .list (O.datas xs)
  | .m ks xs => .dict ((ks.map keyD).zip (O.datas xs))
  | .mt ks xs => .dict ((ks.map keyT).zip (O.datas xs))
  | .sc ns => .list (ns.map .int)
def O.datas : List O → List PyData
  | [] => []
  | x :: xs => x.data :: O.datas xs
end
mutual
/-- no script in it -/
def O.pl : O → Bool
  | .d _ => true
  | .l xs => O.pls xs
  | .m _ xs => O.pls xs
  | .mt _ xs => O.pls xs
  | .sc _ => false
def O.pls : List O → Bool
  | [] => true
  | x :: xs => x.pl && O.pls xs
end
theorem O.datas_map (xs : List O) : O.datas xs = xs.map O.data := by
  induction xs with
  | nil => rfl
  | cons x r ih => show x.data :: O.datas r = _; rw [ih]; rfl
theorem O.datas_d (ts : List PyData) : O.datas (ts.map O.d) = ts := by
  induction ts with
  | nil => rfl
  | cons x r ih => show x :: O.datas (r.map O.d) = _; rw [ih]

mutual
/-- a value stands for data in the frozen part -/
inductive Rp (K : PySem.W.Frag) (Z : Hp) : V → PyData → Prop
  | non : Rp K Z .non .none
  | bl (b : Bool) : Rp K Z (.bl b) (.bool b)
  | int (i : Int) : Rp K Z (.int i) (.int i)
  | str (x : Str) : Rp K Z (.str x) (.str x)
  | lst {a : Addr} {vs : List V} {ts : List PyData} : Z a = some (.lst vs) → Rps K Z vs ts → Rp K Z (.ref a) (.list ts)
  | tup {a : Addr} {vs : List V} {ts : List PyData} : SqT K Z a vs → Rps K Z vs ts → Rp K Z (.ref a) (.tuple ts)
  | dK {a : Addr} {kvs : List (Key × V)} {ts : List PyData} : Z a = some (.dK kvs) → Rps K Z (kvs.map (·.2)) ts → Rp K Z (.ref a) (.dict ((kvs.map fun p => keyD p.1).zip ts))
  | dT {a : Addr} {kvs : List (List Key × V)} {ts : List PyData} : Z a = some (.dT kvs) → Rps K Z (kvs.map (·.2)) ts → Rp K Z (.ref a) (.dict ((kvs.map fun p => keyT p.1).zip ts))
inductive Rps (K : PySem.W.Frag) (Z : Hp) : List V → List PyData → Prop
  | nil : Rps K Z [] []
  | cons {v : V} {vs : List V} {t : PyData} {ts : List PyData} : Rp K Z v t → Rps K Z vs ts → Rps K Z (v :: vs) (t :: ts)
end
mutual
/-- .. for a thing: fp the owned addresses -/
inductive Ro (K : PySem.W.Frag) (Z H : Hp) : V → List Addr → O → Prop
  | d {v : V} {t : PyData} : Rp K Z v t → Ro K Z H v [] (.d t)
  | l {a : Addr} {vs : List V} {fp : List Addr} {os : List O} : H a = some (.lst vs) → Ros K Z H vs fp os → Ro K Z H (.ref a) (a :: fp) (.l os)
  | m {a : Addr} {kvs : List (Key × V)} {fp : List Addr} {os : List O} : H a = some (.dK kvs) → Ros K Z H (kvs.map (·.2)) fp os → Ro K Z H (.ref a) (a :: fp) (.m (kvs.map (·.1)) os)
  | mt {a : Addr} {kvs : List (List Key × V)} {fp : List Addr} {os : List O} : H a = some (.dT kvs) → Ros K Z H (kvs.map (·.2)) fp os → Ro K Z H (.ref a) (a :: fp) (.mt (kvs.map (·.1)) os)
  | sc {a : Addr} {ns : List Int} : SqL K Z a (ns.map V.int) → Ro K Z H (.ref a) [] (.sc ns)
inductive Ros (K : PySem.W.Frag) (Z H : Hp) : List V → List Addr → List O → Prop
  | nil : Ros K Z H [] [] []
  | cons {v : V} {vs : List V} {fp fps : List Addr} {o : O} {os : List O} : Ro K Z H v fp o → Ros K Z H vs fps os → Ros K Z H (v :: vs) (fp ++ fps) (o :: os)
end

section
variable {K : PySem.W.Frag} {Z Z' H H' : Hp}
theorem sqt_mono {a : Addr} {vs : List V} (h : SqT K Z a vs) (s : Same Z Z') : SqT K Z' a vs := by
  rcases h with (h | ⟨o, h⟩) | h
  · exact .inl (.inl (s _ _ h))
  · exact .inl (.inr ⟨o, s _ _ h⟩)
  · exact .inr h
mutual
theorem Rp.mono : ∀ {v : V} {t : PyData}, Rp K Z v t → Same Z Z' → Rp K Z' v t
  | _, _, .non, _ => .non
  | _, _, .bl b, _ => .bl b
  | _, _, .int i, _ => .int i
  | _, _, .str x, _ => .str x
  | _, _, .lst e r, s => .lst (s _ _ e) (Rps.mono r s)
  | _, _, .tup e r, s => .tup (sqt_mono e s) (Rps.mono r s)
  | _, _, .dK e r, s => .dK (s _ _ e) (Rps.mono r s)
  | _, _, .dT e r, s => .dT (s _ _ e) (Rps.mono r s)
theorem Rps.mono : ∀ {vs : List V} {ts : List PyData}, Rps K Z vs ts → Same Z Z' → Rps K Z' vs ts
  | _, _, .nil, _ => .nil
  | _, _, .cons h r, s => .cons (Rp.mono h s) (Rps.mono r s)
end
mutual
theorem Ro.frame : ∀ {v : V} {fp : List Addr} {o : O}, Ro K Z H v fp o → (∀ a ∈ fp, ∀ u, H a = some u → H' a = some u) → Same Z Z' → Ro K Z' H' v fp o
  | _, _, _, .d r, _, s => .d (r.mono s)
  | _, _, _, .l e r, h, s => .l (h _ List.mem_cons_self _ e) (Ros.frame r (fun a m => h a (List.mem_cons_of_mem _ m)) s)
  | _, _, _, .m e r, h, s => .m (h _ List.mem_cons_self _ e) (Ros.frame r (fun a m => h a (List.mem_cons_of_mem _ m)) s)
  | _, _, _, .mt e r, h, s => .mt (h _ List.mem_cons_self _ e) (Ros.frame r (fun a m => h a (List.mem_cons_of_mem _ m)) s)
  | _, _, _, .sc e, _, s => .sc (s.seq e)
theorem Ros.frame : ∀ {vs : List V} {fp : List Addr} {os : List O}, Ros K Z H vs fp os → (∀ a ∈ fp, ∀ u, H a = some u → H' a = some u) → Same Z Z' → Ros K Z' H' vs fp os
  | _, _, _, .nil, _, _ => .nil
  | _, _, _, .cons h r, k, s => .cons (Ro.frame h (fun a m => k a (List.mem_append_left _ m)) s) (Ros.frame r (fun a m => k a (List.mem_append_right _ m)) s)
end
theorem zip_keys {α β : Type} (kvs : List (α × β)) (f : α → PyData) : (kvs.map (·.1)).map f = kvs.map fun p => f p.1 := by
  rw [List.map_map]; rfl

/-- owned things frozen: what they are as data -/
theorem Ro.freeze {v : V} {fp : List Addr} {o : O} (h : Ro K Z H v fp o) (p : o.pl = true) (k : ∀ a ∈ fp, ∀ u, H a = some u → Z' a = some u) (s : Same Z Z') : Rp K Z' v o.data := by
  refine Ro.rec (motive_1 := fun v fp o _ => o.pl = true → (∀ a ∈ fp, ∀ u, H a = some u → Z' a = some u) → Rp K Z' v o.data)
    (motive_2 := fun vs fp os _ => O.pls os = true → (∀ a ∈ fp, ∀ u, H a = some u → Z' a = some u) → Rps K Z' vs (O.datas os)) ?_ ?_ ?_ ?_ ?_ ?_ ?_ h p k
  · intro v t r _ _
    exact r.mono s
  · intro a vs fp os e _ ih p k
    exact .lst (k _ List.mem_cons_self _ e) (ih p fun a m => k a (List.mem_cons_of_mem _ m))
  · intro a kvs fp os e _ ih p k
    show Rp K Z' _ (.dict (((kvs.map (·.1)).map keyD).zip _))
    rw [zip_keys]
    exact .dK (k _ List.mem_cons_self _ e) (ih p fun a m => k a (List.mem_cons_of_mem _ m))
  · intro a kvs fp os e _ ih p k
    show Rp K Z' _ (.dict (((kvs.map (·.1)).map keyT).zip _))
    rw [zip_keys]
    exact .dT (k _ List.mem_cons_self _ e) (ih p fun a m => k a (List.mem_cons_of_mem _ m))
  · intro a ns _ p
    exact absurd p (by simp [O.pl])
  · intro _ _
    exact .nil
  · intro v vs fp fps o os _ _ ih1 ih2 p k
    have p' : o.pl = true ∧ O.pls os = true := by simpa [O.pls] using p
    exact .cons (ih1 p'.1 fun a m => k a (List.mem_append_left _ m)) (ih2 p'.2 fun a m => k a (List.mem_append_right _ m))
/-- .. read where they stand -/
theorem Ro.read {v : V} {fp : List Addr} {o : O} (h : Ro K Z H v fp o) (p : o.pl = true) (s : Same Z H) : Rp K H v o.data := h.freeze p (fun _ _ _ e => e) s
theorem Rps.length : ∀ {vs : List V} {ts : List PyData}, Rps K Z vs ts → vs.length = ts.length
  | _, _, .nil => rfl
  | _, _, .cons _ r => congrArg (· + 1) (Rps.length r)
theorem Ros.length : ∀ {vs : List V} {fp : List Addr} {os : List O}, Ros K Z H vs fp os → vs.length = os.length
  | _, _, _, .nil => rfl
  | _, _, _, .cons _ r => congrArg (· + 1) (Ros.length r)

/-! ### roots: slots and temporaries -/
inductive Rt (K : PySem.W.Frag) (Z H : Hp) : List (Option V) → List Addr → List (Option O) → Prop
  | nil : Rt K Z H [] [] []
  | no {v : Option V} {vs : List (Option V)} {fp : List Addr} {os : List (Option O)} : Rt K Z H vs fp os → Rt K Z H (v :: vs) fp (none :: os)
  | so {v : V} {vs : List (Option V)} {fp fps : List Addr} {o : O} {os : List (Option O)} : Ro K Z H v fp o → Rt K Z H vs fps os → Rt K Z H (some v :: vs) (fp ++ fps) (some o :: os)
theorem Rt.length {vs : List (Option V)} {fp : List Addr} {os : List (Option O)} (r : Rt K Z H vs fp os) : vs.length = os.length := by
  induction r with
  | nil => rfl
  | no _ ih => simp [ih]
  | so _ _ ih => simp [ih]
theorem Rt.frame {vs : List (Option V)} {fp : List Addr} {os : List (Option O)} (r : Rt K Z H vs fp os) (h : ∀ a ∈ fp, ∀ u, H a = some u → H' a = some u) (s : Same Z Z') : Rt K Z' H' vs fp os := by
  induction r with
  | nil => exact .nil
  | no _ ih => exact .no (ih h)
  | so o _ ih => exact .so (o.frame (fun a m => h a (List.mem_append_left _ m)) s) (ih fun a m => h a (List.mem_append_right _ m))
theorem Rt.append {vs vs' : List (Option V)} {fp fp' : List Addr} {os os' : List (Option O)} (r : Rt K Z H vs fp os) (r' : Rt K Z H vs' fp' os') : Rt K Z H (vs ++ vs') (fp ++ fp') (os ++ os') := by
  induction r with
  | nil => exact r'
  | no _ ih => exact .no ih
  | so o _ ih => rw [List.append_assoc]; exact .so o ih
theorem Rt.split {σ : List (Option V)} {fr : List (Option O)} : ∀ {τ : List (Option V)} {θ : List (Option O)} {fp : List Addr}, τ.length = θ.length → Rt K Z H (τ ++ σ) fp (θ ++ fr) → ∃ f1 f2, fp = f1 ++ f2 ∧ Rt K Z H τ f1 θ ∧ Rt K Z H σ f2 fr
  | [], [], fp, _, r => ⟨[], fp, rfl, .nil, r⟩
  | _ :: _, [], _, h, _ => by simp at h
  | [], _ :: _, _, h, _ => by simp at h
  | x :: τ, o :: θ, fp, h, r => by
    cases r with
    | no r =>
      obtain ⟨f1, f2, e, r1, r2⟩ := Rt.split (by simpa using h) r
      exact ⟨f1, f2, e, .no r1, r2⟩
    | @so v vs f fps _ _ q r =>
      obtain ⟨f1, f2, e, r1, r2⟩ := Rt.split (by simpa using h) r
      exact ⟨f ++ f1, f2, by rw [e, List.append_assoc], .so q r1, r2⟩
/-- a slot's thing taken out -/
theorem Rt.take {i : Nat} {o : O} {vs : List (Option V)} {fp : List Addr} {os : List (Option O)} (r : Rt K Z H vs fp os) (h : os[i]? = some (some o)) :
    ∃ v f1 f2, vs[i]? = some (some v) ∧ Ro K Z H v f1 o ∧ fp.Perm (f1 ++ f2) ∧ Rt K Z H vs f2 (os.set i none) := by
  induction r generalizing i with
  | nil => simp at h
  | @no v0 vs fp os r ih =>
    cases i with
    | zero => simp at h
    | succ i =>
      obtain ⟨v, f1, f2, e, q, p, r2⟩ := ih (by simpa using h)
      exact ⟨v, f1, f2, by simpa using e, q, p, .no r2⟩
  | @so v0 vs fp fps o0 os q r ih =>
    cases i with
    | zero =>
      have e : o0 = o := by simpa using h
      subst e
      exact ⟨v0, fp, fps, rfl, q, .refl _, .no r⟩
    | succ i =>
      obtain ⟨v, f1, f2, e, q2, p, r2⟩ := ih (by simpa using h)
      refine ⟨v, f1, fp ++ f2, by simpa using e, q2, ?_, .so q r2⟩
      refine (List.Perm.append_left fp p).trans ?_
      rw [← List.append_assoc, ← List.append_assoc]
      exact List.Perm.append_right f2 List.perm_append_comm
/-- .. put back (or another one, or none) -/
theorem Rt.put {i : Nat} {o : O} {v : V} {f1 : List Addr} {vs : List (Option V)} {fp : List Addr} {os : List (Option O)} (r : Rt K Z H vs fp os) (hn : os[i]? = some none) (e : vs[i]? = some (some v)) (q : Ro K Z H v f1 o) :
    ∃ fp', fp'.Perm (f1 ++ fp) ∧ Rt K Z H vs fp' (os.set i (some o)) := by
  induction r generalizing i with
  | nil => simp at hn
  | @no v0 vs fp os r ih =>
    cases i with
    | zero =>
      have e : v0 = some v := by simpa using e
      subst e
      exact ⟨_, .refl _, .so q r⟩
    | succ i =>
      obtain ⟨fp', p, r2⟩ := ih (by simpa using hn) (by simpa using e)
      exact ⟨fp', p, .no r2⟩
  | @so v0 vs fp fps o0 os q0 r ih =>
    cases i with
    | zero => simp at hn
    | succ i =>
      obtain ⟨fp', p, r2⟩ := ih (by simpa using hn) (by simpa using e)
      refine ⟨fp ++ fp', ?_, .so q0 r2⟩
      refine (List.Perm.append_left fp p).trans ?_
      rw [← List.append_assoc, ← List.append_assoc]
      exact List.Perm.append_right fps List.perm_append_comm
/-- a slot of no thing may hold any value -/
theorem Rt.set {i : Nat} {x : Option V} {vs : List (Option V)} {fp : List Addr} {os : List (Option O)} (r : Rt K Z H vs fp os) (hn : os[i]? = some none) : Rt K Z H (vs.set i x) fp os := by
  induction r generalizing i with
  | nil => exact .nil
  | no r ih =>
    cases i with
    | zero => exact .no r
    | succ i => exact .no (ih (by simpa using hn))
  | so q r ih =>
    cases i with
    | zero => simp at hn
    | succ i => exact .so q (ih (by simpa using hn))
/-- a slot forgotten -/
theorem Rt.drop (i : Nat) {vs : List (Option V)} {fp : List Addr} {os : List (Option O)} (r : Rt K Z H vs fp os) : ∃ f1 f2, fp.Perm (f1 ++ f2) ∧ Rt K Z H vs f2 (os.set i none) := by
  cases h : os[i]? with
  | none => exact ⟨[], fp, .refl _, by rw [List.set_eq_of_length_le (by simpa using h)]; exact r⟩
  | some x =>
    cases x with
    | none =>
      refine ⟨[], fp, .refl _, ?_⟩
      have : os.set i none = os := by
        apply List.ext_getElem?
        intro j
        rw [List.getElem?_set]
        split
        · rename_i e; subst e; rw [h]; simp [(List.getElem?_eq_some_iff.mp h).1]
        · rfl
      rw [this]; exact r
    | some o =>
      obtain ⟨v, f1, f2, _, _, p, r2⟩ := r.take h
      exact ⟨f1, f2, p, r2⟩

/-! ### the world: what is frozen, what stands, what is owned -/
structure Wd (K : PySem.W.Frag) (Z H : Hp) (vs : List (Option V)) (os : List (Option O)) (fp : List Addr) : Prop where
  rt : Rt K Z H vs fp os
  nd : fp.Nodup
  zf : ∀ a ∈ fp, Z a = none
  zh : Same Z H
  live : ∀ a ∈ fp, H a ≠ none
/-- from one world to the next -/
structure Ext (Z H : Hp) (fp : List Addr) (Z' H' : Hp) (fp' : List Addr) : Prop where
  keep : ∀ a u, H a = some u → a ∉ fp → H' a = some u
  live : ∀ a, H a ≠ none → H' a ≠ none
  foot : ∀ a ∈ fp', a ∈ fp ∨ H a = none
  zz : Same Z Z'
  zn : ∀ a, Z' a ≠ none → Z a ≠ none ∨ a ∈ fp ∨ H a = none
variable {fp fp' fp1 fp2 : List Addr} {Z1 H1 Z2 H2 : Hp}
theorem Ext.refl (Z H : Hp) (fp : List Addr) : Ext Z H fp Z H fp := ⟨fun _ _ e _ => e, fun _ e => e, fun _ m => .inl m, fun _ _ e => e, fun _ e => .inl e⟩
theorem Ext.trans (x : Ext Z H fp Z1 H1 fp1) (y : Ext Z1 H1 fp1 Z2 H2 fp2) : Ext Z H fp Z2 H2 fp2 := by
  refine ⟨fun a u e m => y.keep a u (x.keep a u e m) fun m1 => ?_, fun a e => y.live a (x.live a e), fun a m => ?_, x.zz.trans y.zz, fun a e => ?_⟩
  · rcases x.foot a m1 with z | z
    · exact m z
    · rw [e] at z; cases z
  · rcases y.foot a m with z | z
    · exact x.foot a z
    · by_cases e : H a = none
      · exact .inr e
      · exact absurd z (x.live a e)
  · rcases y.zn a e with z | z | z
    · exact x.zn a z
    · exact .inr (x.foot a z)
    · by_cases e : H a = none
      · exact .inr (.inr e)
      · exact absurd z (x.live a e)
theorem Ext.perm {fa fb : List Addr} (x : Ext Z H fp Z1 H1 fp1) (p : ∀ a, a ∈ fa ↔ a ∈ fp) (q : ∀ a ∈ fb, a ∈ fp1) : Ext Z H fa Z1 H1 fb :=
  ⟨fun a u e m => x.keep a u e fun z => m ((p a).mpr z), x.live, fun a m => (x.foot a (q a m)).imp_left (p a).mpr, x.zz, fun a e => (x.zn a e).imp_right (Or.imp_left (p a).mpr)⟩
/-- roots that are not looked at -/
theorem Wd.under {τ σ : List (Option V)} {θ fr : List (Option O)} (w : Wd K Z H (τ ++ σ) (θ ++ fr) fp) (h : τ.length = θ.length) :
    ∃ f1 f2, fp = f1 ++ f2 ∧ Wd K Z H σ fr f2 ∧ ∀ Z' H' σ' fr' f2', Wd K Z' H' σ' fr' f2' → Ext Z H f2 Z' H' f2' → Wd K Z' H' (τ ++ σ') (θ ++ fr') (f1 ++ f2') ∧ Ext Z H fp Z' H' (f1 ++ f2') := by
  obtain ⟨f1, f2, e, r1, r2⟩ := Rt.split h w.rt
  subst e
  have nd := List.nodup_append.mp w.nd
  refine ⟨f1, f2, rfl, ⟨r2, nd.2.1, fun a m => w.zf a (List.mem_append_right _ m), w.zh, fun a m => w.live a (List.mem_append_right _ m)⟩, fun Z' H' σ' fr' f2' w' x => ?_⟩
  have ne : ∀ a ∈ f1, a ∉ f2 := fun a m m2 => nd.2.2 a m a m2 rfl
  have ne' : ∀ a ∈ f1, a ∉ f2' := fun a m m2 => by
    rcases x.foot a m2 with z | z
    · exact ne a m z
    · exact w.live a (List.mem_append_left _ m) z
  refine ⟨⟨(r1.frame (fun a m u e => x.keep a u e (ne a m)) x.zz).append w'.rt, ?_, fun a m => ?_, w'.zh, fun a m => ?_⟩, ⟨fun a u e m => x.keep a u e fun z => m (List.mem_append_right _ z), x.live, fun a m => ?_, x.zz, fun a e => ?_⟩⟩
  · refine List.nodup_append.mpr ⟨nd.1, w'.nd, fun a m b m2 e => ?_⟩
    subst e
    exact ne' a m m2
  · rcases List.mem_append.mp m with m | m
    · cases e : Z' a with
      | none => rfl
      | some u =>
        rcases x.zn a (by rw [e]; exact nofun) with z | z | z
        · exact absurd (w.zf a (List.mem_append_left _ m)) z
        · exact absurd z (ne a m)
        · exact absurd z (w.live a (List.mem_append_left _ m))
    · exact w'.zf a m
  · rcases List.mem_append.mp m with m | m
    · exact x.live a (w.live a (List.mem_append_left _ m))
    · exact w'.live a m
  · rcases List.mem_append.mp m with m | m
    · exact .inl (List.mem_append_left _ m)
    · exact (x.foot a m).imp_left (List.mem_append_right _)
  · exact (x.zn a e).imp_right (Or.imp_left (List.mem_append_right _))
theorem Wd.perm {vs : List (Option V)} {os os' : List (Option O)} (w : Wd K Z H vs os fp) {vs' : List (Option V)} (r : Rt K Z H vs' fp' os') (p : fp'.Perm fp) : Wd K Z H vs' os' fp' :=
  ⟨r, p.nodup_iff.mpr w.nd, fun a m => w.zf a (p.mem_iff.mp m), w.zh, fun a m => w.live a (p.mem_iff.mp m)⟩
theorem Wd.sub {vs : List (Option V)} {os os' : List (Option O)} {f1 : List Addr} (w : Wd K Z H vs os fp) {vs' : List (Option V)} (r : Rt K Z H vs' fp' os') (p : fp.Perm (f1 ++ fp')) : Wd K Z H vs' os' fp' :=
  ⟨r, (List.nodup_append.mp (p.nodup_iff.mp w.nd)).2.1, fun a m => w.zf a (p.mem_iff.mpr (List.mem_append_right _ m)), w.zh, fun a m => w.live a (p.mem_iff.mpr (List.mem_append_right _ m))⟩
theorem Ext.dropped {f1 : List Addr} (p : fp.Perm (f1 ++ fp')) : Ext Z H fp Z H fp' :=
  ⟨fun _ _ e _ => e, fun _ e => e, fun a m => .inl (p.mem_iff.mpr (List.mem_append_right _ m)), fun _ _ e => e, fun _ e => .inl e⟩
/-- a slot's thing frozen where it stands -/
theorem Wd.freeze {i : Nat} {o : O} {σ : List (Option V)} {fr : List (Option O)} (w : Wd K Z H σ fr fp) (h : fr[i]? = some (some o)) (pl : o.pl = true) :
    ∃ Z' fp' v, σ[i]? = some (some v) ∧ Rp K Z' v o.data ∧ Wd K Z' H σ (fr.set i (some (.d o.data))) fp' ∧ Ext Z H fp Z' H fp' := by
  obtain ⟨v, f1, f2, e, q, p, r2⟩ := w.rt.take h
  have nd := List.nodup_append.mp (p.nodup_iff.mp w.nd)
  have zz : Same Z fun a => if a ∈ f1 then H a else Z a := fun a u e => by
    show (if a ∈ f1 then H a else Z a) = some u
    split
    · exact w.zh _ _ e
    · exact e
  have rp : Rp K (fun a => if a ∈ f1 then H a else Z a) v o.data := q.freeze pl (fun a m u e => by
    show (if a ∈ f1 then H a else Z a) = some u
    rw [if_pos m]; exact e) zz
  have r3 : Rt K (fun a => if a ∈ f1 then H a else Z a) H σ f2 (fr.set i none) := r2.frame (fun _ _ _ e => e) zz
  have hi : i < fr.length := (List.getElem?_eq_some_iff.mp h).1
  obtain ⟨fp', p', r4⟩ := r3.put (o := .d o.data) (f1 := []) (i := i) (by rw [List.getElem?_set_self hi]) e (.d rp)
  rw [List.set_set] at r4
  have p'' : fp'.Perm f2 := p'
  refine ⟨_, fp', v, e, rp, ⟨r4, p''.nodup_iff.mpr nd.2.1, fun a m => ?_, fun a u e => ?_, fun a m => w.live a (p.mem_iff.mpr (List.mem_append_right _ (p''.mem_iff.mp m)))⟩, ⟨fun _ _ e _ => e, fun _ e => e, fun a m => .inl (p.mem_iff.mpr (List.mem_append_right _ (p''.mem_iff.mp m))), zz, fun a e => ?_⟩⟩
  · have m2 := p''.mem_iff.mp m
    show (if a ∈ f1 then H a else Z a) = none
    rw [if_neg fun z => nd.2.2 a z a m2 rfl]
    exact w.zf a (p.mem_iff.mpr (List.mem_append_right _ m2))
  · have e : (if a ∈ f1 then H a else Z a) = some u := e
    split at e
    · exact e
    · exact w.zh _ _ e
  · have e : (if a ∈ f1 then H a else Z a) ≠ none := e
    split at e
    · rename_i m
      exact .inr (.inl (p.mem_iff.mpr (List.mem_append_left _ m)))
    · exact .inl e
end
end Bv
set_option Elab.async false
set_option linter.all false
set_option maxRecDepth 100000
/-! Bv2: expressions by value. -/
namespace Bv
open PySem PySem.Spec PyProof.Rows L2

abbrev Fr := List (Option O)
abbrev Sl := List (Option V)
/-- what an expression gives: a thing of its own, one that is lent, one that is moved out of a slot (to be put back) -/
inductive Rs where
  | own (o : O)
  | bor (o : O)
  | ref (j : Nat) (o : O)
def Rs.o : Rs → O
  | .own o => o
  | .bor o => o
  | .ref _ o => o
def Rs.root : Rs → Option O
  | .own o => some o
  | .bor _ => none
  | .ref _ o => some o
def Rs.stable : Rs → Bool
  | .bor _ => false
  | _ => true
inductive Bk (K : PySem.W.Frag) (Z H : Hp) (σ : Sl) : V → Rs → Prop
  | own {v : V} {o : O} : Bk K Z H σ v (.own o)
  | bor {v : V} {fp : List Addr} {o : O} : Ro K Z H v fp o → (∀ a ∈ fp, H a ≠ none) → Bk K Z H σ v (.bor o)
  | ref {v : V} {j : Nat} {o : O} : σ[j]? = some (some v) → Bk K Z H σ v (.ref j o)
inductive BkA (K : PySem.W.Frag) (Z H : Hp) (σ : Sl) : List V → List Rs → Prop
  | nil : BkA K Z H σ [] []
  | cons {v : V} {vs : List V} {r : Rs} {rs : List Rs} : Bk K Z H σ v r → BkA K Z H σ vs rs → BkA K Z H σ (v :: vs) (r :: rs)
def Pu (p : Bool) (H : Hp) (fr : Fr) (H' : Hp) (fr' : Fr) : Prop := p = true → Same H H' ∧ fr' = fr
abbrev Ev := Fr → Option (Rs × Fr)
abbrev Eva := Fr → Option (List Rs × Fr)
def EvR (K : PySem.W.Frag) (p : Bool) (f : Ev) : TE := fun σ H Q => ∃ Z fr fp r fr', Wd K Z H σ fr fp ∧ f fr = some (r, fr') ∧
  ∀ Z' H' v fp', Wd K Z' H' (some v :: σ) (r.root :: fr') fp' → Ext Z H fp Z' H' fp' → Bk K Z' H' σ v r → Pu p H fr H' fr' → Q v H'
def EvA (K : PySem.W.Frag) (p : Bool) (f : Eva) : TA := fun σ H Q => ∃ Z fr fp rs fr', Wd K Z H σ fr fp ∧ f fr = some (rs, fr') ∧
  ∀ Z' H' vs fp', Wd K Z' H' (vs.map some ++ σ) (rs.map Rs.root ++ fr') fp' → Ext Z H fp Z' H' fp' → BkA K Z' H' σ vs rs → Pu p H fr H' fr' → Q vs H'
/-- .. of a test -/
abbrev Evt := Fr → Option (Bool × Fr)
def EvT (K : PySem.W.Frag) (p : Bool) (f : Evt) : TT := fun σ H Q => ∃ Z fr fp b fr', Wd K Z H σ fr fp ∧ f fr = some (b, fr') ∧
  ∀ Z' H' fp', Wd K Z' H' σ fr' fp' → Ext Z H fp Z' H' fp' → Pu p H fr H' fr' → Q b H'

theorem imp {X : Cx} {e : Expr} {t t' : TE} (h : PE X e t) (k : ∀ σ H Q, t' σ H Q → t σ H Q) : PE X e t' := ⟨fun pins s σ H Q I q => h.run pins s σ H Q I (k σ H Q q)⟩
theorem impA {X : Cx} {es : List Expr} {t t' : TA} (h : PA X es t) (k : ∀ σ H Q, t' σ H Q → t σ H Q) : PA X es t' := ⟨fun pos pins s σ H Q I q => h.run pos pins s σ H Q I (k σ H Q q)⟩
theorem impT {X : Cx} {e : Expr} {t t' : TT} (h : PT X e t) (k : ∀ σ H Q, t' σ H Q → t σ H Q) : PT X e t' := ⟨fun pins s σ H Q I q => h.run pins s σ H Q I (k σ H Q q)⟩
theorem impW {X : Cx} {e : Expr} {t t' : TT} (h : PW X e t) (k : ∀ σ H Q, t' σ H Q → t σ H Q) : PW X e t' := ⟨fun wh pins s σ H Q I q => h.run wh pins s σ H Q I (k σ H Q q)⟩
theorem impS {X : Cx} {st : Stmt} {t t' : TS} (h : PS X st t) (k : ∀ D σ H, t' D σ H → t D σ H) : PS X st t' := ⟨fun pins s σ H D I q => h.run pins s σ H D I (k D σ H q)⟩
theorem impSs {X : Cx} {st : List Stmt} {t t' : TS} (h : PSs X st t) (k : ∀ D σ H, t' D σ H → t D σ H) : PSs X st t' := ⟨fun pins s σ H D I q => h.run pins s σ H D I (k D σ H q)⟩

section
variable {K : PySem.W.Frag} {Z Z' H H' : Hp} {σ : Sl} {fp : List Addr}
theorem Pu.refl {p : Bool} {fr : Fr} : Pu p H fr H fr := fun _ => ⟨fun _ _ e => e, rfl⟩
theorem Pu.trans {p q : Bool} {H1 H2 : Hp} {fr fr1 fr2 : Fr} (a : Pu p H fr H1 fr1) (b : Pu q H1 fr1 H2 fr2) : Pu (p && q) H fr H2 fr2 := fun e => by
  obtain ⟨e1, e2⟩ := (Bool.and_eq_true _ _).mp e
  obtain ⟨a1, a2⟩ := a e1
  obtain ⟨b1, b2⟩ := b e2
  exact ⟨a1.trans b1, b2.trans a2⟩
/-- what is lent stays over a pure step -/
theorem Bk.stay {v : V} {r : Rs} (b : Bk K Z H σ v r) (h : r.stable = true ∨ Same H H') (z : Same Z Z') : Bk K Z' H' σ v r := by
  cases b with
  | own => exact .own
  | ref e => exact .ref e
  | bor q l =>
    rcases h with h | h
    · cases h
    · refine .bor (q.frame (fun a _ u e => h a u e) z) fun a m e => ?_
      cases q2 : H a with
      | none => exact l a m q2
      | some u => rw [h a u q2] at e; cases e
end

/-! ### argument lists -/
def nilF : Eva := fun fr => some ([], fr)
/-- pb: whether the rest is pure -/
def consF (pb : Bool) (fa : Ev) (fb : Eva) : Eva := fun fr => (fa fr).bind fun x => if (pb || x.1.stable) = true then (fb x.2).bind fun y => some (x.1 :: y.1, y.2) else none
section
variable {K : PySem.W.Frag} {σ : Sl} {H : Hp}
theorem EvA.nil_ {Q : List V → Hp → Prop} (h : EvA K true nilF σ H Q) : tNil σ H Q := by
  obtain ⟨Z, fr, fp, rs, fr', w, e, k⟩ := h
  cases e
  exact k Z H [] fp w (Ext.refl _ _ _) .nil Pu.refl
theorem EvA.cons_ {pa pb : Bool} {fa : Ev} {fb : Eva} {Q : List V → Hp → Prop} (h : EvA K (pa && pb) (consF pb fa fb) σ H Q) : tCons (EvR K pa fa) (EvA K pb fb) σ H Q := by
  obtain ⟨Z, fr, fp, rs, fr', w, e, k⟩ := h
  unfold consF at e
  cases ea : fa fr with
  | none => rw [ea] at e; cases e
  | some x =>
    obtain ⟨r1, fr1⟩ := x
    rw [ea] at e
    simp only [Option.bind_some] at e
    split at e
    · rename_i hst
      cases eb : fb fr1 with
      | none => rw [eb] at e; cases e
      | some y =>
        obtain ⟨rs2, fr2⟩ := y
        rw [eb] at e
        simp only [Option.bind_some, Option.some.injEq, Prod.mk.injEq] at e
        obtain ⟨rfl, rfl⟩ := e
        refine ⟨Z, fr, fp, r1, fr1, w, ea, fun Z1 H1 v fp1 w1 x1 b1 pu1 => ?_⟩
        obtain ⟨f1, f2, e1, w2, glue⟩ := w1.under (τ := [some v]) (θ := [r1.root]) rfl
        refine ⟨Z1, fr1, f2, rs2, fr2, w2, eb, fun Z2 H2 vs fp2 w3 x3 b3 pu3 => ?_⟩
        obtain ⟨w4, x4⟩ := glue Z2 H2 _ _ fp2 w3 x3
        refine k Z2 H2 (v :: vs) (f1 ++ fp2) w4 (x1.trans x4) (.cons (b1.stay ?_ x3.zz) b3) (pu1.trans pu3)
        rcases (Bool.or_eq_true _ _).mp hst with z | z
        · exact .inr (pu3 z).1
        · exact .inl z
    · cases e
end
section
variable {X : Cx} {e : Expr} {es : List Expr}
theorem a_nil : PA X [] (EvA X.K true nilF) := impA pa_nil fun _ _ _ h => h.nil_
theorem a_cons {pa pb : Bool} {fa : Ev} {fb : Eva} (ha : PE X e (EvR X.K pa fa)) (hb : PA X es (EvA X.K pb fb)) (hs : starEach (e :: es) X.env = (false, eval e X.env) :: starEach es X.env := by rfl) : PA X (e :: es) (EvA X.K (pa && pb) (consF pb fa fb)) :=
  impA (pa_cons ha hb hs) fun _ _ _ h => h.cons_
end

/-! ### what an operation gives -/
structure New (K : PySem.W.Frag) (Z H Z' H' : Hp) (v : V) (fp : List Addr) (o : O) : Prop where
  ro : Ro K Z' H' v fp o
  same : Same H H'
  zz : Same Z Z'
  zh : Same Z' H'
  zn : ∀ a, Z' a ≠ none → Z a ≠ none ∨ H a = none
  fr : ∀ a ∈ fp, H a = none ∧ Z' a = none ∧ H' a ≠ none
  nd : fp.Nodup
abbrev Rd2 (K : PySem.W.Frag) (Z H : Hp) : List V → List O → Prop := Paired fun v o => ∃ fp, Ro K Z H v fp o
def OpOk (K : PySem.W.Frag) (r : List V → Hp → VK → Prop) (g : List O → Option O) : Prop :=
  ∀ (Z H : Hp) (vs : List V) (os : List O) (o : O) (Q : VK), Same Z H → Rd2 K Z H vs os → g os = some o → (∀ Z' H' v fp, New K Z H Z' H' v fp o → Q v H') → r vs H Q
section
variable {K : PySem.W.Frag} {Z H : Hp}
/-- a value without objects -/
theorem New.flat {v : V} {t : PyData} (zh : Same Z H) (h : Rp K Z v t) : New K Z H Z H v [] (.d t) := ⟨.d h, fun _ _ e => e, fun _ _ e => e, zh, fun _ e => .inl e, (fun _ m => nomatch m), .nil⟩
/-- a new owned list of frozen things -/
theorem rps_ros {vs : List V} {ts : List PyData} {H' : Hp} (h : Rps K Z vs ts) : Ros K Z H' vs [] (ts.map O.d) := by
  induction vs generalizing ts with
  | nil => cases h; exact .nil
  | cons v vs ih =>
    cases h with
    | cons h r => exact .cons (fp := []) (.d h) (ih r)
theorem New.list {p : Addr} {vs : List V} {ts : List PyData} (zh : Same Z H) (hp : H p = none) (h : Rps K Z vs ts) : New K Z H Z (upd H p (.lst vs)) (.ref p) [p] (.l (ts.map O.d)) := by
  have hz : Z p = none := by
    cases e : Z p with
    | none => rfl
    | some u => rw [zh _ _ e] at hp; cases hp
  have sm : Same H (upd H p (.lst vs)) := fun b o e => by rw [upd_ne (ne_of_none e hp)]; exact e
  refine ⟨.l (fp := []) upd_same (rps_ros h), sm, fun _ _ e => e, zh.trans sm, fun _ e => .inl e, fun a m => ?_, by simp⟩
  have e : a = p := by simpa using m
  subst e
  exact ⟨hp, hz, by rw [upd_same]; exact nofun⟩
/-- a new frozen tuple -/
theorem New.tuple {p : Addr} {vs : List V} {ts : List PyData} (zh : Same Z H) (hp : H p = none) (h : Rps K Z vs ts) : New K Z H (upd Z p (.tup vs)) (upd H p (.tup vs)) (.ref p) [] (.d (.tuple ts)) := by
  have hz : Z p = none := by
    cases e : Z p with
    | none => rfl
    | some u => rw [zh _ _ e] at hp; cases hp
  have sm : Same H (upd H p (.tup vs)) := fun b o e => by rw [upd_ne (ne_of_none e hp)]; exact e
  have sz : Same Z (upd Z p (.tup vs)) := fun b o e => by rw [upd_ne (ne_of_none e hz)]; exact e
  refine ⟨.d (.tup (SqT.of upd_same) (h.mono sz)), sm, sz, fun b o e => ?_, fun a e => ?_, (fun _ m => nomatch m), .nil⟩
  · by_cases hb : b = p
    · subst hb; rw [upd_same] at e ⊢; exact e
    · rw [upd_ne hb] at e ⊢; exact zh _ _ e
  · by_cases hb : a = p
    · subst hb; exact .inr hp
    · rw [upd_ne hb] at e; exact .inl e
end
theorem rt_prefix {K : PySem.W.Frag} {Z H : Hp} {σ : Sl} {fr : Fr} : ∀ {vs : List V} {rs : List Rs} {fp : List Addr}, Rt K Z H (vs.map some ++ σ) fp (rs.map Rs.root ++ fr) → BkA K Z H σ vs rs → Rd2 K Z H vs (rs.map Rs.o)
  | _, _, _, _, .nil => .nil
  | _, r :: rs, _, h, .cons b bs => by
    cases b with
    | own =>
      cases h with
      | so q h => exact .cons ⟨_, q⟩ (rt_prefix h bs)
    | ref e =>
      cases h with
      | so q h => exact .cons ⟨_, q⟩ (rt_prefix h bs)
    | bor q =>
      cases h with
      | no h => exact .cons ⟨_, q⟩ (rt_prefix h bs)
theorem BkA.length {K : PySem.W.Frag} {Z H : Hp} {σ : Sl} {vs : List V} {rs : List Rs} (b : BkA K Z H σ vs rs) : vs.length = rs.length := by
  induction b with
  | nil => rfl
  | cons _ _ ih => simp [ih]
/-- a new thing in front of roots -/
theorem Wd.new {K : PySem.W.Frag} {Z H Z' H' : Hp} {σ : List (Option V)} {fr : List (Option O)} {fp f : List Addr} {v : V} {o : O} (w : Wd K Z H σ fr fp) (n : New K Z H Z' H' v f o) :
    Wd K Z' H' (some v :: σ) (some o :: fr) (f ++ fp) ∧ Ext Z H fp Z' H' (f ++ fp) := by
  have lv : ∀ a, H a ≠ none → H' a ≠ none := fun a e z => by
    cases q : H a with
    | none => exact e q
    | some u => rw [n.same a u q] at z; cases z
  refine ⟨⟨.so n.ro (w.rt.frame (fun a _ u e => n.same a u e) n.zz), ?_, fun a m => ?_, n.zh, fun a m => ?_⟩, ⟨fun a u e _ => n.same a u e, lv, fun a m => ?_, n.zz, fun a e => (n.zn a e).imp_right .inr⟩⟩
  · refine List.nodup_append.mpr ⟨n.nd, w.nd, fun a m b m2 e => ?_⟩
    subst e
    exact w.live a m2 (n.fr a m).1
  · rcases List.mem_append.mp m with m | m
    · exact (n.fr a m).2.1
    · cases e : Z' a with
      | none => rfl
      | some u =>
        rcases n.zn a (by rw [e]; exact nofun) with z | z
        · exact absurd (w.zf a m) z
        · exact absurd z (w.live a m)
  · rcases List.mem_append.mp m with m | m
    · exact (n.fr a m).2.2
    · exact lv a (w.live a m)
  · rcases List.mem_append.mp m with m | m
    · exact .inr (n.fr a m).1
    · exact .inl m
def opF (g : List O → Option O) (f : Eva) : Ev := fun fr => (f fr).bind fun x => (g (x.1.map Rs.o)).bind fun o => some (.own o, x.2)
theorem EvA.op_ {K : PySem.W.Frag} {σ : Sl} {H : Hp} {p : Bool} {f : Eva} {g : List O → Option O} {r : List V → Hp → VK → Prop} {Q : VK} (ok : OpOk K r g) (h : EvR K p (opF g f) σ H Q) : EvA K p f σ H (fun vs H1 => r vs H1 Q) := by
  obtain ⟨Z, fr, fp, rs, fr', w, e, k⟩ := h
  unfold opF at e
  cases ef : f fr with
  | none => rw [ef] at e; cases e
  | some x =>
    obtain ⟨qs, fr1⟩ := x
    rw [ef] at e
    simp only [Option.bind_some] at e
    cases eg : g (qs.map Rs.o) with
    | none => rw [eg] at e; cases e
    | some o =>
      rw [eg] at e
      simp only [Option.bind_some, Option.some.injEq, Prod.mk.injEq] at e
      obtain ⟨rfl, rfl⟩ := e
      refine ⟨Z, fr, fp, qs, fr1, w, ef, fun Z1 H1 vs fp1 w1 x1 b1 pu1 => ?_⟩
      refine ok Z1 H1 vs _ o Q w1.zh (rt_prefix w1.rt b1) eg fun Z2 H2 v f n => ?_
      obtain ⟨f1, f2, e1, r1, r2⟩ := Rt.split (by simp [b1.length]) w1.rt
      have w2 : Wd K Z1 H1 σ fr1 f2 := w1.sub r2 (by rw [e1])
      have x2 : Ext Z1 H1 fp1 Z1 H1 f2 := Ext.dropped (f1 := f1) (by rw [e1])
      obtain ⟨w3, x3⟩ := w2.new n
      refine k Z2 H2 v (f ++ f2) w3 (x1.trans (x2.trans x3)) .own fun z => ?_
      obtain ⟨p1, p2⟩ := pu1 z
      exact ⟨p1.trans n.same, p2⟩
/-- two expressions, then an operation on their values -/
def bin (pb : Bool) (g : List O → Option O) (fa fb : Ev) : Ev := opF g (consF pb fa (consF true fb nilF))
def una (g : List O → Option O) (fa : Ev) : Ev := opF g (consF true fa nilF)
def rTwo (r : R2) : List V → Hp → VK → Prop := fun vs H Q => ∃ x y, vs = [x, y] ∧ r x y H Q
def rOne (r : V → Hp → VK → Prop) : List V → Hp → VK → Prop := fun vs H Q => ∃ x, vs = [x] ∧ r x H Q
section
variable {X : Cx} {a b : Expr} {pos : Pos} {pa pb : Bool} {fa fb : Ev} {g : List O → Option O}
theorem EvR.bin_ {K : PySem.W.Frag} {r : R2} {σ : Sl} {H : Hp} {Q : VK} (ok : OpOk K (rTwo r) g) (h : EvR K (pa && pb) (bin pb g fa fb) σ H Q) : tOp r (EvR K pa fa) (EvR K pb fb) σ H Q := by
  have h1 : EvA K (pa && pb) (consF pb fa (consF true fb nilF)) σ H (fun vs H1 => rTwo r vs H1 Q) := EvA.op_ ok h
  have h2 : EvA K (pa && (pb && true)) (consF (pb && true) fa (consF true fb nilF)) σ H (fun vs H1 => rTwo r vs H1 Q) := by rw [Bool.and_true]; exact h1
  have h3 := h2.cons_
  unfold tCons at h3
  unfold tOp
  obtain ⟨Z, fr, fp, r1, fr1, w, e, k⟩ := h3
  refine ⟨Z, fr, fp, r1, fr1, w, e, fun Z1 H1 v fp1 w1 x1 b1 pu1 => ?_⟩
  have h4 := (k Z1 H1 v fp1 w1 x1 b1 pu1).cons_
  unfold tCons at h4
  obtain ⟨Z, fr, fp, r1, fr1, w, e, k⟩ := h4
  refine ⟨Z, fr, fp, r1, fr1, w, e, fun Z1 H1 v fp1 w1 x1 b1 pu1 => ?_⟩
  obtain ⟨x, y, ee, q⟩ := (k Z1 H1 v fp1 w1 x1 b1 pu1).nil_
  cases ee
  exact q
theorem EvR.una_ {K : PySem.W.Frag} {r : V → Hp → VK → Prop} {σ : Sl} {H : Hp} {Q : VK} (ok : OpOk K (rOne r) g) (h : EvR K pa (una g fa) σ H Q) : tUn r (EvR K pa fa) σ H Q := by
  have h1 : EvA K pa (consF true fa nilF) σ H (fun vs H1 => rOne r vs H1 Q) := EvA.op_ ok h
  have h2 : EvA K (pa && true) (consF true fa nilF) σ H (fun vs H1 => rOne r vs H1 Q) := by rw [Bool.and_true]; exact h1
  have h3 := h2.cons_
  obtain ⟨Z, fr, fp, r1, fr1, w, e, k⟩ := h3
  refine ⟨Z, fr, fp, r1, fr1, w, e, fun Z1 H1 v fp1 w1 x1 b1 pu1 => ?_⟩
  obtain ⟨x, ee, q⟩ := (k Z1 H1 v fp1 w1 x1 b1 pu1).nil_
  cases ee
  exact q
theorem e_bin {op : Operator} {r : R2} (ho : OpR X (binaryOp op) r) (ok : OpOk X.K (rTwo r) g) (ha : PE X a (EvR X.K pa fa)) (hb : PE X b (EvR X.K pb fb)) : PE X (.BinOp a op b pos) (EvR X.K (pa && pb) (bin pb g fa fb)) :=
  imp (pe_op ho ha hb) fun _ _ _ h => EvR.bin_ ok h
theorem e_un {op : UnaryOp} {r : V → Hp → VK → Prop} (ho : UnR X (unaryOp op) r) (ok : OpOk X.K (rOne r) g) (ha : PE X a (EvR X.K pa fa)) : PE X (.UnaryOp op a pos) (EvR X.K pa (una g fa)) :=
  imp (pe_un ho ha) fun _ _ _ h => EvR.una_ ok h
theorem e_cmp {op : CmpOp} {r : R2} (ho : OpR X (compareOp op) r) (ok : OpOk X.K (rTwo r) g) (ha : PE X a (EvR X.K pa fa)) (hb : PE X b (EvR X.K pb fb)) (hm : behindInMarks op b = false) : PE X (.Compare a [op] [b] pos) (EvR X.K (pa && pb) (bin pb g fa fb)) :=
  imp (pe_cmpR ho ha hb hm) fun _ _ _ h => EvR.bin_ ok h
theorem e_ix {r : R2} (hr : IxR X r) (ok : OpOk X.K (rTwo r) g) (ha : PE X a (EvR X.K pa fa)) (hb : PE X b (EvR X.K pb fb)) (hs : PlainIx b) : PE X (.Subscript a b pos) (EvR X.K (pa && pb) (bin pb g fa fb)) :=
  imp (pe_ix hr ha hb hs) fun _ _ _ h => EvR.bin_ ok h
end

/-! ### a value as a test -/
def isB : O → Option Bool
  | .d (.bool b) => some b
  | _ => none
def tstF (f : Ev) : Evt := fun fr => (f fr).bind fun x => (isB x.1.o).bind fun b => some (b, x.2)
theorem EvT.tst_ {K : PySem.W.Frag} {σ : Sl} {H : Hp} {p : Bool} {f : Ev} {Q : Bool → Hp → Prop} (h : EvT K p (tstF f) σ H Q) : EvR K p f σ H fun x H1 => ∃ c, x = .bl c ∧ Q c H1 := by
  obtain ⟨Z, fr, fp, b, fr', w, e, k⟩ := h
  unfold tstF at e
  cases ef : f fr with
  | none => rw [ef] at e; cases e
  | some x =>
    obtain ⟨r, fr1⟩ := x
    rw [ef] at e
    simp only [Option.bind_some] at e
    cases eg : isB r.o with
    | none => rw [eg] at e; cases e
    | some c =>
      rw [eg] at e
      simp only [Option.bind_some, Option.some.injEq, Prod.mk.injEq] at e
      obtain ⟨rfl, rfl⟩ := e
      refine ⟨Z, fr, fp, r, fr1, w, ef, fun Z1 H1 v fp1 w1 x1 b1 pu1 => ?_⟩
      have ho : r.o = .d (.bool c) := by
        generalize r.o = o at eg
        unfold isB at eg
        split at eg <;> first | (cases eg; rfl) | cases eg
      have hv : ∃ fpo, Ro K Z1 H1 v fpo r.o := by
        have := rt_prefix (vs := [v]) (rs := [r]) w1.rt (.cons b1 .nil)
        cases this with
        | cons h _ => exact h
      obtain ⟨fpo, q⟩ := hv
      rw [ho] at q
      cases q with
      | d q =>
        cases q
        obtain ⟨f1, f2, e1, r1, r2⟩ := Rt.split (τ := [some (.bl c)]) (θ := [r.root]) rfl w1.rt
        exact ⟨c, rfl, k Z1 H1 f2 (w1.sub r2 (by rw [e1])) (x1.trans (Ext.dropped (f1 := f1) (by rw [e1]))) pu1⟩
section
variable {X : Cx} {a b e : Expr} {pos : Pos} {pa pb : Bool} {fa fb : Ev} {g : List O → Option O}
theorem t_cmp {op : CmpOp} {r : R2} (ho : OpR X (compareOp op) r) (ok : OpOk X.K (rTwo r) g) (ha : PE X a (EvR X.K pa fa)) (hb : PE X b (EvR X.K pb fb)) (hm : behindInMarks op b = false) : PT X (.Compare a [op] [b] pos) (EvT X.K (pa && pb) (tstF (bin pb g fa fb))) := by
  refine impT (pt_cmpR ho ha hb hm) fun σ H Q h => ?_
  have h1 := h.tst_
  exact EvR.bin_ ok h1
theorem t_val (h : PE X e (EvR X.K pa fa)) (he : ∀ whole, isTrue e X.env whole = (do let v ← whole; standAt e.pos; holding [v] (truthy v)) := by intro _; rfl) : PT X e (EvT X.K pa (tstF fa)) :=
  impT (pt_val h he) fun _ _ _ h => h.tst_
end
def notF (f : Evt) : Evt := fun fr => (f fr).bind fun x => some (!x.1, x.2)
def andF (f g : Evt) : Evt := fun fr => (f fr).bind fun x => if x.1 = true then g x.2 else some (false, x.2)
def orF (f g : Evt) : Evt := fun fr => (f fr).bind fun x => if x.1 = true then some (true, x.2) else g x.2
section
variable {K : PySem.W.Frag} {σ : Sl} {H : Hp} {p q : Bool} {f g : Evt} {Q : Bool → Hp → Prop}
theorem EvT.not_ (h : EvT K p (notF f) σ H Q) : tNot (EvT K p f) σ H Q := by
  obtain ⟨Z, fr, fp, b, fr', w, e, k⟩ := h
  unfold notF at e
  cases ef : f fr with
  | none => rw [ef] at e; cases e
  | some x =>
    rw [ef] at e
    simp only [Option.bind_some, Option.some.injEq, Prod.mk.injEq] at e
    obtain ⟨rfl, rfl⟩ := e
    exact ⟨Z, fr, fp, x.1, x.2, w, ef, k⟩
theorem EvT.and_ (h : EvT K (p && q) (andF f g) σ H Q) : tAnd (EvT K p f) (EvT K q g) σ H Q := by
  obtain ⟨Z, fr, fp, b, fr', w, e, k⟩ := h
  unfold andF at e
  cases ef : f fr with
  | none => rw [ef] at e; cases e
  | some x =>
    obtain ⟨c, fr1⟩ := x
    rw [ef] at e
    simp only [Option.bind_some] at e
    refine ⟨Z, fr, fp, c, fr1, w, ef, fun Z1 H1 fp1 w1 x1 pu1 => ?_⟩
    cases c with
    | true =>
      rw [if_pos rfl] at e ⊢
      exact ⟨Z1, fr1, fp1, b, fr', w1, e, fun Z2 H2 fp2 w2 x2 pu2 => k Z2 H2 fp2 w2 (x1.trans x2) (pu1.trans pu2)⟩
    | false =>
      rw [if_neg (by decide)] at e ⊢
      cases e
      exact k Z1 H1 fp1 w1 x1 fun z => pu1 ((Bool.and_eq_true _ _).mp z).1
theorem EvT.or_ (h : EvT K (p && q) (orF f g) σ H Q) : tOr (EvT K p f) (EvT K q g) σ H Q := by
  obtain ⟨Z, fr, fp, b, fr', w, e, k⟩ := h
  unfold orF at e
  cases ef : f fr with
  | none => rw [ef] at e; cases e
  | some x =>
    obtain ⟨c, fr1⟩ := x
    rw [ef] at e
    simp only [Option.bind_some] at e
    refine ⟨Z, fr, fp, c, fr1, w, ef, fun Z1 H1 fp1 w1 x1 pu1 => ?_⟩
    cases c with
    | false =>
      rw [if_neg (by decide)] at e ⊢
      exact ⟨Z1, fr1, fp1, b, fr', w1, e, fun Z2 H2 fp2 w2 x2 pu2 => k Z2 H2 fp2 w2 (x1.trans x2) (pu1.trans pu2)⟩
    | true =>
      rw [if_pos rfl] at e ⊢
      cases e
      exact k Z1 H1 fp1 w1 x1 fun z => pu1 ((Bool.and_eq_true _ _).mp z).1
end
section
variable {X : Cx} {a b : Expr} {rest : List Expr} {pos : Pos} {p q : Bool} {f g : Evt}
theorem w_and1 (ha : PT X a (EvT X.K p f)) : PW X (.BoolOp .And [a] pos) (EvT X.K p f) := pw_and1 ha
theorem w_or1 (ha : PT X a (EvT X.K p f)) : PW X (.BoolOp .Or [a] pos) (EvT X.K p f) := pw_or1 ha
theorem w_and (ha : PT X a (EvT X.K p f)) (hb : PW X (.BoolOp .And (b :: rest) pos) (EvT X.K q g)) : PW X (.BoolOp .And (a :: b :: rest) pos) (EvT X.K (p && q) (andF f g)) := impW (pw_and ha hb) fun _ _ _ h => h.and_
theorem w_or (ha : PT X a (EvT X.K p f)) (hb : PW X (.BoolOp .Or (b :: rest) pos) (EvT X.K q g)) : PW X (.BoolOp .Or (a :: b :: rest) pos) (EvT X.K (p && q) (orF f g)) := impW (pw_or ha hb) fun _ _ _ h => h.or_
theorem t_not (ha : PT X a (EvT X.K p f)) : PT X (.UnaryOp .Not a pos) (EvT X.K p (notF f)) := impT (pt_not ha) fun _ _ _ h => h.not_
end

/-! ### and, or, not, if as values (truths) -/
def notV (f : Ev) : Ev := fun fr => (f fr).bind fun x => (isB x.1.o).bind fun b => some (.own (.d (.bool !b)), x.2)
def andV (f g : Ev) : Ev := fun fr => (f fr).bind fun x => (isB x.1.o).bind fun b => if b = true then g x.2 else some (.own (.d (.bool false)), x.2)
def orV (f g : Ev) : Ev := fun fr => (f fr).bind fun x => (isB x.1.o).bind fun b => if b = true then some (.own (.d (.bool true)), x.2) else g x.2
def ifV (c : Evt) (f g : Ev) : Ev := fun fr => (c fr).bind fun x => if x.1 = true then f x.2 else g x.2
section
variable {K : PySem.W.Frag} {σ : Sl} {H : Hp} {p q p2 : Bool} {f g : Ev} {c : Evt} {Q : VK}
theorem Wd.bool {Z : Hp} {fr : Fr} {fp : List Addr} (b : Bool) (w : Wd K Z H σ fr fp) : Wd K Z H (some (.bl b) :: σ) (some (.d (.bool b)) :: fr) fp := ⟨.so (fp := []) (.d (.bl b)) w.rt, w.nd, w.zf, w.zh, w.live⟩
theorem EvR.first_ {α : Type} {Z : Hp} {fr : Fr} {fp : List Addr} {F : Bool → Fr → Option α} {z : α} (w : Wd K Z H σ fr fp) (e : ((f fr).bind fun x => (isB x.1.o).bind fun b => F b x.2) = some z) {R : V → Hp → Prop}
    (k : ∀ b fr1 Z1 H1 fp1, F b fr1 = some z → Wd K Z1 H1 σ fr1 fp1 → Ext Z H fp Z1 H1 fp1 → Pu p H fr H1 fr1 → R (.bl b) H1) : EvR K p f σ H R := by
  cases ef : f fr with
  | none => rw [ef] at e; cases e
  | some x =>
    obtain ⟨r, fr1⟩ := x
    rw [ef] at e
    simp only [Option.bind_some] at e
    cases eg : isB r.o with
    | none => rw [eg] at e; cases e
    | some b =>
      rw [eg] at e
      simp only [Option.bind_some] at e
      have h : EvT K p (tstF f) σ H fun c H1 => R (.bl c) H1 := by
        refine ⟨Z, fr, fp, b, fr1, w, ?_, fun Z1 H1 fp1 w1 x1 pu1 => k b fr1 Z1 H1 fp1 e w1 x1 pu1⟩
        unfold tstF
        rw [ef]
        simp only [Option.bind_some, eg]
      have h2 := h.tst_
      obtain ⟨Z, fr, fp, r, fr', w, e, k⟩ := h2
      refine ⟨Z, fr, fp, r, fr', w, e, fun Z1 H1 v fp1 w1 x1 b1 pu1 => ?_⟩
      obtain ⟨c, rfl, q⟩ := k Z1 H1 v fp1 w1 x1 b1 pu1
      exact q
theorem EvR.not_ (h : EvR K p (notV f) σ H Q) : tNotV (EvR K p f) σ H Q := by
  obtain ⟨Z, fr, fp, r, fr', w, e, k⟩ := h
  refine EvR.first_ (p := p) (f := f) (F := fun b fr1 => some (Rs.own (.d (.bool !b)), fr1)) w e fun b fr1 Z1 H1 fp1 e1 w1 x1 pu1 => ⟨b, rfl, ?_⟩
  cases e1
  exact k Z1 H1 _ fp1 (w1.bool _) x1 .own pu1
theorem EvR.and_ (h : EvR K (p && q) (andV f g) σ H Q) : tAndV (EvR K p f) (EvR K q g) σ H Q := by
  obtain ⟨Z, fr, fp, r, fr', w, e, k⟩ := h
  refine EvR.first_ (p := p) (f := f) (F := fun b fr1 => if b = true then g fr1 else some (Rs.own (.d (.bool false)), fr1)) w e fun b fr1 Z1 H1 fp1 e1 w1 x1 pu1 => ⟨b, rfl, ?_⟩
  cases b with
  | true =>
    rw [if_pos rfl] at e1 ⊢
    exact ⟨Z1, fr1, fp1, r, fr', w1, e1, fun Z2 H2 v fp2 w2 x2 b2 pu2 => k Z2 H2 v fp2 w2 (x1.trans x2) b2 (pu1.trans pu2)⟩
  | false =>
    rw [if_neg (by decide)] at e1 ⊢
    cases e1
    exact k Z1 H1 _ fp1 (w1.bool _) x1 .own fun z => pu1 ((Bool.and_eq_true _ _).mp z).1
theorem EvR.or_ (h : EvR K (p && q) (orV f g) σ H Q) : tOrV (EvR K p f) (EvR K q g) σ H Q := by
  obtain ⟨Z, fr, fp, r, fr', w, e, k⟩ := h
  refine EvR.first_ (p := p) (f := f) (F := fun b fr1 => if b = true then some (Rs.own (.d (.bool true)), fr1) else g fr1) w e fun b fr1 Z1 H1 fp1 e1 w1 x1 pu1 => ⟨b, rfl, ?_⟩
  cases b with
  | false =>
    rw [if_neg (by decide)] at e1 ⊢
    exact ⟨Z1, fr1, fp1, r, fr', w1, e1, fun Z2 H2 v fp2 w2 x2 b2 pu2 => k Z2 H2 v fp2 w2 (x1.trans x2) b2 (pu1.trans pu2)⟩
  | true =>
    rw [if_pos rfl] at e1 ⊢
    cases e1
    exact k Z1 H1 _ fp1 (w1.bool _) x1 .own fun z => pu1 ((Bool.and_eq_true _ _).mp z).1
theorem EvR.weak {p' : Bool} (hp : p' = true → p = true) (h : EvR K p' f σ H Q) : EvR K p f σ H Q := by
  obtain ⟨Z, fr, fp, r, fr', w, e, k⟩ := h
  exact ⟨Z, fr, fp, r, fr', w, e, fun Z1 H1 v fp1 w1 x1 b1 pu1 => k Z1 H1 v fp1 w1 x1 b1 fun z => pu1 (hp z)⟩
theorem EvR.if_ (h : EvR K (p2 && (p && q)) (ifV c f g) σ H Q) : tIf (EvT K p2 c) (EvR K p f) (EvR K q g) σ H Q := by
  obtain ⟨Z, fr, fp, r, fr', w, e, k⟩ := h
  unfold ifV at e
  cases ef : c fr with
  | none => rw [ef] at e; cases e
  | some x =>
    obtain ⟨b, fr1⟩ := x
    rw [ef] at e
    simp only [Option.bind_some] at e
    refine ⟨Z, fr, fp, b, fr1, w, ef, fun Z1 H1 fp1 w1 x1 pu1 => ?_⟩
    cases b with
    | true =>
      rw [if_pos rfl] at e ⊢
      refine ⟨Z1, fr1, fp1, r, fr', w1, e, fun Z2 H2 v fp2 w2 x2 b2 pu2 => k Z2 H2 v fp2 w2 (x1.trans x2) b2 fun z => (pu1.trans pu2) ?_⟩
      simp only [Bool.and_eq_true] at z ⊢
      exact ⟨z.1, z.2.1⟩
    | false =>
      rw [if_neg (by decide)] at e ⊢
      refine ⟨Z1, fr1, fp1, r, fr', w1, e, fun Z2 H2 v fp2 w2 x2 b2 pu2 => k Z2 H2 v fp2 w2 (x1.trans x2) b2 fun z => (pu1.trans pu2) ?_⟩
      simp only [Bool.and_eq_true] at z ⊢
      exact ⟨z.1, z.2.2⟩
end
section
variable {X : Cx} {a b c : Expr} {rest : List Expr} {pos : Pos} {p q p2 : Bool} {f g : Ev} {t : Evt}
theorem e_one {op} (ha : PE X a (EvR X.K p f)) : PE X (.BoolOp op [a] pos) (EvR X.K p f) := pe_one ha
theorem e_and (ha : PE X a (EvR X.K p f)) (hb : PE X (.BoolOp .And (b :: rest) pos) (EvR X.K q g)) : PE X (.BoolOp .And (a :: b :: rest) pos) (EvR X.K (p && q) (andV f g)) := imp (pe_and ha hb) fun _ _ _ h => h.and_
theorem e_or (ha : PE X a (EvR X.K p f)) (hb : PE X (.BoolOp .Or (b :: rest) pos) (EvR X.K q g)) : PE X (.BoolOp .Or (a :: b :: rest) pos) (EvR X.K (p && q) (orV f g)) := imp (pe_or ha hb) fun _ _ _ h => h.or_
theorem e_not (ha : PE X a (EvR X.K p f)) : PE X (.UnaryOp .Not a pos) (EvR X.K p (notV f)) := imp (pe_not ha) fun _ _ _ h => h.not_
theorem e_if (hc : PT X c (EvT X.K p2 t)) (ha : PE X a (EvR X.K p f)) (hb : PE X b (EvR X.K q g)) : PE X (.IfExp c a b pos) (EvR X.K (p2 && (p && q)) (ifV t f g)) := imp (pe_ifExp hc ha hb) fun _ _ _ h => h.if_
end

/-! ### names and constants -/
def cF (t : PyData) : Ev := fun fr => some (.own (.d t), fr)
/-- a slot of frozen data -/
def datF (i : Nat) : Ev := fun fr => match fr[i]? with
  | some (some (.d t)) => some (.own (.d t), fr)
  | _ => none
/-- a slot's thing, lent -/
def borF (i : Nat) : Ev := fun fr => match fr[i]? with
  | some (some o) => some (.bor o, fr)
  | _ => none
/-- a slot's thing, frozen -/
def shrF (i : Nat) : Ev := fun fr => match fr[i]? with
  | some (some o) => if o.pl = true then some (.own (.d o.data), fr.set i (some (.d o.data))) else none
  | _ => none
/-- a slot's thing, moved out -/
def mvF (i : Nat) : Ev := fun fr => match fr[i]? with
  | some (some o) => some (.own o, fr.set i none)
  | _ => none
def refF (i : Nat) : Ev := fun fr => match fr[i]? with
  | some (some o) => some (.ref i o, fr.set i none)
  | _ => none
section
variable {K : PySem.W.Frag} {σ : Sl} {H : Hp} {Q : VK}
theorem EvR.c_ {v : V} {t : PyData} (hr : ∀ Z, Rp K Z v t) (h : EvR K true (cF t) σ H Q) : tC v σ H Q := by
  obtain ⟨Z, fr, fp, r, fr', w, e, k⟩ := h
  cases e
  exact k Z H v fp ⟨.so (fp := []) (.d (hr Z)) w.rt, w.nd, w.zf, w.zh, w.live⟩ (Ext.refl _ _ _) .own Pu.refl
theorem EvR.dat_ {i : Nat} (h : EvR K true (datF i) σ H Q) : tVar i σ H Q := by
  obtain ⟨Z, fr, fp, r, fr', w, e, k⟩ := h
  unfold datF at e
  split at e
  · rename_i t et
    cases e
    obtain ⟨v, f1, f2, ev, q, p, r2⟩ := w.rt.take et
    cases q with
    | d q => exact ⟨v, ev, k Z H v fp ⟨.so (fp := []) (.d q) w.rt, w.nd, w.zf, w.zh, w.live⟩ (Ext.refl _ _ _) .own Pu.refl⟩
  · cases e
theorem EvR.bor_ {i : Nat} (h : EvR K true (borF i) σ H Q) : tVar i σ H Q := by
  obtain ⟨Z, fr, fp, r, fr', w, e, k⟩ := h
  unfold borF at e
  split at e
  · rename_i o et
    cases e
    obtain ⟨v, f1, f2, ev, q, p, r2⟩ := w.rt.take et
    exact ⟨v, ev, k Z H v fp ⟨.no w.rt, w.nd, w.zf, w.zh, w.live⟩ (Ext.refl _ _ _) (.bor q fun a m => w.live a (p.mem_iff.mpr (List.mem_append_left _ m))) Pu.refl⟩
  · cases e
theorem EvR.shr_ {i : Nat} (h : EvR K false (shrF i) σ H Q) : tVar i σ H Q := by
  obtain ⟨Z, fr, fp, r, fr', w, e, k⟩ := h
  unfold shrF at e
  split at e
  · rename_i o et
    split at e
    · rename_i hpl
      cases e
      obtain ⟨Z', fp', v, ev, rp, w', x⟩ := w.freeze et hpl
      exact ⟨v, ev, k Z' H v fp' ⟨.so (fp := []) (.d rp) w'.rt, w'.nd, w'.zf, w'.zh, w'.live⟩ x .own fun z => nomatch z⟩
    · cases e
  · cases e
theorem EvR.mv_ {i : Nat} (h : EvR K false (mvF i) σ H Q) : tVar i σ H Q := by
  obtain ⟨Z, fr, fp, r, fr', w, e, k⟩ := h
  unfold mvF at e
  split at e
  · rename_i o et
    cases e
    obtain ⟨v, f1, f2, ev, q, p, r2⟩ := w.rt.take et
    exact ⟨v, ev, k Z H v (f1 ++ f2) (w.perm (.so q r2) p.symm) ((Ext.refl _ _ _).perm (fun _ => Iff.rfl) fun a m => p.mem_iff.mpr m) .own fun z => nomatch z⟩
  · cases e
theorem EvR.ref_ {i : Nat} (h : EvR K false (refF i) σ H Q) : tVar i σ H Q := by
  obtain ⟨Z, fr, fp, r, fr', w, e, k⟩ := h
  unfold refF at e
  split at e
  · rename_i o et
    cases e
    obtain ⟨v, f1, f2, ev, q, p, r2⟩ := w.rt.take et
    exact ⟨v, ev, k Z H v (f1 ++ f2) (w.perm (.so q r2) p.symm) ((Ext.refl _ _ _).perm (fun _ => Iff.rfl) fun a m => p.mem_iff.mpr m) (.ref ev) fun z => nomatch z⟩
  · cases e
end
section
variable {X : Cx} {pos : Pos} {x : Str}
theorem e_int {i j} : PE X (.Constant (.int i) j pos) (EvR X.K true (cF (.int i))) := imp pe_int fun _ _ _ h => h.c_ fun _ => .int i
theorem e_bl {b j} : PE X (.Constant (.bool b) j pos) (EvR X.K true (cF (.bool b))) := imp pe_bl fun _ _ _ h => h.c_ fun _ => .bl b
theorem e_non {j} : PE X (.Constant .none j pos) (EvR X.K true (cF .none)) := imp pe_non fun _ _ _ h => h.c_ fun _ => .non
theorem e_str {x j} : PE X (.Constant (.str x) j pos) (EvR X.K true (cF (.str x))) := imp pe_str fun _ _ _ h => h.c_ fun _ => .str x
theorem e_glob {v : V} {u : Value} {t : PyData} (hg : Gl X x) (hm : X.mg x = some u) (r : RelV v u) (hr : ∀ Z, Rp X.K Z v t) (hd : (x == ("__debug__" : Str)) = false := by decide) : PE X (.Name x pos) (EvR X.K true (cF t)) :=
  imp (pe_glob hg hm r hd) fun _ _ _ h => h.c_ hr
section
variable (i : Nat) (hN : X.N[i]? = some x := by rfl) (hv : Vis X.env.scope x := by first | exact Or.inl rfl | exact Or.inr (Or.inl rfl) | exact Or.inr (Or.inr rfl)) (hd : (x == ("__debug__" : Str)) = false := by decide)
    (hcd : (x == ("__classdict__" : Str)) = false := by decide)
include hN hv hd hcd
theorem v_dat : PE X (.Name x pos) (EvR X.K true (datF i)) := imp (pe_var hN hv hd hcd) fun _ _ _ h => h.dat_
theorem v_bor : PE X (.Name x pos) (EvR X.K true (borF i)) := imp (pe_var hN hv hd hcd) fun _ _ _ h => h.bor_
theorem v_shr : PE X (.Name x pos) (EvR X.K false (shrF i)) := imp (pe_var hN hv hd hcd) fun _ _ _ h => h.shr_
theorem v_mv : PE X (.Name x pos) (EvR X.K false (mvF i)) := imp (pe_var hN hv hd hcd) fun _ _ _ h => h.mv_
theorem v_ref : PE X (.Name x pos) (EvR X.K false (refF i)) := imp (pe_var hN hv hd hcd) fun _ _ _ h => h.ref_
end
end
end Bv
set_option Elab.async false
set_option linter.all false
set_option maxRecDepth 100000
/-! Bv3: statements by value. -/
namespace Bv
open PySem PySem.Spec PyProof.Rows L2

inductive Fl where
  | nx | bk | ct
  | rt (o : O)
abbrev Sts := Fr → Option (Fl × Fr)
def Fx (fx : List Nat) (σ σ' : Sl) : Prop := σ'.length = σ.length ∧ ∀ i ∈ fx, σ'[i]? = σ[i]?
def Pst (K : PySem.W.Frag) (D : Ends) (Z' H' : Hp) (σ' : Sl) (fr' : Fr) (fp' : List Addr) : Fl → Prop
  | .nx => Wd K Z' H' σ' fr' fp' → D.nx σ' H'
  | .bk => Wd K Z' H' σ' fr' fp' → D.bk σ' H'
  | .ct => Wd K Z' H' σ' fr' fp' → D.ct σ' H'
  | .rt o => ∀ v, Wd K Z' H' (some v :: σ') (some o :: fr') fp' → D.rt v H'
def StR (K : PySem.W.Frag) (fx : List Nat) (f : Sts) : TS := fun D σ H => ∃ Z fr fp fl fr', Wd K Z H σ fr fp ∧ f fr = some (fl, fr') ∧
  ∀ Z' H' σ' fp', Ext Z H fp Z' H' fp' → Fx fx σ σ' → Pst K D Z' H' σ' fr' fp' fl
theorem Fx.refl {fx : List Nat} {σ : Sl} : Fx fx σ σ := ⟨rfl, fun _ _ => rfl⟩
theorem Fx.trans {fx : List Nat} {σ σ1 σ2 : Sl} (a : Fx fx σ σ1) (b : Fx fx σ1 σ2) : Fx fx σ σ2 := ⟨b.1.trans a.1, fun i m => (b.2 i m).trans (a.2 i m)⟩
theorem Fx.set {fx : List Nat} {σ : Sl} {i : Nat} {x : Option V} (h : i ∉ fx) : Fx fx σ (σ.set i x) := ⟨List.length_set, fun j m => List.getElem?_set_ne fun e => h (by rw [e]; exact m)⟩

def nxF : Sts := fun fr => some (.nx, fr)
def bkF : Sts := fun fr => some (.bk, fr)
def ctF : Sts := fun fr => some (.ct, fr)
def seqF (f g : Sts) : Sts := fun fr => (f fr).bind fun x => match x.1 with
  | .nx => g x.2
  | fl => some (fl, x.2)
def drpF (f : Ev) : Sts := fun fr => (f fr).bind fun x => match x.1 with
  | .ref _ _ => none
  | _ => some (.nx, x.2)
def retF (f : Ev) : Sts := fun fr => (f fr).bind fun x => match x.1 with
  | .own o => some (.rt o, x.2)
  | _ => none
def retN : Sts := fun fr => some (.rt (.d .none), fr)
def iffF (c : Evt) (f g : Sts) : Sts := fun fr => (c fr).bind fun x => if x.1 = true then f x.2 else g x.2
section
variable {K : PySem.W.Frag} {fx : List Nat} {D : Ends} {σ : Sl} {H : Hp}
theorem StR.nx_ (h : StR K fx nxF D σ H) : tNext D σ H := by
  obtain ⟨Z, fr, fp, fl, fr', w, e, k⟩ := h
  cases e
  exact k Z H σ fp (Ext.refl _ _ _) Fx.refl w
theorem StR.bk_ (h : StR K fx bkF D σ H) : tBreak D σ H := by
  obtain ⟨Z, fr, fp, fl, fr', w, e, k⟩ := h
  cases e
  exact k Z H σ fp (Ext.refl _ _ _) Fx.refl w
theorem StR.ct_ (h : StR K fx ctF D σ H) : tCont D σ H := by
  obtain ⟨Z, fr, fp, fl, fr', w, e, k⟩ := h
  cases e
  exact k Z H σ fp (Ext.refl _ _ _) Fx.refl w
theorem StR.seq_ {f g : Sts} (h : StR K fx (seqF f g) D σ H) : tSeq (StR K fx f) (StR K fx g) D σ H := by
  obtain ⟨Z, fr, fp, fl, fr', w, e, k⟩ := h
  unfold seqF at e
  cases ef : f fr with
  | none => rw [ef] at e; cases e
  | some x =>
    obtain ⟨fl1, fr1⟩ := x
    rw [ef] at e
    simp only [Option.bind_some] at e
    refine ⟨Z, fr, fp, fl1, fr1, w, ef, fun Z1 H1 σ1 fp1 x1 e1 => ?_⟩
    cases fl1 with
    | nx => exact fun w1 => ⟨Z1, fr1, fp1, fl, fr', w1, e, fun Z2 H2 σ2 fp2 x2 e2 => k Z2 H2 σ2 fp2 (x1.trans x2) (e1.trans e2)⟩
    | bk => cases e; exact k Z1 H1 σ1 fp1 x1 e1
    | ct => cases e; exact k Z1 H1 σ1 fp1 x1 e1
    | rt o => cases e; exact k Z1 H1 σ1 fp1 x1 e1
theorem StR.if_ {c : Evt} {p : Bool} {f g : Sts} (h : StR K fx (iffF c f g) D σ H) : tIfS (EvT K p c) (StR K fx f) (StR K fx g) D σ H := by
  obtain ⟨Z, fr, fp, fl, fr', w, e, k⟩ := h
  unfold iffF at e
  cases ef : c fr with
  | none => rw [ef] at e; cases e
  | some x =>
    obtain ⟨b, fr1⟩ := x
    rw [ef] at e
    simp only [Option.bind_some] at e
    refine ⟨Z, fr, fp, b, fr1, w, ef, fun Z1 H1 fp1 w1 x1 _ => ?_⟩
    cases b with
    | true =>
      rw [if_pos rfl] at e ⊢
      exact ⟨Z1, fr1, fp1, fl, fr', w1, e, fun Z2 H2 σ2 fp2 x2 e2 => k Z2 H2 σ2 fp2 (x1.trans x2) e2⟩
    | false =>
      rw [if_neg (by decide)] at e ⊢
      exact ⟨Z1, fr1, fp1, fl, fr', w1, e, fun Z2 H2 σ2 fp2 x2 e2 => k Z2 H2 σ2 fp2 (x1.trans x2) e2⟩
/-- the root in front forgotten -/
theorem Wd.tail {Z : Hp} {v : Option V} {o : Option O} {fr : Fr} {fp : List Addr} (w : Wd K Z H (v :: σ) (o :: fr) fp) : ∃ f2, Wd K Z H σ fr f2 ∧ Ext Z H fp Z H f2 := by
  obtain ⟨f1, f2, e1, r1, r2⟩ := Rt.split (τ := [v]) (θ := [o]) rfl w.rt
  exact ⟨f2, w.sub r2 (by rw [e1]), Ext.dropped (f1 := f1) (by rw [e1])⟩
theorem StR.drp_ {p : Bool} {f : Ev} (h : StR K fx (drpF f) D σ H) : tDrop (EvR K p f) D σ H := by
  obtain ⟨Z, fr, fp, fl, fr', w, e, k⟩ := h
  unfold drpF at e
  cases ef : f fr with
  | none => rw [ef] at e; cases e
  | some x =>
    obtain ⟨r, fr1⟩ := x
    rw [ef] at e
    simp only [Option.bind_some] at e
    refine ⟨Z, fr, fp, r, fr1, w, ef, fun Z1 H1 v fp1 w1 x1 b1 pu1 => ?_⟩
    obtain ⟨f2, w2, x2⟩ := w1.tail
    split at e
    · cases e
    · cases e
      exact k Z1 H1 σ f2 (x1.trans x2) Fx.refl w2
theorem StR.ret_ {p : Bool} {f : Ev} (h : StR K fx (retF f) D σ H) : tRet (EvR K p f) D σ H := by
  obtain ⟨Z, fr, fp, fl, fr', w, e, k⟩ := h
  unfold retF at e
  cases ef : f fr with
  | none => rw [ef] at e; cases e
  | some x =>
    obtain ⟨r, fr1⟩ := x
    rw [ef] at e
    simp only [Option.bind_some] at e
    refine ⟨Z, fr, fp, r, fr1, w, ef, fun Z1 H1 v fp1 w1 x1 b1 pu1 => ?_⟩
    split at e
    · cases e
      exact k Z1 H1 σ fp1 x1 Fx.refl v w1
    · cases e
theorem StR.retN_ (h : StR K fx retN D σ H) : tRetN D σ H := by
  obtain ⟨Z, fr, fp, fl, fr', w, e, k⟩ := h
  cases e
  exact k Z H σ fp (Ext.refl _ _ _) Fx.refl .non ⟨.so (fp := []) (.d .non) w.rt, w.nd, w.zf, w.zh, w.live⟩

/-! ### stores -/
/-- the root in front is put into a slot -/
theorem Wd.store {Z : Hp} {v : V} {o : O} {fr : Fr} {fp : List Addr} (i : Nat) (w : Wd K Z H (some v :: σ) (some o :: fr) fp) : ∃ fp', Wd K Z H (σ.set i (some v)) (fr.set i (some o)) fp' ∧ Ext Z H fp Z H fp' := by
  cases w with
  | mk rt nd zf zh live =>
  cases rt with
  | @so _ _ f1 f2 _ _ q r =>
    have w : Wd K Z H (some v :: σ) (some o :: fr) (f1 ++ f2) := ⟨.so q r, nd, zf, zh, live⟩
    obtain ⟨g1, g2, p, r2⟩ := r.drop i
    by_cases hi : i < fr.length
    · have hn : (fr.set i none)[i]? = some none := List.getElem?_set_self hi
      have r3 := r2.set (x := some v) hn
      have hl := r.length
      obtain ⟨fp', p', r4⟩ := r3.put (v := v) hn (List.getElem?_set_self (by omega)) q
      rw [List.set_set] at r4
      have pp : (f1 ++ f2).Perm (g1 ++ fp') := by
        refine (List.Perm.append_left f1 p).trans ?_
        rw [← List.append_assoc]
        refine (List.Perm.append_right g2 List.perm_append_comm).trans ?_
        rw [List.append_assoc]
        exact List.Perm.append_left g1 p'.symm
      exact ⟨fp', w.sub r4 pp, Ext.dropped pp⟩
    · have hl := r.length
      rw [List.set_eq_of_length_le (by omega), List.set_eq_of_length_le (by omega)]
      exact ⟨f2, w.sub r (List.Perm.refl _), Ext.dropped (List.Perm.refl _)⟩
def setF (fx : List Nat) (i : Nat) (f : Ev) : Sts := fun fr => (f fr).bind fun x => match x.1 with
  | .own o => if i ∈ fx then none else some (.nx, x.2.set i (some o))
  | _ => none
theorem StR.set_ {p : Bool} {f : Ev} {i : Nat} (h : StR K fx (setF fx i f) D σ H) : tAsg (EvR K p f) (gName i) D σ H := by
  obtain ⟨Z, fr, fp, fl, fr', w, e, k⟩ := h
  unfold setF at e
  cases ef : f fr with
  | none => rw [ef] at e; cases e
  | some x =>
    obtain ⟨r, fr1⟩ := x
    rw [ef] at e
    simp only [Option.bind_some] at e
    refine ⟨Z, fr, fp, r, fr1, w, ef, fun Z1 H1 v fp1 w1 x1 b1 pu1 => ?_⟩
    split at e
    · split at e
      · cases e
      · rename_i hi
        cases e
        obtain ⟨f2, w2, x2⟩ := w1.store i
        exact k Z1 H1 _ f2 (x1.trans x2) (Fx.set hi) w2
    · cases e
/-- what is given is frozen -/
def frzF (f : Ev) : Ev := fun fr => (f fr).bind fun x => match x.1 with
  | .own o => if o.pl = true then some (.own (.d o.data), x.2) else none
  | _ => none
theorem EvR.frz_ {p : Bool} {f : Ev} {Q : VK} (h : EvR K p (frzF f) σ H Q) : EvR K p f σ H Q := by
  obtain ⟨Z, fr, fp, r, fr', w, e, k⟩ := h
  unfold frzF at e
  cases ef : f fr with
  | none => rw [ef] at e; cases e
  | some x =>
    obtain ⟨r1, fr1⟩ := x
    rw [ef] at e
    simp only [Option.bind_some] at e
    refine ⟨Z, fr, fp, r1, fr1, w, ef, fun Z1 H1 v fp1 w1 x1 b1 pu1 => ?_⟩
    split at e
    · rename_i o
      split at e
      · rename_i hpl
        cases e
        obtain ⟨Z2, fp2, v2, ev, rp, w2, x2⟩ := w1.freeze (i := 0) rfl hpl
        exact k Z2 H1 v fp2 w2 (x1.trans x2) .own pu1
      · cases e
    · cases e
end
section
variable {X : Cx} {fx : List Nat} {e : Expr} {st : Stmt} {rest : List Stmt} {a b : List Stmt} {c : Expr} {pos : Pos} {p : Bool} {f : Ev} {g h : Sts} {t : Evt}
theorem e_frz (he : PE X e (EvR X.K p f)) : PE X e (EvR X.K p (frzF f)) := imp he fun _ _ _ h => h.frz_
theorem ss_nil : PSs X [] (StR X.K fx nxF) := impSs pss_nil fun _ _ _ h => h.nx_
theorem ss_one (h1 : PS X st (StR X.K fx g)) : PSs X [st] (StR X.K fx g) := pss_one h1
theorem ss_cons (h1 : PS X st (StR X.K fx g)) (h2 : PSs X rest (StR X.K fx h)) : PSs X (st :: rest) (StR X.K fx (seqF g h)) := impSs (pss_cons h1 h2) fun _ _ _ h => h.seq_
theorem s_pass : PS X (.Pass pos) (StR X.K fx nxF) := impS ps_pass fun _ _ _ h => h.nx_
theorem s_break : PS X (.Break pos) (StR X.K fx bkF) := impS ps_break fun _ _ _ h => h.bk_
theorem s_continue : PS X (.Continue pos) (StR X.K fx ctF) := impS ps_continue fun _ _ _ h => h.ct_
theorem s_expr (he : PE X e (EvR X.K p f)) (hs : swapsWith e none pos.line X.env = pure false := by rfl) : PS X (.Expr e pos) (StR X.K fx (drpF f)) := impS (ps_expr he hs) fun _ _ _ h => h.drp_
theorem s_ret (he : PE X e (EvR X.K p f)) : PS X (.Return (some e) pos) (StR X.K fx (retF f)) := impS (ps_ret he) fun _ _ _ h => h.ret_
theorem s_retN : PS X (.Return none pos) (StR X.K fx retN) := impS ps_retN fun _ _ _ h => h.retN_
theorem s_if (hc : PT X c (EvT X.K p t)) (ha : PSs X a (StR X.K fx g)) (hb : PSs X b (StR X.K fx h)) : PS X (.If c a b pos) (StR X.K fx (iffF t g h)) := impS (ps_if hc ha hb) fun _ _ _ h => h.if_
theorem s_set {i : Nat} {x : Str} {pos' : Pos} (hN : X.N.Nodup) (hi : X.N[i]? = some x) (hx : Loc X.env.scope x) (he : PE X e (EvR X.K p f)) (hs : swapsWith e (some (.Name x pos')) pos.line X.env = pure false := by rfl) (hf : X.fn x = true ∨ X.env.scope.names.lookup x = some .local := by first | exact .inl rfl | exact .inr rfl | assumption) :
    PS X (.Assign [.Name x pos'] e pos) (StR X.K fx (setF fx i f)) := impS (ps_set hN hi hx he hs hf) fun _ _ _ h => h.set_
end

/-! ### targets -/
def TgR (K : PySem.W.Frag) (fx : List Nat) (h : PyData → Fr → Option Fr) : TG := fun v σ H Q => ∃ Z fr fp t fr', Wd K Z H σ fr fp ∧ Rp K Z v t ∧ h t fr = some fr' ∧
  ∀ σ' fp', Wd K Z H σ' fr' fp' → Ext Z H fp Z H fp' → Fx fx σ σ' → Q σ' H
def TgsR (K : PySem.W.Frag) (fx : List Nat) (h : List PyData → Fr → Option Fr) : TGs := fun vs σ H Q => ∃ Z fr fp ts fr', Wd K Z H σ fr fp ∧ Rps K Z vs ts ∧ h ts fr = some fr' ∧
  ∀ σ' fp', Wd K Z H σ' fr' fp' → Ext Z H fp Z H fp' → Fx fx σ σ' → Q σ' H
def nmT (fx : List Nat) (i : Nat) (t : PyData) (fr : Fr) : Option Fr := if i ∈ fx then none else some (fr.set i (some (.d t)))
def noT (ts : List PyData) (fr : Fr) : Option Fr := match ts with
  | [] => some fr
  | _ => none
def coT (h : PyData → Fr → Option Fr) (hs : List PyData → Fr → Option Fr) (ts : List PyData) (fr : Fr) : Option Fr := match ts with
  | [] => none
  | t :: r => (h t fr).bind fun fr1 => hs r fr1
def tuT (n : Nat) (hs : List PyData → Fr → Option Fr) (t : PyData) (fr : Fr) : Option Fr := match t with
  | .tuple ts => if ts.length = n then hs ts fr else none
  | _ => none
section
variable {K : PySem.W.Frag} {fx : List Nat} {σ : Sl} {H : Hp} {Q : Sl → Hp → Prop}
theorem Wd.front {Z : Hp} {fr : Fr} {fp : List Addr} {v : V} {t : PyData} (w : Wd K Z H σ fr fp) (r : Rp K Z v t) : Wd K Z H (some v :: σ) (some (.d t) :: fr) fp := ⟨.so (fp := []) (.d r) w.rt, w.nd, w.zf, w.zh, w.live⟩
theorem TgR.nm_ {i : Nat} {v : V} (h : TgR K fx (nmT fx i) v σ H Q) : gName i v σ H Q := by
  obtain ⟨Z, fr, fp, t, fr', w, r, e, k⟩ := h
  unfold nmT at e
  split at e
  · cases e
  · rename_i hi
    cases e
    obtain ⟨f2, w2, x2⟩ := (w.front r).store i
    exact k _ f2 w2 x2 (Fx.set hi)
theorem TgsR.no_ {vs : List V} (h : TgsR K fx noT vs σ H Q) : gNil vs σ H Q := by
  obtain ⟨Z, fr, fp, ts, fr', w, r, e, k⟩ := h
  unfold noT at e
  split at e
  · cases e
    cases r
    exact ⟨rfl, k σ fp w (Ext.refl _ _ _) Fx.refl⟩
  · cases e
theorem TgsR.co_ {h1 : PyData → Fr → Option Fr} {hs : List PyData → Fr → Option Fr} {vs : List V} (h : TgsR K fx (coT h1 hs) vs σ H Q) : gCons (TgR K fx h1) (TgsR K fx hs) vs σ H Q := by
  obtain ⟨Z, fr, fp, ts, fr', w, r, e, k⟩ := h
  unfold coT at e
  split at e
  · cases e
  · rename_i t ts
    cases r with
    | @cons v vs _ _ r rs =>
      cases e1 : h1 t fr with
      | none => rw [e1] at e; cases e
      | some fr1 =>
        rw [e1] at e
        simp only [Option.bind_some] at e
        exact ⟨v, vs, rfl, Z, fr, fp, t, fr1, w, r, e1, fun σ1 fp1 w1 x1 f1 => ⟨Z, fr1, fp1, ts, fr', w1, rs, e, fun σ2 fp2 w2 x2 f2 => k σ2 fp2 w2 (x1.trans x2) (f1.trans f2)⟩⟩
theorem TgR.tu_ {n : Nat} {hs : List PyData → Fr → Option Fr} {v : V} (h : TgR K fx (tuT n hs) v σ H Q) : gTup K n (TgsR K fx hs) v σ H Q := by
  obtain ⟨Z, fr, fp, t, fr', w, r, e, k⟩ := h
  unfold tuT at e
  split at e
  · split at e
    · rename_i hn
      cases r with
      | tup q r => exact ⟨_, _, rfl, sqt_mono q w.zh, r.length.trans hn, Z, fr, fp, _, fr', w, r, e, k⟩
    · cases e
  · cases e
end
section
variable {X : Cx} {fx : List Nat} {pos : Pos}
theorem impG {tg : Expr} {t t' : TG} (h : PG X tg t) (k : ∀ v σ H Q, t' v σ H Q → t v σ H Q) : PG X tg t' := ⟨fun pins s σ H v u Q I r q => h.run pins s σ H v u Q I r (k v σ H Q q)⟩
theorem impGs {tg : List Expr} {t t' : TGs} (h : PGs X tg t) (k : ∀ v σ H Q, t' v σ H Q → t v σ H Q) : PGs X tg t' := ⟨fun pins s σ H v u Q I r q => h.run pins s σ H v u Q I r (k v σ H Q q)⟩
theorem g_name {i : Nat} {x : Str} (hN : X.N.Nodup) (hi : X.N[i]? = some x) (hx : Loc X.env.scope x) (hf : X.fn x = true ∨ X.env.scope.names.lookup x = some .local := by first | exact .inl rfl | exact .inr rfl | assumption) : PG X (.Name x pos) (TgR X.K fx (nmT fx i)) :=
  impG (pg_name hN hi hx hf) fun _ _ _ _ h => h.nm_
theorem gs_nil : PGs X [] (TgsR X.K fx noT) := impGs pgs_nil fun _ _ _ _ h => h.no_
theorem gs_cons {e : Expr} {es : List Expr} {h1 : PyData → Fr → Option Fr} {hs : List PyData → Fr → Option Fr} (h : PG X e (TgR X.K fx h1)) (r : PGs X es (TgsR X.K fx hs)) (hs0 : (assignEach (e :: es) X.env).map (·.2) = assign e X.env :: (assignEach es X.env).map (·.2) := by rfl) : PGs X (e :: es) (TgsR X.K fx (coT h1 hs)) :=
  impGs (pgs_cons h r hs0) fun _ _ _ _ h => h.co_
theorem g_tup {es : List Expr} {k : Nat} {n : Nat} {hs : List PyData → Fr → Option Fr} (hc : X.calm = true) (h : PGs X es (TgsR X.K fx hs)) (hn : (assignEach es X.env).length = n := by rfl) (hst : (assignEach es X.env).findIdx? (·.1) = none := by rfl) : PG X (.Tuple es k pos) (TgR X.K fx (tuT n hs)) :=
  impG (pg_tup hc h hn hst) fun _ _ _ _ h => h.tu_
end
def asgF (h : PyData → Fr → Option Fr) (f : Ev) : Sts := fun fr => (f fr).bind fun x => match x.1 with
  | .own (.d t) => (h t x.2).bind fun fr1 => some (.nx, fr1)
  | _ => none
theorem StR.asg_ {K : PySem.W.Frag} {fx : List Nat} {D : Ends} {σ : Sl} {H : Hp} {p : Bool} {f : Ev} {g : PyData → Fr → Option Fr} (h : StR K fx (asgF g f) D σ H) : tAsg (EvR K p f) (TgR K fx g) D σ H := by
  obtain ⟨Z, fr, fp, fl, fr', w, e, k⟩ := h
  unfold asgF at e
  cases ef : f fr with
  | none => rw [ef] at e; cases e
  | some x =>
    obtain ⟨r, fr1⟩ := x
    rw [ef] at e
    simp only [Option.bind_some] at e
    refine ⟨Z, fr, fp, r, fr1, w, ef, fun Z1 H1 v fp1 w1 x1 b1 pu1 => ?_⟩
    split at e
    · rename_i t
      cases eg : g t fr1 with
      | none => rw [eg] at e; cases e
      | some fr2 =>
        rw [eg] at e
        simp only [Option.bind_some, Option.some.injEq, Prod.mk.injEq] at e
        obtain ⟨rfl, rfl⟩ := e
        obtain ⟨f2, w2, x2⟩ := w1.tail
        have rp : Rp K Z1 v t := by
          cases w1.rt with
          | so q _ =>
            cases q with
            | d q => exact q
        exact ⟨Z1, fr1, f2, t, fr2, w2, rp, eg, fun σ3 fp3 w3 x3 f3 => k Z1 H1 σ3 fp3 (x1.trans (x2.trans x3)) f3 w3⟩
    · cases e
section
variable {X : Cx} {fx : List Nat} {e tg : Expr} {pos : Pos} {p : Bool} {f : Ev} {g : PyData → Fr → Option Fr}
theorem s_asg (he : PE X e (EvR X.K p f)) (hg : PG X tg (TgR X.K fx g)) (hs : swapsWithSole [tg] e pos.line X.env = pure false := by rfl) (hw : swappedStores [tg] e X.env = pure none := by rfl)
    (h1 : (assignEach [tg] X.env).map (·.2) = [assign tg X.env] := by rfl) : PS X (.Assign [tg] e pos) (StR X.K fx (asgF g f)) := impS (ps_asg he hg hs hw h1) fun _ _ _ h => h.asg_
end
end Bv
set_option Elab.async false
set_option linter.all false
set_option maxRecDepth 100000
/-! Bv4: defs and their calls by value (no exception leaves; nothing around shows itself). -/
namespace Bv
open PySem PySem.Spec PyProof.Rows L2

/-- as FnOk, where no guard is around (repr asks it) -/
structure FnG (P : Program) (w : World) (K : PySem.W.Frag) (mg : Str → Option Value) (base : Heap) (k : Nat) (f : Addr) (fd : FuncData) (ps : List Str) (sp : Sp) : Prop where
  len : ∀ vs H Q E, sp vs H Q E → vs.length = ps.length
  run : ∀ (A : Around) (outer : List Env) (s : Shared) (H : Hp) (args : Args) (us : List Value) (vs : List V) (Q : VK) (E : XK), Room k A → A.guards = some [] → Env0 P w K mg base A outer s H → BindsTo s fd args (ps.zip us) → Vals vs us →
    sp vs H Q E → codeAny (model P w) A (.call (.ref f) args) (CR CX0 outer P w H s Q E) s

section
variable {P : Program} {w : World} {K : PySem.W.Frag} {mg : Str → Option Value} {base : Heap}
/-- a def by its body -/
theorem fnG_of {k : Nat} {x qual : Str} {st : Stmt} {f : Addr} {fd : FuncData} {N ps : List Str} {sp : Sp} (F : Fun K x qual st f fd) (S : FnScope N ps (defScope st)) (len : ∀ vs H Q E, sp vs H Q E → vs.length = ps.length)
    (hbody : ∀ (cdv : Value) (A : Around) (outer : List Env) (s : Shared) (H : Hp) (vs : List V) (Q : VK) (E : XK), Room k (A.deeper (envOfC qual (defScope st) s.heap.objs.size f cdv)) → A.guards = some [] → sp vs H Q E →
      ∃ t, PSs (cxOf CX0 P w K mg base N qual (defScope st) f cdv A outer s H E).nox (defBody st) t ∧ t { nx := fun _ H' => Q .non H', rt := Q } (L2.start N vs) H) :
    FnG P w K mg base (k + 1) f fd ps sp := by
  obtain ⟨oc, od, kV, doc, pm, an, cdv, ct, osl, rfl, lk, hcd⟩ := F.ex
  refine ⟨len, fun A outer s H args us vs Q E hr hgd e0 hb r hsp => ?_⟩
  have inS : ∀ b o, base.get? b = some o → s.heap.get? b = some o := fun b o e => (e0.bs b o e).1
  have KX : K.In s.heap := e0.mod.kin.keeps inS
  have hkind : ∀ y ∈ ps.zip us, (defScope st).names.lookup y.1 = some .local ∨ ((defScope st).names.lookup y.1 = some .cell ∧ ((cellsFrom (s.heap.objs.size + 1) (defScope st).names []).lookup y.1).isSome = true) := by
    rintro ⟨n, v⟩ hy
    rcases S.par n (List.of_mem_zip hy).1 with q | q
    · exact .inl q
    · exact .inr ⟨q, PySem.W.cellsFrom_some _ _ _ (.inl q)⟩
  refine codeAny_call_function hr.depth (KX _ _ lk) rfl S.co S.gen rfl (PySem.W.codeRec_of KX hcd) (hb _ _ _ _ ?_)
  refine wpAny_newFunctionEnv_cells S.kind hkind fun env he s1 xc => ?_
  subst he
  refine ⟨(e0.mod.nolimit.keeps inS).keeps xc.toInCall.keep, codeAny_func ?_⟩
  obtain ⟨t, ht, hq⟩ := hbody cdv A outer s H vs Q E (hr.deeper _) hgd hsp
  have I := inv_start (CX := CX0) (E := E) (qual := qual) (f := f) (cd := cdv) S hr.hd e0 (len _ _ _ _ hsp) r xc
  refine wpAny_mono (ht.nox.run [] s1 (L2.start N vs) H _ I hq) (fun fl s' hs => ?_) fun e s' hs => hs
  cases fl with
  | ret u =>
    obtain ⟨v, σ', H', J, rv, q⟩ := hs
    exact ⟨v, H', J.os, J.bare, J.base, J.hok, rv, q⟩
  | next =>
    obtain ⟨σ', H', J, q⟩ := hs
    exact ⟨.non, H', J.os, J.bare, J.base, J.hok, rfl, q⟩
  | brk =>
    obtain ⟨_, _, _, q⟩ := hs
    exact q.elim
  | cont =>
    obtain ⟨_, _, _, q⟩ := hs
    exact q.elim
theorem FnG.mono {j k : Nat} {f : Addr} {fd : FuncData} {ps : List Str} {sp : Sp} (F : FnG P w K mg base j f fd ps sp) (h : j ≤ k) : FnG P w K mg base k f fd ps sp :=
  ⟨F.len, fun A outer s H args us vs Q E hr => F.run A outer s H args us vs Q E (hr.mono h)⟩
end

section
variable {X : Cx} {k : Nat} {f : Addr} {fd : FuncData} {ps ks : List Str} {sp : Sp} {x : Str} {p pos : Pos} {e : Expr} {es : List Expr} {kws : List Keyword} {t tk : TA}
theorem endG {pins : List (Addr × Obj)} {σ : Sl} {H : Hp} {s : Shared} {Q : VK} (I : Inv X pins σ H s) : ∀ (r : Result) (s' : Shared), CR CX0 X.stack X.prog X.w H s Q E0 r s' → (match r with | .ok (.ret u) => EP X pins σ Q u s' | _ => False) := fun r s' hq => by
  cases r with
  | error e => exact hq
  | ok fl =>
    cases fl with
    | ret u => exact I.after hq
    | next => exact hq
    | brk => exact hq
    | cont => exact hq
theorem runG {pins : List (Addr × Obj)} {σ : Sl} {H : Hp} {s : Shared} {Q : VK} {us : List Value} {vs : List V} (F : FnG X.prog X.w X.K X.mg X.base k f fd ps sp) (hr : Room k X.A) (hgd : X.A.guards = some []) (hb : Binds X.K fd ps [])
    (I : Inv X pins σ H s) (r : Vals vs us) (h : sp vs H Q E0) : wpAny (model X.prog X.w) X.A (call (.ref f) us) (EP X pins σ Q) X.xe s := by
  have hl : (us ++ []).length = ps.length := by rw [List.append_nil, ← r.length]; exact F.len _ _ _ _ h
  have hbt := hb s us I.kIn hl
  rw [List.append_nil] at hbt
  refine wpAny_call (codeAny_mono (F.run X.A X.stack s H ⟨us, []⟩ us vs Q E0 hr hgd I.env0 hbt r h) fun r s' hq => ?_)
  have q2 := endG I r s' hq
  cases r with
  | error e => exact q2.elim
  | ok fl =>
    cases fl with
    | ret u => exact q2
    | next => exact q2.elim
    | brk => exact q2.elim
    | cont => exact q2.elim
def tCallG (sp : Sp) (t : TA) : TE := fun σ H Q => t σ H fun vs H1 => sp vs H1 Q E0
theorem pe_callG (F : FnG X.prog X.w X.K X.mg X.base k f fd ps sp) (hr : Room k X.A) (hgd : X.A.guards = some []) (hg : Gl X x) (hm : X.mg x = some (.ref f)) (hk : PySem.W.keepIn X.K (.ref f) = true) (hb : Binds X.K fd ps [])
    (ha : PA X (e :: es) t) (hdb : (x == ("__debug__" : Str)) = false := by decide) (he : starEach (e :: es) X.env = (false, eval e X.env) :: starEach es X.env := by rfl) (hpl : (backTo pos (starEach es X.env)).any (·.1) = false := by rfl) :
    PE X (.Call (.Name x p) (e :: es) [] pos) (tCallG sp t) := by
  refine ⟨fun pins s σ H Q I h => wpAny_Call_Name_kw (ld_glob I hg hm ?_ hdb)⟩
  exact PySem.W.callWith_K (h₀ := X.base) I.ok.mod.kin hk (thn (ha.run pos pins s σ H _ I h) fun us s1 ⟨vs, H1, I1, r, q⟩ => ⟨I1.kIn, runG F hr hgd hb I1 r q⟩) he hpl
theorem pe_callG0 (F : FnG X.prog X.w X.K X.mg X.base k f fd ps sp) (hr : Room k X.A) (hgd : X.A.guards = some []) (hg : Gl X x) (hm : X.mg x = some (.ref f)) (hk : PySem.W.keepIn X.K (.ref f) = true) (hb : Binds X.K fd ps [])
    (hdb : (x == ("__debug__" : Str)) = false := by decide) : PE X (.Call (.Name x p) [] [] pos) (tCallG sp tNil) := by
  refine ⟨fun pins s σ H Q I h => wpAny_Call_Name_kw (ld_glob I hg hm ?_ hdb)⟩
  exact PySem.W.callWith_K0 I.kIn hk (runG (us := []) F hr hgd hb I .nil h)
/-- all by keywords: pm the written places of the parameters -/
def permL {α : Type} (pm : List Nat) (xs : List α) : List α := pm.filterMap (xs[·]?)
structure KwB (K : PySem.W.Frag) (fd : FuncData) (ps ks : List Str) (pm : List Nat) : Prop where
  to : ∀ (s : Shared) (ws : List Value), K.In s.heap → ws.length = ks.length → BindsTo s fd ⟨[], ks.zip ws⟩ (ps.zip (permL pm ws))
theorem permL_vals (pm : List Nat) {zs : List V} {ws : List Value} (r : Vals zs ws) : Vals (permL pm zs) (permL pm ws) := by
  unfold permL
  induction pm with
  | nil => exact .nil
  | cons i pm ih =>
    rw [List.filterMap_cons, List.filterMap_cons]
    cases e : zs[i]? with
    | none => rw [r.none_of e]; exact ih
    | some v =>
      obtain ⟨u, h1, h2⟩ := r.get e
      rw [h1]
      exact .cons h2 ih
def tCallGK (sp : Sp) (pm : List Nat) (n : Nat) (tk : TA) : TE := fun σ H Q => tk σ H fun vs H1 => vs.length = n ∧ sp (permL pm vs) H1 Q E0
theorem pe_callGK {pm : List Nat} (F : FnG X.prog X.w X.K X.mg X.base k f fd ps sp) (hr : Room k X.A) (hgd : X.A.guards = some []) (hg : Gl X x) (hm : X.mg x = some (.ref f)) (hk : PySem.W.keepIn X.K (.ref f) = true) (hb : KwB X.K fd ps ks pm)
    (hkw : PK X kws tk) (hall : (backToKw pos (keywordEach kws X.env)).all (·.1.isSome) = true := by rfl) (hks : (backToKw pos (keywordEach kws X.env)).filterMap (·.1) = ks := by rfl)
    (hdb : (x == ("__debug__" : Str)) = false := by decide) (hpl : ((backToKw pos (keywordEach kws X.env)).any (·.1.isNone)) = false := by rfl) : PE X (.Call (.Name x p) [] kws pos) (tCallGK sp pm ks.length tk) := by
  refine ⟨fun pins s σ H Q I h => wpAny_Call_Name_kw (ld_glob I hg hm ?_ hdb)⟩
  refine PySem.W.callWith_KW0 (h₀ := X.base) I.ok.mod.kin hk hall (thn (hkw.run pos pins s σ H _ I h) fun ws s2 ⟨zs, H2, I2, rz, hz, q2⟩ => ⟨I2.kIn, ?_⟩) hpl
  rw [hks]
  have rp := permL_vals pm rz
  refine wpAny_call (codeAny_mono (F.run X.A X.stack s2 H2 ⟨[], ks.zip ws⟩ (permL pm ws) (permL pm zs) Q E0 hr hgd I2.env0 (hb.to s2 ws I2.kIn (by rw [← rz.length]; exact hz)) rp q2) fun r s' hq => ?_)
  have q3 := endG I2 r s' hq
  cases r with
  | error e => exact q3.elim
  | ok fl =>
    cases fl with
    | ret u => exact q3
    | next => exact q3.elim
    | brk => exact q3.elim
    | cont => exact q3.elim
end

/-! ### promises by value -/
abbrev Gf := List O → Option (O × List (Option O))
def SpF (K : PySem.W.Frag) (n : Nat) (G : Gf) : Sp := fun vs H Q _ => ∃ Z os fp o os', Wd K Z H (vs.map some) (os.map some) fp ∧ os.length = n ∧ G os = some (o, os') ∧
  ∀ Z' H' v fp', Wd K Z' H' (some v :: vs.map some) (some o :: os') fp' → Ext Z H fp Z' H' fp' → Q v H'
/-- the things of the parameters at fx, at the end -/
def mskN (fx : List Nat) : Nat → Nat → Fr → Fr
  | _, 0, _ => []
  | i, n + 1, [] => none :: mskN fx (i + 1) n []
  | i, n + 1, o :: fr => (if i ∈ fx then o else none) :: mskN fx (i + 1) n fr
def defF (n m : Nat) (fx : List Nat) (body : Sts) : Gf := fun os => (body (os.map some ++ List.replicate (m - n) none)).bind fun x => match x.1 with
  | .rt o => some (o, mskN fx 0 n x.2)
  | .nx => some (.d .none, mskN fx 0 n x.2)
  | _ => none
section
variable {K : PySem.W.Frag} {Z H : Hp}
theorem Rt.msk {fx : List Nat} : ∀ {n i : Nat} {σ ws : Sl} {fr : Fr} {fp : List Addr}, Rt K Z H σ fp fr → ws.length = n → (∀ j, j < n → i + j ∈ fx → σ[j]? = ws[j]?) → ∃ f1 fp', fp.Perm (f1 ++ fp') ∧ Rt K Z H ws fp' (mskN fx i n fr)
  | 0, i, σ, ws, fr, fp, r, hl, h => by
    have e : ws = [] := List.length_eq_zero_iff.mp hl
    subst e
    exact ⟨fp, [], by rw [List.append_nil], by unfold mskN; exact .nil⟩
  | n + 1, i, σ, [], fr, fp, r, hl, h => by simp at hl
  | n + 1, i, σ, w :: ws, fr, fp, r, hl, h => by
    cases r with
    | nil =>
      obtain ⟨f1, fp', p, r2⟩ := Rt.msk (n := n) (i := i + 1) (σ := []) (ws := ws) (fr := []) (fp := []) (fx := fx) .nil (by simpa using hl) fun j hj hm => by
        have := h (j + 1) (by omega) (by rw [show i + (j + 1) = i + 1 + j by omega]; exact hm)
        simpa using this
      exact ⟨f1, fp', p, by unfold mskN; exact .no r2⟩
    | @no v σ _ fr r =>
      obtain ⟨f1, fp', p, r2⟩ := Rt.msk (i := i + 1) (ws := ws) (fx := fx) r (by simpa using hl) fun j hj hm => by
        have := h (j + 1) (by omega) (by rw [show i + (j + 1) = i + 1 + j by omega]; exact hm)
        simpa using this
      refine ⟨f1, fp', p, ?_⟩
      unfold mskN
      rw [show (if i ∈ fx then (none : Option O) else none) = none by split <;> rfl]
      exact .no r2
    | @so v σ g gs o fr q r =>
      obtain ⟨f1, fp', p, r2⟩ := Rt.msk (i := i + 1) (ws := ws) (fx := fx) r (by simpa using hl) fun j hj hm => by
        have := h (j + 1) (by omega) (by rw [show i + (j + 1) = i + 1 + j by omega]; exact hm)
        simpa using this
      unfold mskN
      by_cases hi : i ∈ fx
      · have e := h 0 (by omega) (by simpa using hi)
        have e : w = some v := by simpa using e.symm
        subst e
        rw [if_pos hi]
        refine ⟨f1, g ++ fp', ?_, .so q r2⟩
        refine (List.Perm.append_left g p).trans ?_
        rw [← List.append_assoc, ← List.append_assoc]
        exact List.Perm.append_right fp' List.perm_append_comm
      · rw [if_neg hi]
        exact ⟨g ++ f1, fp', by rw [List.append_assoc]; exact List.Perm.append_left g p, .no r2⟩
theorem rt_none (n : Nat) {σ : Sl} (h : σ.length = n) : Rt K Z H σ [] (List.replicate n none) := by
  subst h
  induction σ with
  | nil => exact .nil
  | cons v σ ih => exact .no ih
end
/-- THE RULE for a def by value -/
theorem fnG_def {P : Program} {w : World} {K : PySem.W.Frag} {mg : Str → Option Value} {base : Heap} {k : Nat} {x qual : Str} {st : Stmt} {f : Addr} {fd : FuncData} {N ps : List Str} {n m : Nat} {fx : List Nat} {body : Sts}
    (F : Fun K x qual st f fd) (S : FnScope N ps (defScope st)) (hn : ps.length = n) (hm : N.length = m) (hnm : n ≤ m)
    (hbody : ∀ (cdv : Value) (A : Around) (outer : List Env) (s : Shared) (H : Hp) (E : XK), Room k (A.deeper (envOfC qual (defScope st) s.heap.objs.size f cdv)) → A.guards = some [] →
      PSs (cxOf CX0 P w K mg base N qual (defScope st) f cdv A outer s H E).nox (defBody st) (StR K fx body)) :
    FnG P w K mg base (k + 1) f fd ps (SpF K n (defF n m fx body)) := by
  refine fnG_of F S (fun vs H Q E h => ?_) fun cdv A outer s H vs Q E hr hgd h => ⟨_, hbody cdv A outer s H E hr hgd, ?_⟩
  · obtain ⟨Z, os, fp, o, os', w, hl, _, _⟩ := h
    have e := w.rt.length
    rw [List.length_map, List.length_map] at e
    omega
  · obtain ⟨Z, os, fp, o, os', w, hl, e, k⟩ := h
    have el := w.rt.length
    rw [List.length_map, List.length_map] at el
    unfold defF at e
    cases eb : body (os.map some ++ List.replicate (m - n) none) with
    | none => rw [eb] at e; cases e
    | some y =>
      obtain ⟨fl, fr'⟩ := y
      rw [eb] at e
      simp only [Option.bind_some] at e
      have w0 : Wd K Z H (L2.start N vs) (os.map some ++ List.replicate (m - n) none) fp := by
        have r2 := w.rt.append (rt_none (K := K) (Z := Z) (H := H) (m - n) (σ := List.replicate (m - n) none) (by simp))
        rw [List.append_nil] at r2
        refine ⟨?_, w.nd, w.zf, w.zh, w.live⟩
        unfold L2.start
        rw [show N.length - vs.length = m - n by omega]
        exact r2
      refine ⟨Z, _, fp, fl, fr', w0, eb, fun Z1 H1 σ1 fp1 x1 f1 => ?_⟩
      have agree : ∀ j, j < n → 0 + j ∈ fx → σ1[j]? = (vs.map some)[j]? := fun j hj hm => by
        rw [f1.2 j (by simpa using hm)]
        unfold L2.start
        rw [List.getElem?_append_left (by rw [List.length_map]; omega)]
      cases fl with
      | bk => cases e
      | ct => cases e
      | nx =>
        cases e
        intro w1
        obtain ⟨g1, fp2, pm, r2⟩ := w1.rt.msk (fx := fx) (i := 0) (n := n) (ws := vs.map some) (by rw [List.length_map]; omega) agree
        have w2 : Wd K Z1 H1 (vs.map some) (mskN fx 0 n fr') fp2 := w1.sub r2 pm
        exact k Z1 H1 .non fp2 (w2.front .non) (x1.trans (Ext.dropped pm))
      | rt o2 =>
        have e : some (o2, mskN fx 0 n fr') = some (o, os') := e
        obtain ⟨rfl, rfl⟩ := Prod.mk.inj (Option.some.inj e)
        intro v w1
        cases w1 with
        | mk rt nd zf zh live =>
        cases rt with
        | @so _ _ ga gb _ _ q r =>
          obtain ⟨g1, fp2, pm, r2⟩ := r.msk (fx := fx) (i := 0) (n := n) (ws := vs.map some) (by rw [List.length_map]; omega) agree
          have w1 : Wd K Z1 H1 (some v :: σ1) (some o2 :: fr') (ga ++ gb) := ⟨.so q r, nd, zf, zh, live⟩
          have pp : (ga ++ gb).Perm (g1 ++ (ga ++ fp2)) := by
            refine (List.Perm.append_left ga pm).trans ?_
            rw [← List.append_assoc, ← List.append_assoc]
            exact List.Perm.append_right fp2 List.perm_append_comm
          exact k Z1 H1 v (ga ++ fp2) (w1.sub (.so q r2) pp) (x1.trans (Ext.dropped pp))

/-! ### a call by value -/
def putB : List Rs → List (Option O) → Fr → Fr
  | .ref j _ :: rs, some o :: os, fr => match fr[j]? with
    | some none => putB rs os (fr.set j (some o))
    | _ => putB rs os fr
  | _ :: rs, _ :: os, fr => putB rs os fr
  | _, _, fr => fr
theorem put_back {K : PySem.W.Frag} {Z H : Hp} {σ : Sl} : ∀ {rs : List Rs} {os : List (Option O)} {vs : List V} {fr : Fr} {fp : List Addr}, vs.length = os.length → BkA K Z H σ vs rs → Rt K Z H (vs.map some ++ σ) fp (os ++ fr) →
    ∃ f1 fp', fp.Perm (f1 ++ fp') ∧ Rt K Z H σ fp' (putB rs os fr)
  | [], [], [], fr, fp, _, _, r => ⟨[], fp, .refl _, r⟩
  | [], _ :: _, [], _, _, h, _, _ => by simp at h
  | r0 :: rs, [], v :: vs, _, _, h, _, _ => by simp at h
  | r0 :: rs, o :: os, v :: vs, fr, fp, h, .cons b bs, r => by
    have hl : vs.length = os.length := by simpa using h
    cases r with
    | no r =>
      obtain ⟨f1, fp', p, r2⟩ := put_back hl bs r
      refine ⟨f1, fp', p, ?_⟩
      cases r0 <;> exact r2
    | @so _ _ ga gb oo _ q r =>
      have r : Rt K Z H (vs.map some ++ σ) gb (os ++ fr) := r
      have skip : putB (r0 :: rs) (some oo :: os) fr = putB rs os fr → ∃ f1 fp', (ga ++ gb).Perm (f1 ++ fp') ∧ Rt K Z H σ fp' (putB (r0 :: rs) (some oo :: os) fr) := fun e => by
        obtain ⟨f1, fp', p, r2⟩ := put_back hl bs r
        exact ⟨ga ++ f1, fp', by rw [List.append_assoc]; exact List.Perm.append_left ga p, by rw [e]; exact r2⟩
      cases b with
      | own => exact skip rfl
      | bor _ _ => exact skip rfl
      | @ref j o1 ej =>
        cases hj : fr[j]? with
        | none => exact skip (by show (match fr[j]? with | some none => _ | _ => _) = _; rw [hj])
        | some y =>
          cases y with
          | some y => exact skip (by show (match fr[j]? with | some none => _ | _ => _) = _; rw [hj])
          | none =>
            have e1 : putB (.ref j o1 :: rs) (some oo :: os) fr = putB rs os (fr.set j (some oo)) := by
              show (match fr[j]? with | some none => _ | _ => _) = _
              rw [hj]
            obtain ⟨fp3, p3, r3⟩ := r.put (i := os.length + j) (o := oo) (v := v) (f1 := ga) (by rw [List.getElem?_append_right (by omega), Nat.add_sub_cancel_left]; exact hj)
              (by rw [List.getElem?_append_right (by rw [List.length_map]; omega), List.length_map, hl, Nat.add_sub_cancel_left]; exact ej) q
            have e2 : (os ++ fr).set (os.length + j) (some oo) = os ++ fr.set j (some oo) := by
              rw [List.set_append_right _ _ (by omega), Nat.add_sub_cancel_left]
            rw [e2] at r3
            obtain ⟨f1, fp', p, r2⟩ := put_back hl bs r3
            exact ⟨f1, fp', p3.symm.trans p, by rw [e1]; exact r2⟩
theorem BkA.le {K : PySem.W.Frag} {Z H Z' H' : Hp} {σ : Sl} {vs : List V} {rs : List Rs} (b : BkA K Z H σ vs rs) (h : rs.all Rs.stable = true) : BkA K Z' H' σ vs rs := by
  induction b with
  | nil => exact .nil
  | @cons v vs r rs b _ ih =>
    simp only [List.all_cons, Bool.and_eq_true] at h
    refine .cons ?_ (ih h.2)
    cases b with
    | own => exact .own
    | ref e => exact .ref e
    | bor _ _ => exact absurd h.1 (by simp [Rs.stable])
theorem rs_roots : ∀ {rs : List Rs}, rs.all Rs.stable = true → rs.map Rs.root = (rs.map Rs.o).map some
  | [], _ => rfl
  | r :: rs, h => by
    simp only [List.all_cons, Bool.and_eq_true] at h
    rw [List.map_cons, List.map_cons, List.map_cons, rs_roots h.2]
    cases r with
    | own o => rfl
    | ref j o => rfl
    | bor o => exact absurd h.1 (by simp [Rs.stable])
def callF (G : Gf) (f : Eva) : Ev := fun fr => (f fr).bind fun x => if x.1.all Rs.stable = true then (G (x.1.map Rs.o)).bind fun y => some (.own y.1, putB x.1 y.2 x.2) else none
/-- .. all by keywords, data alone -/
def callKF (G : Gf) (pm : List Nat) (f : Eva) : Ev := fun fr => (f fr).bind fun x => if x.1.all (fun r => match r with | .own (.d _) => true | _ => false) = true then (G (permL pm (x.1.map Rs.o))).bind fun y => some (.own y.1, x.2) else none
section
variable {K : PySem.W.Frag} {σ : Sl} {H : Hp} {Q : VK} {p : Bool} {f : Eva}
theorem EvA.call_ {n : Nat} {G : Gf} (hn : ∀ os o os', G os = some (o, os') → os.length = n ∧ os'.length = n) (h : EvR K false (callF G f) σ H Q) : EvA K p f σ H (fun vs H1 => SpF K n G vs H1 Q E0) := by
  obtain ⟨Z, fr, fp, r, fr', w, e, k⟩ := h
  unfold callF at e
  cases ef : f fr with
  | none => rw [ef] at e; cases e
  | some x =>
    obtain ⟨rs, fr1⟩ := x
    rw [ef] at e
    simp only [Option.bind_some] at e
    split at e
    · rename_i hst
      cases eg : G (rs.map Rs.o) with
      | none => rw [eg] at e; cases e
      | some y =>
        obtain ⟨o, os'⟩ := y
        rw [eg] at e
        simp only [Option.bind_some, Option.some.injEq, Prod.mk.injEq] at e
        obtain ⟨rfl, rfl⟩ := e
        refine ⟨Z, fr, fp, rs, fr1, w, ef, fun Z1 H1 vs fp1 w1 x1 b1 _ => ?_⟩
        have hl := b1.length
        have er := rs_roots hst
        rw [er] at w1
        have hgl := hn _ _ _ eg
        obtain ⟨f1, f2, e1, r1, r2⟩ := Rt.split (by simp [hl]) w1.rt
        subst e1
        have nd := List.nodup_append.mp w1.nd
        have wp : Wd K Z1 H1 (vs.map some) ((rs.map Rs.o).map some) f1 := ⟨r1, nd.1, fun a m => w1.zf a (List.mem_append_left _ m), w1.zh, fun a m => w1.live a (List.mem_append_left _ m)⟩
        refine ⟨Z1, rs.map Rs.o, f1, o, os', wp, hgl.1, eg, fun Z2 H2 v fp2 w2 x2 => ?_⟩
        -- the slots' roots stand
        have ne : ∀ a ∈ f2, a ∉ f1 := fun a m m1 => nd.2.2 a m1 a m rfl
        have ne2 : ∀ a ∈ f2, a ∉ fp2 := fun a m m2 => by
          rcases x2.foot a m2 with z | z
          · exact ne a m z
          · exact w1.live a (List.mem_append_right _ m) z
        have r3 : Rt K Z2 H2 σ f2 fr1 := r2.frame (fun a m u e => x2.keep a u e (ne a m)) x2.zz
        cases w2 with
        | mk rt2 nd2 zf2 zh2 live2 =>
        cases rt2 with
        | @so _ _ ga gb _ _ q r4 =>
          have r5 : Rt K Z2 H2 (vs.map some ++ σ) (gb ++ f2) (os' ++ fr1) := r4.append r3
          obtain ⟨g1, fp3, pm, r6⟩ := put_back (rs := rs) (by rw [hl]; have := hgl.1; rw [List.length_map] at this; omega) (b1.le hst) r5
          have big : Wd K Z2 H2 (some v :: (vs.map some ++ σ)) (some o :: (os' ++ fr1)) (ga ++ (gb ++ f2)) := by
            refine ⟨.so q r5, ?_, fun a m => ?_, zh2, fun a m => ?_⟩
            · rw [← List.append_assoc]
              refine List.nodup_append.mpr ⟨nd2, nd.2.1, fun a m b m2 e => ?_⟩
              subst e
              exact ne2 a m2 m
            · rw [← List.append_assoc] at m
              rcases List.mem_append.mp m with m | m
              · exact zf2 a m
              · cases e : Z2 a with
                | none => rfl
                | some u =>
                  rcases x2.zn a (by rw [e]; exact nofun) with z | z | z
                  · exact absurd (w1.zf a (List.mem_append_right _ m)) z
                  · exact absurd z (ne a m)
                  · exact absurd z (w1.live a (List.mem_append_right _ m))
            · rw [← List.append_assoc] at m
              rcases List.mem_append.mp m with m | m
              · exact live2 a m
              · exact x2.live a (w1.live a (List.mem_append_right _ m))
          have pp : (ga ++ (gb ++ f2)).Perm (g1 ++ (ga ++ fp3)) := by
            refine (List.Perm.append_left ga pm).trans ?_
            rw [← List.append_assoc, ← List.append_assoc]
            exact List.Perm.append_right fp3 List.perm_append_comm
          refine k Z2 H2 v (ga ++ fp3) (big.sub (.so q r6) pp) (x1.trans ?_) .own fun z => nomatch z
          have x3 : Ext Z1 H1 (f1 ++ f2) Z2 H2 (ga ++ (gb ++ f2)) := ⟨fun a u e m => x2.keep a u e fun z => m (List.mem_append_left _ z), x2.live, fun a m => by
            rw [← List.append_assoc] at m
            rcases List.mem_append.mp m with m | m
            · exact (x2.foot a m).imp_left (List.mem_append_left _)
            · exact .inl (List.mem_append_right _ m), x2.zz, fun a e => (x2.zn a e).imp_right (Or.imp_left (List.mem_append_left _))⟩
          exact x3.trans (Ext.dropped pp)
    · cases e
end
section
variable {X : Cx} {k : Nat} {f : Addr} {fd : FuncData} {ps : List Str} {n : Nat} {G : Gf} {x : Str} {p pos : Pos} {e : Expr} {es : List Expr} {fa : Eva} {pa : Bool}
theorem e_call (F : FnG X.prog X.w X.K X.mg X.base k f fd ps (SpF X.K n G)) (hn : ∀ os o os', G os = some (o, os') → os.length = n ∧ os'.length = n) (hr : Room k X.A) (hgd : X.A.guards = some []) (hg : Gl X x) (hm : X.mg x = some (.ref f)) (hk : PySem.W.keepIn X.K (.ref f) = true)
    (hb : Binds X.K fd ps []) (ha : PA X (e :: es) (EvA X.K pa fa)) (hdb : (x == ("__debug__" : Str)) = false := by decide) (he : starEach (e :: es) X.env = (false, eval e X.env) :: starEach es X.env := by rfl) (hpl : (backTo pos (starEach es X.env)).any (·.1) = false := by rfl) :
    PE X (.Call (.Name x p) (e :: es) [] pos) (EvR X.K false (callF G fa)) := imp (pe_callG F hr hgd hg hm hk hb ha hdb he hpl) fun _ _ _ h => EvA.call_ hn h
end
theorem mskN_len (fx : List Nat) : ∀ (n i : Nat) (fr : Fr), (mskN fx i n fr).length = n
  | 0, _, _ => rfl
  | n + 1, i, [] => by unfold mskN; rw [List.length_cons, mskN_len fx n]
  | n + 1, i, o :: fr => by unfold mskN; rw [List.length_cons, mskN_len fx n]
end Bv
set_option Elab.async false
set_option linter.all false
set_option maxRecDepth 100000
/-! Bv5: loops by value. -/
namespace Bv
open PySem PySem.Spec PyProof.Rows L2

/-! ### what is walked -/
structure Jok (K : PySem.W.Frag) (J : It) (Z0 : Hp) (τ : Sl) (θ : Fr) (ts : List PyData) : Prop where
  go : ∀ Z H fp i, Wd K Z H τ θ fp → Same Z0 Z → i < ts.length → J.go i H
  yld : ∀ Z H fp i x H', Wd K Z H τ θ fp → Same Z0 Z → i < ts.length → J.yld i H x H' → ∃ t Z', ts[i]? = some t ∧ New K Z H Z' H' x [] (.d t)
  stop : ∀ Z H fp i, Wd K Z H τ θ fp → Same Z0 Z → ts.length ≤ i → J.stop i H
abbrev Evi := Fr → Option (List PyData × Fr)
def IvR (K : PySem.W.Frag) (f : Evi) : TI := fun σ H R => ∃ Z fr fp ts fr', Wd K Z H σ fr fp ∧ f fr = some (ts, fr') ∧
  ∀ J Z' H' τ θ fp', τ.length = θ.length → Wd K Z' H' (τ ++ σ) (θ ++ fr') fp' → Ext Z H fp Z' H' fp' → Jok K J Z' τ θ ts → R J H'
theorem impI {X : Cx} {tg e : Expr} {t t' : TI} (h : PI X tg e t) (k : ∀ σ H R, t' σ H R → t σ H R) : PI X tg e t' := ⟨fun pins s σ H R I q => h.run pins s σ H R I (k σ H R q)⟩

theorem Rps.get {K : PySem.W.Frag} {Z : Hp} : ∀ {vs : List V} {ts : List PyData} {i : Nat} {x : V}, Rps K Z vs ts → vs[i]? = some x → ∃ t, ts[i]? = some t ∧ Rp K Z x t
  | _, _, _, _, .nil, e => by simp at e
  | _, _, 0, _, .cons r _, e => by simp at e; subst e; exact ⟨_, rfl, r⟩
  | _, _, i + 1, x, .cons _ t, e => by
    obtain ⟨u, h1, h2⟩ := Rps.get (i := i) (x := x) t (by simpa using e)
    exact ⟨u, by simpa using h1, h2⟩
/-- all things are frozen data -/
def allD : List O → Option (List PyData)
  | [] => some []
  | .d t :: os => (allD os).bind fun ts => some (t :: ts)
  | _ :: _ => none
theorem allD_some : ∀ {os : List O} {ts : List PyData}, allD os = some ts → os = ts.map O.d
  | [], ts, h => by cases h; rfl
  | .d t :: os, ts, h => by
    unfold allD at h
    cases e : allD os with
    | none => rw [e] at h; cases h
    | some us =>
      rw [e] at h
      simp only [Option.bind_some, Option.some.injEq] at h
      subst h
      rw [allD_some e]; rfl
  | .l _ :: _, _, h => by cases h
  | .m _ _ :: _, _, h => by cases h
  | .mt _ _ :: _, _, h => by cases h
  | .sc _ :: _, _, h => by cases h
theorem allD_map (ts : List PyData) : allD (ts.map O.d) = some ts := by
  induction ts with
  | nil => rfl
  | cons t ts ih => show ((allD (ts.map O.d)).bind fun us => some (t :: us)) = _; rw [ih]; rfl
theorem ros_d {K : PySem.W.Frag} {Z H : Hp} : ∀ {ts : List PyData} {vs : List V} {fp : List Addr}, Ros K Z H vs fp (ts.map O.d) → Rps K Z vs ts ∧ fp = []
  | [], _, _, h => by cases h; exact ⟨.nil, rfl⟩
  | t :: ts, _, _, h => by
    cases h with
    | cons q r =>
      cases q with
      | d q =>
        obtain ⟨h1, h2⟩ := ros_d r
        exact ⟨.cons q h1, by rw [h2]; rfl⟩
/-- the items of a list or a tuple -/
def itemsO : O → Option (List PyData)
  | .d (.list ts) => some ts
  | .d (.tuple ts) => some ts
  | .l os => allD os
  | _ => none
def seqI (f : Ev) : Evi := fun fr => (f fr).bind fun x => if x.1.stable = true then (itemsO x.1.o).bind fun ts => some (ts, x.2) else none
def iSeq (K : PySem.W.Frag) (tl : TE) : TI := fun σ H R => tl σ H fun x H1 => ∃ a, x = .ref a ∧ (((∃ xs, SqL K H1 a xs) ∧ R (Itl K a) H1) ∨ ((∃ xs, SqT K H1 a xs) ∧ R (Itt K a) H1))
theorem pi_seq {X : Cx} {tg l : Expr} {tl : TE} (hl : PE X l tl) : PI X tg l (iSeq X.K tl) := by
  refine ⟨fun pins s σ H R I h => ?_⟩
  refine thn (hl.run pins s σ H _ I h) fun v s1 ⟨x, H1, I1, r1, q1⟩ => ?_
  obtain ⟨a, e, q⟩ := q1
  subst e
  cases r1
  have fresh : ∀ {it : Addr}, it ∈ [s1.heap.objs.size] → FpOk X pins H1 it := fun hb => by
    rw [List.mem_singleton.mp hb]
    exact I1.fpOk (Nat.le_refl _) (I1.hok.fresh (Nat.le_refl _))
  rcases q with ⟨⟨xs, hq⟩, q⟩ | ⟨⟨xs, hq⟩, q⟩
  · obtain ⟨its, rv, p, hz⟩ := I1.list hq
    exact wpAny_pyIter_list p.isList ⟨_, [s1.heap.objs.size], _, _, H1, rfl, I1.kept (t' := s1.toks) fun b o e => Heap.get?_push_of_some _ e, turn_list a _, ⟨_, Heap.get?_push_size _ rfl, rfl, rfl⟩, fun _ => fresh, q⟩
  · obtain ⟨its, rv, p, hz⟩ := I1.tuple hq
    exact wpAny_pyIter_tuple p ⟨_, [s1.heap.objs.size], _, _, H1, rfl, I1.kept (t' := s1.toks) fun b o e => Heap.get?_push_of_some _ e, turn_tuple a _, ⟨_, Heap.get?_push_size _ rfl, rfl, rfl⟩, fun _ => fresh, q⟩
section
variable {K : PySem.W.Frag} {Z Z' H H' : Hp}
theorem New.same0 {v : V} {t : PyData} (zh : Same Z H) (h : Rp K Z v t) : New K Z H Z H v [] (.d t) := New.flat zh h
theorem sql_inj {a : Addr} {xs : List V} (h : H a = some (.lst xs)) {ys : List V} (q : ∀ ys, SqL K H a ys → ys[0]? = ys[0]?) : True := trivial
/-- an owned list of frozen items -/
theorem Jok.own {a : Addr} {ts : List PyData} {Z0 : Hp} : Jok K (Itl K a) Z0 [some (.ref a)] [some (.l (ts.map O.d))] ts := by
  have get : ∀ {Z H : Hp} {fp : List Addr}, Wd K Z H [some (.ref a)] [some (.l (ts.map O.d))] fp → ∃ vs, H a = some (.lst vs) ∧ Rps K Z vs ts := fun w => by
    cases w.rt with
    | so q _ =>
      cases q with
      | l e r => exact ⟨_, e, (ros_d r).1⟩
  refine ⟨fun Z H fp i w _ hi => ?_, fun Z H fp i x H' w _ _ y => ?_, fun Z H fp i w _ hi => ?_⟩
  · obtain ⟨vs, e, r⟩ := get w
    have hl := r.length
    exact ⟨vs, vs[i], SqL.of e, List.getElem?_eq_getElem (by omega)⟩
  · obtain ⟨vs, e, r⟩ := get w
    obtain ⟨rfl, y⟩ := y
    obtain ⟨t, h1, h2⟩ := r.get (y vs (SqL.of e))
    exact ⟨t, Z, h1, New.flat w.zh h2⟩
  · obtain ⟨vs, e, r⟩ := get w
    have hl := r.length
    exact ⟨vs, SqL.of e, by omega⟩
theorem Jok.froz {a : Addr} {vs : List V} {ts : List PyData} {Z0 : Hp} (e : Z0 a = some (.lst vs)) (r : Rps K Z0 vs ts) : Jok K (Itl K a) Z0 [] [] ts := by
  have hl := r.length
  refine ⟨fun Z H fp i w s hi => ?_, fun Z H fp i x H' w s hi y => ?_, fun Z H fp i w s hi => ?_⟩
  · exact ⟨vs, vs[i], SqL.of (w.zh _ _ (s _ _ e)), List.getElem?_eq_getElem (by omega)⟩
  · obtain ⟨rfl, y⟩ := y
    obtain ⟨t, h1, h2⟩ := r.get (y vs (SqL.of (w.zh _ _ (s _ _ e))))
    exact ⟨t, Z, h1, New.flat w.zh (h2.mono s)⟩
  · exact ⟨vs, SqL.of (w.zh _ _ (s _ _ e)), by omega⟩
theorem Jok.tup {a : Addr} {vs : List V} {ts : List PyData} {Z0 : Hp} (e : SqT K Z0 a vs) (r : Rps K Z0 vs ts) : Jok K (Itt K a) Z0 [] [] ts := by
  have hl := r.length
  refine ⟨fun Z H fp i w s hi => ?_, fun Z H fp i x H' w s hi y => ?_, fun Z H fp i w s hi => ?_⟩
  · exact ⟨vs, vs[i], sqt_mono e (s.trans w.zh), List.getElem?_eq_getElem (by omega)⟩
  · obtain ⟨rfl, y⟩ := y
    obtain ⟨t, h1, h2⟩ := r.get (y vs (sqt_mono e (s.trans w.zh)))
    exact ⟨t, Z, h1, New.flat w.zh (h2.mono s)⟩
  · exact ⟨vs, sqt_mono e (s.trans w.zh), by omega⟩
theorem IvR.seq_ {p : Bool} {f : Ev} {σ : Sl} {R : It → Hp → Prop} (h : IvR K (seqI f) σ H R) : iSeq K (EvR K p f) σ H R := by
  obtain ⟨Z, fr, fp, ts, fr', w, e, k⟩ := h
  unfold seqI at e
  cases ef : f fr with
  | none => rw [ef] at e; cases e
  | some x =>
    obtain ⟨r, fr1⟩ := x
    rw [ef] at e
    simp only [Option.bind_some] at e
    split at e
    · rename_i hst
      cases ei : itemsO r.o with
      | none => rw [ei] at e; cases e
      | some us =>
        rw [ei] at e
        simp only [Option.bind_some, Option.some.injEq, Prod.mk.injEq] at e
        obtain ⟨rfl, rfl⟩ := e
        refine ⟨Z, fr, fp, r, fr1, w, ef, fun Z1 H1 v fp1 w1 x1 b1 _ => ?_⟩
        have hro : r.root = some r.o := by
          cases r with
          | own o => rfl
          | ref j o => rfl
          | bor o => exact absurd hst (by simp [Rs.stable])
        rw [hro] at w1
        generalize r.o = o at ei w1
        obtain ⟨f2, w2, x2⟩ := w1.tail
        cases o with
        | d t =>
          have rp : Rp K Z1 v t := by
            cases w1.rt with
            | so q _ =>
              cases q with
              | d q => exact q
          cases t with
          | list l =>
            cases ei
            cases rp with
            | @lst a vs _ e r => exact ⟨a, rfl, .inl ⟨⟨vs, SqL.of (w1.zh _ _ e)⟩, k _ Z1 H1 [] [] f2 rfl w2 (x1.trans x2) (.froz e r)⟩⟩
          | tuple l =>
            cases ei
            cases rp with
            | @tup a vs _ e r => exact ⟨a, rfl, .inr ⟨⟨vs, sqt_mono e w1.zh⟩, k _ Z1 H1 [] [] f2 rfl w2 (x1.trans x2) (.tup e r)⟩⟩
          | none => cases ei
          | bool b => cases ei
          | int i => cases ei
          | str x => cases ei
          | dict kvs => cases ei
        | l os =>
          have e3 := allD_some (show allD os = some us from ei)
          subst e3
          cases w1 with
          | mk rt nd zf zh live =>
          cases rt with
          | @so _ _ ga gb _ _ q r =>
            cases q with
            | @l a vs g _ e r2 =>
              exact ⟨a, rfl, .inl ⟨⟨vs, SqL.of e⟩, k _ Z1 H1 [some (.ref a)] [some (.l (us.map O.d))] _ rfl ⟨.so (.l e r2) r, nd, zf, zh, live⟩ x1 .own⟩⟩
        | m ks xs => cases ei
        | mt ks xs => cases ei
        | sc ns => cases ei
    · cases e
end
theorem i_seq {X : Cx} {tg e : Expr} {p : Bool} {f : Ev} (h : PE X e (EvR X.K p f)) : PI X tg e (IvR X.K (seqI f)) := impI (pi_seq h) fun _ _ _ q => q.seq_

/-! range -/
def intO : O → Option Int
  | .d (.int i) => some i
  | _ => none
def intsFrom (lo : Int) (n : Nat) : List PyData := (List.range n).map fun i => .int (lo + (i : Nat))
theorem Jok.rng {K : PySem.W.Frag} {Z0 : Hp} (lo : Int) (n : Nat) : Jok K (Itr lo n) Z0 [] [] (intsFrom lo n) := by
  have hl : (intsFrom lo n).length = n := by unfold intsFrom; simp
  refine ⟨fun Z H fp i w s hi => (show i < n by omega), fun Z H fp i x H' w s hi y => ?_, fun Z H fp i w s hi => (show n ≤ i by omega)⟩
  obtain ⟨rfl, rfl⟩ := y
  refine ⟨.int (lo + (i : Nat)), Z, ?_, New.flat w.zh (.int _)⟩
  unfold intsFrom
  rw [List.getElem?_map, List.getElem?_range (by omega)]
  rfl
def rng1 (f : Eva) : Evi := fun fr => (f fr).bind fun x => match x.1.map Rs.o with
  | [.d (.int j)] => if -(2 ^ 62) ≤ j ∧ j < 2 ^ 62 then some (intsFrom 0 j.toNat, x.2) else none
  | _ => none
def rng2 (f : Eva) : Evi := fun fr => (f fr).bind fun x => match x.1.map Rs.o with
  | [.d (.int i), .d (.int j)] => if -(2 ^ 62) ≤ i ∧ i < 2 ^ 62 ∧ -(2 ^ 62) ≤ j ∧ j < 2 ^ 62 then some (intsFrom i (j - i).toNat, x.2) else none
  | _ => none

theorem EvA.ints_ {K : PySem.W.Frag} {p : Bool} {f : Eva} {σ : Sl} {H : Hp} {Z : Hp} {fr fr1 : Fr} {fp : List Addr} {rs : List Rs} (w : Wd K Z H σ fr fp) (ef : f fr = some (rs, fr1)) {Q : List V → Hp → Prop}
    (k : ∀ Z1 H1 vs f2, Wd K Z1 H1 σ fr1 f2 → Ext Z H fp Z1 H1 f2 → Rd2 K Z1 H1 vs (rs.map Rs.o) → Q vs H1) : EvA K p f σ H Q := by
  refine ⟨Z, fr, fp, rs, fr1, w, ef, fun Z1 H1 vs fp1 w1 x1 b1 _ => ?_⟩
  obtain ⟨f1, f2, e1, r1, r2⟩ := Rt.split (by simp [b1.length]) w1.rt
  exact k Z1 H1 vs f2 (w1.sub r2 (by rw [e1])) (x1.trans (Ext.dropped (f1 := f1) (by rw [e1]))) (rt_prefix w1.rt b1)
theorem rd_int {K : PySem.W.Frag} {Z H : Hp} {v : V} {i : Int} {fp : List Addr} (h : Ro K Z H v fp (.d (.int i))) : v = .int i := by
  cases h with
  | d h => cases h; rfl
theorem IvR.rng1_ {K : PySem.W.Frag} {p : Bool} {f : Eva} {σ : Sl} {H : Hp} {R : It → Hp → Prop} (h : IvR K (rng1 f) σ H R) : iRng1 (EvA K p f) σ H R := by
  obtain ⟨Z, fr, fp, ts, fr', w, e, k⟩ := h
  unfold rng1 at e
  cases ef : f fr with
  | none => rw [ef] at e; cases e
  | some x =>
    obtain ⟨rs, fr1⟩ := x
    rw [ef] at e
    simp only [Option.bind_some] at e
    refine EvA.ints_ w ef fun Z1 H1 vs f2 w1 x1 rd => ?_
    generalize rs.map Rs.o = os at e rd
    split at e
    · rename_i j
      split at e
      · rename_i hj
        cases e
        cases rd with
        | cons q r =>
          cases r
          obtain ⟨_, q⟩ := q
          obtain rfl := rd_int q
          exact ⟨j, rfl, hj.1, hj.2, k _ Z1 H1 [] [] f2 rfl w1 x1 (.rng 0 _)⟩
      · cases e
    · cases e
theorem IvR.rng2_ {K : PySem.W.Frag} {p : Bool} {f : Eva} {σ : Sl} {H : Hp} {R : It → Hp → Prop} (h : IvR K (rng2 f) σ H R) : iRng2 (EvA K p f) σ H R := by
  obtain ⟨Z, fr, fp, ts, fr', w, e, k⟩ := h
  unfold rng2 at e
  cases ef : f fr with
  | none => rw [ef] at e; cases e
  | some x =>
    obtain ⟨rs, fr1⟩ := x
    rw [ef] at e
    simp only [Option.bind_some] at e
    refine EvA.ints_ w ef fun Z1 H1 vs f2 w1 x1 rd => ?_
    generalize rs.map Rs.o = os at e rd
    split at e
    · rename_i i j
      split at e
      · rename_i hj
        cases e
        cases rd with
        | cons q r =>
          cases r with
          | cons q2 r =>
            cases r
            obtain ⟨_, q⟩ := q
            obtain ⟨_, q2⟩ := q2
            obtain rfl := rd_int q
            obtain rfl := rd_int q2
            exact ⟨i, j, rfl, hj, k _ Z1 H1 [] [] f2 rfl w1 x1 (.rng i _)⟩
      · cases e
    · cases e
section
variable {X : Cx} {tg a b : Expr} {fa : Eva} {pa : Bool} {p pos : Pos}
theorem i_rng1 (hg : Gl X "range") (hm : X.mg "range" = none) (ha : PA X [a] (EvA X.K pa fa)) (hs : starEach [a] X.env = [(false, eval a X.env)] := by rfl) : PI X tg (.Call (.Name "range" p) [a] [] pos) (IvR X.K (rng1 fa)) :=
  impI (pi_range1 hg hm ha hs) fun _ _ _ q => q.rng1_
theorem i_rng2 (hg : Gl X "range") (hm : X.mg "range" = none) (ha : PA X [a, b] (EvA X.K pa fa)) (hs : starEach [a, b] X.env = [(false, eval a X.env), (false, eval b X.env)] := by rfl) (hs2 : starEach [b] X.env = [(false, eval b X.env)] := by rfl) :
    PI X tg (.Call (.Name "range" p) [a, b] [] pos) (IvR X.K (rng2 fa)) := impI (pi_range2 hg hm ha hs hs2) fun _ _ _ q => q.rng2_
end

theorem Wd.pre {K : PySem.W.Frag} {Z H : Hp} {τ σ : List (Option V)} {θ fr : List (Option O)} {fp : List Addr} (w : Wd K Z H (τ ++ σ) (θ ++ fr) fp) (h : τ.length = θ.length) : ∃ f1, Wd K Z H τ θ f1 := by
  obtain ⟨f1, f2, e, r1, r2⟩ := Rt.split h w.rt
  subst e
  exact ⟨f1, r1, (List.nodup_append.mp w.nd).1, fun a m => w.zf a (List.mem_append_left _ m), w.zh, fun a m => w.live a (List.mem_append_left _ m)⟩
/-! ### for -/
def forL (tgt : PyData → Fr → Option Fr) (body : Sts) : List PyData → Fr → Option (Fl × Fr)
  | [], fr => some (.nx, fr)
  | t :: ts, fr => (tgt t fr).bind fun fr1 => (body fr1).bind fun x => match x.1 with
    | .nx => forL tgt body ts x.2
    | .ct => forL tgt body ts x.2
    | .bk => some (.nx, x.2)
    | .rt o => some (.rt o, x.2)
def forF (it : Evi) (tgt : PyData → Fr → Option Fr) (body : Sts) : Sts := fun fr => (it fr).bind fun x => forL tgt body x.1 x.2
theorem StR.for_ {K : PySem.W.Frag} {fx : List Nat} {D : Ends} {σ0 : Sl} {H0 : Hp} {it : Evi} {tgt : PyData → Fr → Option Fr} {body : Sts} (h : StR K fx (forF it tgt body) D σ0 H0) : tFor (IvR K it) (TgR K fx tgt) (StR K fx body) D σ0 H0 := by
  obtain ⟨Z, fr, fp, fl, fr', w, e, k⟩ := h
  unfold forF at e
  cases ef : it fr with
  | none => rw [ef] at e; cases e
  | some x =>
    obtain ⟨ts, fr1⟩ := x
    rw [ef] at e
    simp only [Option.bind_some] at e
    refine ⟨Z, fr, fp, ts, fr1, w, ef, fun J Z1 H1 τ θ fp1 hτ w1 x1 jok => ?_⟩
    refine ⟨fun i m σ H => i + m = ts.length ∧ ∃ Zi fri fpi, Wd K Zi H (τ ++ σ) (θ ++ fri) fpi ∧ Ext Z H0 fp Zi H fpi ∧ Same Z1 Zi ∧ Fx fx σ0 σ ∧ forL tgt body (ts.drop i) fri = some (fl, fr'),
      ⟨ts.length, by omega, Z1, fr1, fp1, w1, x1, fun _ _ e => e, Fx.refl, e⟩, ?_⟩
    rintro i m σ H ⟨him, Zi, fri, fpi, wi, xi, si, fi, ei⟩
    obtain ⟨g0, wp⟩ := wi.pre hτ
    by_cases hi : i < ts.length
    · rw [List.drop_eq_getElem_cons hi] at ei
      refine .inr ⟨jok.go Zi H g0 i wp si hi, fun σ' H' => (i + 1) + (m - 1) = ts.length ∧ ∃ Zi fri fpi, Wd K Zi H' (τ ++ σ') (θ ++ fri) fpi ∧ Ext Z H0 fp Zi H' fpi ∧ Same Z1 Zi ∧ Fx fx σ0 σ' ∧ forL tgt body (ts.drop (i + 1)) fri = some (fl, fr'),
        fun σ' H' q => ⟨m - 1, by omega, q⟩, fun x H' y => ?_⟩
      obtain ⟨t, Z2, et, nw⟩ := jok.yld Zi H g0 i x H' wp si hi y
      rw [List.getElem?_eq_getElem hi] at et
      have et := Option.some.inj et
      subst et
      obtain ⟨w2, x2⟩ := wi.new nw
      obtain ⟨f1, f2, e2, wt, glue⟩ := Wd.under (τ := some x :: τ) (θ := some (.d ts[i]) :: θ) w2 (by simp [hτ])
      have rp : Rp K Z2 x ts[i] := by
        cases nw.ro with
        | d q => exact q
      unfold forL at ei
      cases e3 : tgt ts[i] fri with
      | none => rw [e3] at ei; cases ei
      | some frt =>
        rw [e3] at ei
        simp only [Option.bind_some] at ei
        cases e4 : body frt with
        | none => rw [e4] at ei; cases ei
        | some y =>
          obtain ⟨fl1, fr2⟩ := y
          rw [e4] at ei
          simp only [Option.bind_some] at ei
          refine ⟨Z2, fri, f2, ts[i], frt, wt, rp, e3, fun σ2 fp2 w3 x3 f3 => ⟨Z2, frt, fp2, fl1, fr2, w3, e4, fun Z3 H3 σ3 fp3 x4 f4 => ?_⟩⟩
          have x5 := x3.trans x4
          have nxt : Wd K Z3 H3 σ3 fr2 fp3 → ∃ fpi, Wd K Z3 H3 (τ ++ σ3) (θ ++ fr2) fpi ∧ Ext Z H0 fp Z3 H3 fpi := fun w4 => by
            obtain ⟨w5, x6⟩ := glue Z3 H3 σ3 fr2 fp3 w4 x5
            obtain ⟨g2, w6, x7⟩ := w5.tail
            exact ⟨g2, w6, xi.trans (x2.trans (x6.trans x7))⟩
          have gone : Wd K Z3 H3 σ3 fr2 fp3 → Ext Z H0 fp Z3 H3 fp3 := fun w4 => by
            obtain ⟨w5, x6⟩ := glue Z3 H3 σ3 fr2 fp3 w4 x5
            exact xi.trans (x2.trans (x6.trans (Ext.dropped (List.Perm.refl _))))
          have zz : Same Z1 Z3 := (si.trans nw.zz).trans x5.zz
          cases fl1 with
          | nx =>
            intro w4
            obtain ⟨g2, w6, x8⟩ := nxt w4
            exact ⟨by omega, Z3, fr2, g2, w6, x8, zz, fi.trans (f3.trans f4), ei⟩
          | ct =>
            intro w4
            obtain ⟨g2, w6, x8⟩ := nxt w4
            exact ⟨by omega, Z3, fr2, g2, w6, x8, zz, fi.trans (f3.trans f4), ei⟩
          | bk =>
            intro w4
            cases ei
            exact k Z3 H3 σ3 fp3 (gone w4) (fi.trans (f3.trans f4)) w4
          | rt o =>
            intro v w4
            have ei : some (Fl.rt o, fr2) = some (fl, fr') := ei
            obtain ⟨rfl, rfl⟩ := Prod.mk.inj (Option.some.inj ei)
            -- the value in front
            have w4' : Wd K Z3 H3 ([some v] ++ σ3) ([some o] ++ fr2) fp3 := w4
            obtain ⟨ga, gb, e5, wb, _⟩ := w4'.under rfl
            have x6 : Ext Z2 H' f2 Z3 H3 fp3 := x5
            obtain ⟨w5, x7⟩ := glue Z3 H3 (some v :: σ3) (some o :: fr2) fp3 w4 x6
            exact k Z3 H3 σ3 fp3 (xi.trans (x2.trans (x7.trans (Ext.dropped (List.Perm.refl _))))) (fi.trans (f3.trans f4)) v w4
    · rw [List.drop_of_length_le (by omega)] at ei
      unfold forL at ei
      cases ei
      obtain ⟨f1, f2, e2, wt, glue⟩ := wi.under hτ
      exact .inl ⟨jok.stop Zi H g0 i wp si (by omega), k Zi H σ f2 (xi.trans (Ext.dropped (f1 := f1) (by rw [e2]))) fi wt⟩
section
variable {X : Cx} {fx : List Nat} {tg iter : Expr} {body : List Stmt} {pos : Pos} {it : Evi} {tgt : PyData → Fr → Option Fr} {b : Sts}
theorem s_for (hc : X.calm = true) (hp : PassesOwn (model X.prog X.w) X.A X.env X.xe) (hi : PI X tg iter (IvR X.K it)) (hg : PG X tg (TgR X.K fx tgt)) (hb : PSs X body (StR X.K fx b)) (hs : ∀ x, foldedSetIterable iter X.env x = pure x := by intro _; rfl) : PS X (.For tg iter body [] pos) (StR X.K fx (forF it tgt b)) :=
  impS (ps_for hp hc hi hg hb hs) fun _ _ _ h => h.for_
end

/-! ### while -/
def whF : Nat → Evt → Sts → Sts
  | 0, _, _, _ => none
  | n + 1, c, body, fr => (c fr).bind fun x => if x.1 = true then (body x.2).bind fun y => match y.1 with
      | .nx => whF n c body y.2
      | .ct => whF n c body y.2
      | .bk => some (.nx, y.2)
      | .rt o => some (.rt o, y.2)
    else some (.nx, x.2)
theorem StR.while_ {K : PySem.W.Frag} {fx : List Nat} {D : Ends} {σ0 : Sl} {H0 : Hp} {c : Evt} {p : Bool} {body : Sts} {n : Nat} (h : StR K fx (whF n c body) D σ0 H0) : tWhile (EvT K p c) (StR K fx body) D σ0 H0 := by
  obtain ⟨Z, fr, fp, fl, fr', w, e, k⟩ := h
  refine ⟨fun m σ H => ∃ Zi fri fpi, Wd K Zi H σ fri fpi ∧ Ext Z H0 fp Zi H fpi ∧ Fx fx σ0 σ ∧ whF m c body fri = some (fl, fr'), ⟨n, Z, fr, fp, w, Ext.refl _ _ _, Fx.refl, e⟩, ?_⟩
  rintro m σ H ⟨Zi, fri, fpi, wi, xi, fi, ei⟩
  cases m with
  | zero => cases ei
  | succ m =>
    unfold whF at ei
    cases e1 : c fri with
    | none => rw [e1] at ei; cases ei
    | some y =>
      obtain ⟨b, fr1⟩ := y
      rw [e1] at ei
      simp only [Option.bind_some] at ei
      refine ⟨Zi, fri, fpi, b, fr1, wi, e1, fun Z1 H1 fp1 w1 x1 _ => ?_⟩
      cases b with
      | false =>
        rw [if_neg (by decide)] at ei ⊢
        cases ei
        exact k Z1 H1 σ fp1 (xi.trans x1) fi w1
      | true =>
        rw [if_pos rfl] at ei ⊢
        cases e2 : body fr1 with
        | none => rw [e2] at ei; cases ei
        | some z =>
          obtain ⟨fl1, fr2⟩ := z
          rw [e2] at ei
          simp only [Option.bind_some] at ei
          refine ⟨fun σ' H' => ∃ Zi fri fpi, Wd K Zi H' σ' fri fpi ∧ Ext Z H0 fp Zi H' fpi ∧ Fx fx σ0 σ' ∧ whF m c body fri = some (fl, fr'), fun σ' H' q => ⟨m, Nat.lt_succ_self _, q⟩,
            Z1, fr1, fp1, fl1, fr2, w1, e2, fun Z3 H3 σ3 fp3 x3 f3 => ?_⟩
          have xx := xi.trans (x1.trans x3)
          cases fl1 with
          | nx => exact fun w3 => ⟨Z3, fr2, fp3, w3, xx, fi.trans f3, ei⟩
          | ct => exact fun w3 => ⟨Z3, fr2, fp3, w3, xx, fi.trans f3, ei⟩
          | bk =>
            intro w3
            cases ei
            exact k Z3 H3 σ3 fp3 xx (fi.trans f3) w3
          | rt o =>
            intro v w3
            have ei : some (Fl.rt o, fr2) = some (fl, fr') := ei
            obtain ⟨rfl, rfl⟩ := Prod.mk.inj (Option.some.inj ei)
            exact k Z3 H3 σ3 fp3 xx (fi.trans f3) v w3
theorem s_while {X : Cx} {fx : List Nat} {c : Expr} {body : List Stmt} {pos : Pos} {t : Evt} {p : Bool} {b : Sts} (n : Nat) (hp : PassesOwn (model X.prog X.w) X.A X.env X.xe) (hc : PT X c (EvT X.K p t)) (hb : PSs X body (StR X.K fx b)) :
    PS X (.While c body [] pos) (StR X.K fx (whF n t b)) := impS (ps_while hp hc hb) fun _ _ _ h => h.while_

/-! ### comprehensions -/
theorem ros_append {K : PySem.W.Frag} {Z H : Hp} : ∀ {vs ws : List V} {f g : List Addr} {os us : List O}, Ros K Z H vs f os → Ros K Z H ws g us → Ros K Z H (vs ++ ws) (f ++ g) (os ++ us)
  | _, _, _, _, _, _, .nil, h => h
  | _, _, _, _, _, _, .cons q r, h => by rw [List.append_assoc]; exact .cons q (ros_append r h)
/-- a root pushed onto an owned list in front of it -/
theorem Wd.push {K : PySem.W.Frag} {Z H : Hp} {a : Addr} {y : V} {os : List O} {o : O} {ρ : List (Option V)} {θ : List (Option O)} {fp : List Addr} (w : Wd K Z H (some (.ref a) :: some y :: ρ) (some (.l os) :: some o :: θ) fp) :
    ∃ vs, H a = some (.lst vs) ∧ vs.length = os.length ∧ ∃ fp', Wd K Z (upd H a (.lst (vs ++ [y]))) (some (.ref a) :: ρ) (some (.l (os ++ [o])) :: θ) fp' ∧ Ext Z H fp Z (upd H a (.lst (vs ++ [y]))) fp' := by
  cases w with
  | mk rt nd zf zh live =>
  cases rt with
  | @so _ _ fa fb _ _ q r =>
    cases q with
    | @l _ vs g _ e rs =>
      cases r with
      | @so _ _ fy fr _ _ qy r =>
        have na : ∀ b ∈ g ++ (fy ++ fr), b ≠ a := fun b m e => by
          subst e
          have := List.nodup_cons.mp (show (b :: (g ++ (fy ++ fr))).Nodup from nd)
          exact this.1 m
        have frm : ∀ {f : List Addr}, (∀ b ∈ f, b ∈ g ++ (fy ++ fr)) → ∀ b ∈ f, ∀ u, H b = some u → (upd H a (.lst (vs ++ [y]))) b = some u := fun hs b m u e => by
          rw [upd_ne (na b (hs b m))]; exact e
        refine ⟨vs, e, rs.length, a :: (g ++ fy) ++ fr, ⟨.so (.l upd_same (ros_append (rs.frame (frm fun b m => List.mem_append_left _ m) fun _ _ e => e) (.cons (qy.frame (frm fun b m => List.mem_append_right _ (List.mem_append_left _ m)) fun _ _ e => e) .nil) |> fun h => by rw [List.append_nil] at h; exact h)) (r.frame (frm fun b m => List.mem_append_right _ (List.mem_append_right _ m)) fun _ _ e => e), ?_, ?_, ?_, ?_⟩, ?_⟩
        · simpa [List.append_assoc] using nd
        · exact fun b m => zf b (by simpa [List.append_assoc] using m)
        · intro b u q
          by_cases hb : b = a
          · rw [hb, zf a (by simp)] at q; cases q
          · rw [upd_ne hb]; exact zh _ _ q
        · intro b m
          by_cases hb : b = a
          · rw [hb, upd_same]; exact nofun
          · rw [upd_ne hb]; exact live b (by simpa [List.append_assoc] using m)
        · refine ⟨fun b u q m => ?_, fun b q => ?_, fun b m => .inl (by simpa [List.append_assoc] using m), fun _ _ q => q, fun b q => .inl q⟩
          · have hb : b ≠ a := fun z => m (by rw [z]; simp)
            rw [upd_ne hb]; exact q
          · by_cases hb : b = a
            · rw [hb, upd_same]; exact nofun
            · rw [upd_ne hb]; exact q
/-- slots forgotten -/
def wipF (fr : Fr) : List Nat → Fr
  | [] => fr
  | v :: vs => (wipF fr vs).set v none
theorem wipF_none : ∀ {vs : List Nat} {fr : Fr} {i : Nat} {o : O}, (wipF fr vs)[i]? = some (some o) → fr[i]? = some (some o) ∧ i ∉ vs
  | [], fr, i, o, h => ⟨h, by simp⟩
  | v :: vs, fr, i, o, h => by
    unfold wipF at h
    by_cases hi : v = i
    · subst hi
      by_cases hv : v < (wipF fr vs).length
      · rw [List.getElem?_set_self hv] at h; cases h
      · rw [List.getElem?_eq_none (by simpa using hv)] at h; cases h
    · rw [List.getElem?_set_ne hi] at h
      obtain ⟨h1, h2⟩ := wipF_none h
      exact ⟨h1, by simp only [List.mem_cons, not_or]; exact ⟨fun e => hi e.symm, h2⟩⟩
theorem wipe_out {σ : Sl} : ∀ {vs : List Nat} {i : Nat}, i ∉ vs → (wipe σ vs)[i]? = σ[i]?
  | [], _, _ => rfl
  | v :: vs, i, h => by
    have h' : i ≠ v ∧ i ∉ vs := by simpa using h
    show ((wipe σ vs).set v none)[i]? = _
    rw [List.getElem?_set_ne h'.1.symm, wipe_out h'.2]
theorem Rt.congr {K : PySem.W.Frag} {Z H : Hp} {σ : List (Option V)} {fr : List (Option O)} {fp : List Addr} (r : Rt K Z H σ fp fr) : ∀ {σ' : List (Option V)}, σ'.length = σ.length → (∀ (i : Nat) (o : O), fr[i]? = some (some o) → σ'[i]? = σ[i]?) → Rt K Z H σ' fp fr := by
  induction r with
  | nil =>
    intro σ' hl _
    rw [List.length_eq_zero_iff.mp hl]; exact .nil
  | no _ ih =>
    intro σ' hl h
    cases σ' with
    | nil => simp at hl
    | cons v σ' => exact .no (ih (by simpa using hl) fun i o e => by have := h (i + 1) o (by simpa using e); simpa using this)
  | so q _ ih =>
    intro σ' hl h
    cases σ' with
    | nil => simp at hl
    | cons v σ' =>
      have e := h 0 _ rfl
      simp only [List.getElem?_cons_zero, Option.some.injEq] at e
      subst e
      exact .so q (ih (by simpa using hl) fun i o e => by have := h (i + 1) o (by simpa using e); simpa using this)
theorem Rt.wip {K : PySem.W.Frag} {Z H : Hp} {σ : Sl} {fr : Fr} {fp : List Addr} (r : Rt K Z H σ fp fr) : ∀ (vs : List Nat), ∃ f1 f2, fp.Perm (f1 ++ f2) ∧ Rt K Z H σ f2 (wipF fr vs)
  | [] => ⟨[], fp, .refl _, r⟩
  | v :: vs => by
    obtain ⟨f1, f2, p, r2⟩ := r.wip vs
    obtain ⟨g1, g2, p2, r3⟩ := r2.drop v
    exact ⟨f1 ++ g1, g2, p.trans (by rw [List.append_assoc]; exact List.Perm.append_left f1 p2), r3⟩
/-- the world of a block -/
theorem Wd.blk {K : PySem.W.Frag} {Z H : Hp} {σ σ' : Sl} {fr : Fr} {fp : List Addr} (w : Wd K Z H σ fr fp) (vs : List Nat) (hl : σ'.length = σ.length) (h : ∀ i, i ∉ vs → σ'[i]? = σ[i]?) : ∃ f2, Wd K Z H σ' (wipF fr vs) f2 ∧ Ext Z H fp Z H f2 := by
  obtain ⟨f1, f2, p, r2⟩ := w.rt.wip vs
  exact ⟨f2, w.sub (r2.congr hl fun i o e => h i (wipF_none e).2) p, Ext.dropped p⟩
theorem wipe_eq {σ σ' : Sl} {vs : List Nat} (hl : σ'.length = σ.length) (h : ∀ i, i ∉ vs → σ'[i]? = σ[i]?) : wipe σ' vs = wipe σ vs := by
  apply List.ext_getElem?
  intro i
  by_cases hi : i ∈ vs
  · have none_at : ∀ (τ : Sl), τ.length = σ.length → (wipe τ vs)[i]? = if i < σ.length then some none else none := fun τ hτ => by
      cases e : (wipe τ vs)[i]? with
      | none =>
        have := List.getElem?_eq_none_iff.mp e
        rw [wipe_length, hτ] at this
        rw [if_neg (by omega)]
      | some x =>
        cases x with
        | some v => exact absurd hi (wipe_some e).2
        | none =>
          have := (List.getElem?_eq_some_iff.mp e).1
          rw [wipe_length, hτ] at this
          rw [if_pos this]
    rw [none_at _ hl, none_at _ rfl]
  · rw [wipe_out hi, wipe_out hi, h i hi]
/-- a target that stores in the block's slots alone -/
def TgV (K : PySem.W.Frag) (vs : List Nat) (h : PyData → Fr → Option Fr) : TG := fun v σ H Q => ∃ Z fr fp t fr', Wd K Z H σ fr fp ∧ Rp K Z v t ∧ h t fr = some fr' ∧
  ∀ σ' fp', Wd K Z H σ' fr' fp' → Ext Z H fp Z H fp' → σ'.length = σ.length → (∀ i, i ∉ vs → σ'[i]? = σ[i]?) → Q σ' H
def TgVs (K : PySem.W.Frag) (vs : List Nat) (h : List PyData → Fr → Option Fr) : TGs := fun xs σ H Q => ∃ Z fr fp ts fr', Wd K Z H σ fr fp ∧ Rps K Z xs ts ∧ h ts fr = some fr' ∧
  ∀ σ' fp', Wd K Z H σ' fr' fp' → Ext Z H fp Z H fp' → σ'.length = σ.length → (∀ i, i ∉ vs → σ'[i]? = σ[i]?) → Q σ' H
section
variable {K : PySem.W.Frag} {vs : List Nat} {σ : Sl} {H : Hp} {Q : Sl → Hp → Prop}
theorem TgV.nm_ {i : Nat} {v : V} (hi : i ∈ vs) (h : TgV K vs (nmT [] i) v σ H Q) : gName i v σ H Q := by
  obtain ⟨Z, fr, fp, t, fr', w, r, e, k⟩ := h
  cases e
  obtain ⟨f2, w2, x2⟩ := (w.front r).store i
  exact k _ f2 w2 x2 List.length_set fun j hj => List.getElem?_set_ne fun e => hj (by rw [← e]; exact hi)
theorem TgVs.no_ {xs : List V} (h : TgVs K vs noT xs σ H Q) : gNil xs σ H Q := by
  obtain ⟨Z, fr, fp, ts, fr', w, r, e, k⟩ := h
  unfold noT at e
  split at e
  · cases e
    cases r
    exact ⟨rfl, k σ fp w (Ext.refl _ _ _) rfl fun _ _ => rfl⟩
  · cases e
theorem TgVs.co_ {h1 : PyData → Fr → Option Fr} {hs : List PyData → Fr → Option Fr} {xs : List V} (h : TgVs K vs (coT h1 hs) xs σ H Q) : gCons (TgV K vs h1) (TgVs K vs hs) xs σ H Q := by
  obtain ⟨Z, fr, fp, ts, fr', w, r, e, k⟩ := h
  unfold coT at e
  split at e
  · cases e
  · rename_i t ts
    cases r with
    | @cons v xs _ _ r rs =>
      cases e1 : h1 t fr with
      | none => rw [e1] at e; cases e
      | some fr1 =>
        rw [e1] at e
        simp only [Option.bind_some] at e
        exact ⟨v, xs, rfl, Z, fr, fp, t, fr1, w, r, e1, fun σ1 fp1 w1 x1 l1 a1 => ⟨Z, fr1, fp1, ts, fr', w1, rs, e, fun σ2 fp2 w2 x2 l2 a2 => k σ2 fp2 w2 (x1.trans x2) (l2.trans l1) fun i hi => (a2 i hi).trans (a1 i hi)⟩⟩
theorem TgV.tu_ {n : Nat} {hs : List PyData → Fr → Option Fr} {v : V} (h : TgV K vs (tuT n hs) v σ H Q) : gTup K n (TgVs K vs hs) v σ H Q := by
  obtain ⟨Z, fr, fp, t, fr', w, r, e, k⟩ := h
  unfold tuT at e
  split at e
  · split at e
    · rename_i hn
      cases r with
      | tup q r => exact ⟨_, _, rfl, sqt_mono q w.zh, r.length.trans hn, Z, fr, fp, _, fr', w, r, e, k⟩
    · cases e
  · cases e
end
section
variable {X : Cx} {vs : List Nat} {pos : Pos}
theorem gv_name {i : Nat} {x : Str} (hi0 : i ∈ vs) (hN : X.N.Nodup) (hi : X.N[i]? = some x) (hx : Loc X.env.scope x) (hf : X.fn x = true ∨ X.env.scope.names.lookup x = some .local := by first | exact .inl rfl | exact .inr rfl | assumption) : PG X (.Name x pos) (TgV X.K vs (nmT [] i)) :=
  impG (pg_name hN hi hx hf) fun _ _ _ _ h => h.nm_ hi0
theorem gvs_nil : PGs X [] (TgVs X.K vs noT) := impGs pgs_nil fun _ _ _ _ h => h.no_
theorem gvs_cons {e : Expr} {es : List Expr} {h1 : PyData → Fr → Option Fr} {hs : List PyData → Fr → Option Fr} (h : PG X e (TgV X.K vs h1)) (r : PGs X es (TgVs X.K vs hs)) (hs0 : (assignEach (e :: es) X.env).map (·.2) = assign e X.env :: (assignEach es X.env).map (·.2) := by rfl) : PGs X (e :: es) (TgVs X.K vs (coT h1 hs)) :=
  impGs (pgs_cons h r hs0) fun _ _ _ _ h => h.co_
theorem gv_tup {es : List Expr} {k : Nat} {n : Nat} {hs : List PyData → Fr → Option Fr} (hc : X.calm = true) (h : PGs X es (TgVs X.K vs hs)) (hn : (assignEach es X.env).length = n := by rfl) (hst : (assignEach es X.env).findIdx? (·.1) = none := by rfl) : PG X (.Tuple es k pos) (TgV X.K vs (tuT n hs)) :=
  impG (pg_tup hc h hn hst) fun _ _ _ _ h => h.tu_
end
def yesF : Evt := fun fr => some (true, fr)
theorem EvT.yes_ {K : PySem.W.Frag} {σ : Sl} {H : Hp} {Q : Bool → Hp → Prop} (h : EvT K true yesF σ H Q) : tYes σ H Q := by
  obtain ⟨Z, fr, fp, b, fr', w, e, k⟩ := h
  cases e
  exact k Z H fp w (Ext.refl _ _ _) Pu.refl
theorem tts_nil {X : Cx} : PTs X [] (EvT X.K true yesF) := ⟨fun pins s σ H Q I h => pts_nil.run pins s σ H Q I h.yes_⟩
theorem tts_one {X : Cx} {c : Expr} {p : Bool} {t : Evt} (h : PT X c (EvT X.K p t)) : PTs X [c] (EvT X.K p t) := pts_one h
theorem Rt.swap {K : PySem.W.Frag} {Z H : Hp} {a b : Option V} {oa ob : Option O} {τ ρ : List (Option V)} {θ μ : List (Option O)} {fp : List Addr} (h : τ.length = θ.length) (r : Rt K Z H ((a :: τ) ++ ([b] ++ ρ)) fp ((oa :: θ) ++ ([ob] ++ μ))) :
    ∃ fp', fp'.Perm fp ∧ Rt K Z H (a :: b :: (τ ++ ρ)) fp' (oa :: ob :: (θ ++ μ)) := by
  obtain ⟨f1, f2, rfl, r1, r2⟩ := Rt.split (by simp [h]) r
  obtain ⟨f3, f4, rfl, r3, r4⟩ := Rt.split (τ := [b]) (θ := [ob]) rfl r2
  obtain ⟨f5, f6, rfl, r5, r6⟩ := Rt.split (τ := [a]) (θ := [oa]) (σ := τ) (fr := θ) rfl r1
  refine ⟨f5 ++ (f3 ++ (f6 ++ f4)), ?_, r5.append (r3.append (r6.append r4))⟩
  rw [List.append_assoc]
  refine List.Perm.append_left f5 ?_
  rw [← List.append_assoc, ← List.append_assoc]
  exact List.Perm.append_right f4 List.perm_append_comm
theorem Rt.skip {K : PySem.W.Frag} {Z H : Hp} {a : Option V} {oa : Option O} {τ ρ : List (Option V)} {θ μ : List (Option O)} {fp : List Addr} (h : τ.length = θ.length) (r : Rt K Z H ((a :: τ) ++ ρ) fp ((oa :: θ) ++ μ)) :
    ∃ f1 fp', fp.Perm (f1 ++ fp') ∧ Rt K Z H (a :: ρ) fp' (oa :: μ) := by
  obtain ⟨f1, f2, rfl, r1, r2⟩ := Rt.split (by simp [h]) r
  obtain ⟨f5, f6, rfl, r5, r6⟩ := Rt.split (τ := [a]) (θ := [oa]) (σ := τ) (fr := θ) rfl r1
  refine ⟨f6, f5 ++ f2, ?_, r5.append r2⟩
  rw [← List.append_assoc]
  exact List.Perm.append_right f2 List.perm_append_comm
theorem Rt.front {K : PySem.W.Frag} {Z H : Hp} {a : Option V} {oa : Option O} {τ ρ : List (Option V)} {θ μ : List (Option O)} {fp : List Addr} (h : τ.length = θ.length) (r : Rt K Z H ((a :: τ) ++ ρ) fp ((oa :: θ) ++ μ)) :
    ∃ fp', fp'.Perm fp ∧ Rt K Z H (τ ++ ([a] ++ ρ)) fp' (θ ++ ([oa] ++ μ)) := by
  obtain ⟨f1, f2, rfl, r1, r2⟩ := Rt.split (by simp [h]) r
  obtain ⟨f5, f6, rfl, r5, r6⟩ := Rt.split (τ := [a]) (θ := [oa]) (σ := τ) (fr := θ) rfl r1
  refine ⟨f6 ++ (f5 ++ f2), ?_, r6.append (r5.append r2)⟩
  rw [← List.append_assoc]
  exact List.Perm.append_right f2 List.perm_append_comm
theorem Rt.back {K : PySem.W.Frag} {Z H : Hp} {a : Option V} {oa : Option O} {τ ρ : List (Option V)} {θ μ : List (Option O)} {fp : List Addr} (h : τ.length = θ.length) (r : Rt K Z H (τ ++ ([a] ++ ρ)) fp (θ ++ ([oa] ++ μ))) :
    ∃ fp', fp'.Perm fp ∧ Rt K Z H (a :: (τ ++ ρ)) fp' (oa :: (θ ++ μ)) := by
  obtain ⟨f1, f2, rfl, r1, r2⟩ := Rt.split h r
  obtain ⟨f3, f4, rfl, r3, r4⟩ := Rt.split (τ := [a]) (θ := [oa]) rfl r2
  refine ⟨f3 ++ (f1 ++ f4), ?_, r3.append (r1.append r4)⟩
  rw [← List.append_assoc, ← List.append_assoc]
  exact List.Perm.append_right f4 List.perm_append_comm
/-- [elt for target in .. if ..] -/
def lcL (tgt : PyData → Fr → Option Fr) (tst : Evt) (elt : Ev) (vs : List Nat) : List PyData → List O → Fr → Option (List O × Fr)
  | [], acc, fr => some (acc, fr)
  | t :: ts, acc, fr => (tgt t fr).bind fun fr1 => (tst fr1).bind fun x => if x.1 = true then
      (elt x.2).bind fun y => match y.1 with
        | .own o => if acc.length < sizeLine then lcL tgt tst elt vs ts (acc ++ [o]) (wipF y.2 vs) else none
        | _ => none
    else lcL tgt tst elt vs ts acc (wipF x.2 vs)
def lcF (it : Evi) (tgt : PyData → Fr → Option Fr) (tst : Evt) (elt : Ev) (vs : List Nat) : Ev := fun fr => (it fr).bind fun x => (lcL tgt tst elt vs x.1 [] (wipF x.2 vs)).bind fun y => some (.own (.l y.1), y.2)
/-- the loop of a comprehension: from the list so far to its end -/
theorem lc_loop {K : PySem.W.Frag} {σ : Sl} {tgt : PyData → Fr → Option Fr} {tst : Evt} {elt : Ev} {vs : List Nat} {p q : Bool} {J : It} {Z1 : Hp} {τ : List (Option V)} {θ : List (Option O)} {ts : List PyData} {D : Addr} {acc0 acc' : List O} {fr1 fr2 : Fr}
    {Z0 H0 : Hp} {fp0 : List Addr} {Fin : Hp → Prop} (hτ : τ.length = θ.length) (jok : Jok K J Z1 τ θ ts) (sz : Same Z1 Z0) (w0 : Wd K Z0 H0 (some (.ref D) :: (τ ++ wipe σ vs)) (some (.l acc0) :: (θ ++ fr1)) fp0)
    (el : lcL tgt tst elt vs ts acc0 fr1 = some (acc', fr2))
    (fin : ∀ Z' H' fp', Wd K Z' H' (some (.ref D) :: wipe σ vs) (some (.l acc') :: fr2) fp' → Ext Z0 H0 fp0 Z' H' fp' → Fin H') :
    ∃ W : Nat → Nat → Hp → Prop, (∃ m, W 0 m H0) ∧ ∀ i m H, W i m H → (J.stop i H ∧ Fin H) ∨ (J.go i H ∧ ∃ Nx : Hp → Prop, (∀ H', Nx H' → ∃ m', m' < m ∧ W (i + 1) m' H') ∧
      ∀ x H', J.yld i H x H' → TgV K vs tgt x (wipe σ vs) H' fun σ2 H2 => wipe σ2 vs = wipe σ vs ∧ EvT K p tst σ2 H2 fun b H3 =>
        if b = true then EvR K q elt σ2 H3 fun y H4 => ∃ acc, H4 D = some (.lst acc) ∧ acc.length < sizeLine ∧ Nx (upd H4 D (.lst (acc ++ [y]))) else Nx H3) := by
  refine ⟨fun i m H => i + m = ts.length ∧ ∃ Zi fri fpi acc, Wd K Zi H (some (.ref D) :: (τ ++ wipe σ vs)) (some (.l acc) :: (θ ++ fri)) fpi ∧ Ext Z0 H0 fp0 Zi H fpi ∧ Same Z1 Zi ∧ lcL tgt tst elt vs (ts.drop i) acc fri = some (acc', fr2),
    ⟨ts.length, by omega, Z0, fr1, fp0, acc0, w0, Ext.refl _ _ _, sz, el⟩, ?_⟩
  rintro i m H ⟨him, Zi, fri, fpi, acc, wi, xi, si, ei⟩
  obtain ⟨g0, wq, xq⟩ := wi.tail
  obtain ⟨g1, wp⟩ := wq.pre hτ
  by_cases hi : i < ts.length
  · rw [List.drop_eq_getElem_cons hi] at ei
    refine .inr ⟨jok.go Zi H g1 i wp si hi, fun H' => (i + 1) + (m - 1) = ts.length ∧ ∃ Zi fri fpi acc, Wd K Zi H' (some (.ref D) :: (τ ++ wipe σ vs)) (some (.l acc) :: (θ ++ fri)) fpi ∧ Ext Z0 H0 fp0 Zi H' fpi ∧ Same Z1 Zi ∧ lcL tgt tst elt vs (ts.drop (i + 1)) acc fri = some (acc', fr2),
      fun H' q => ⟨m - 1, by omega, q⟩, fun x H' y => ?_⟩
    obtain ⟨t, Z2, et, nw⟩ := jok.yld Zi H g1 i x H' wp si hi y
    rw [List.getElem?_eq_getElem hi] at et
    have et := Option.some.inj et
    subst et
    obtain ⟨w2, x2⟩ := wi.new nw
    obtain ⟨f1, f2, e2, wt, glue⟩ := Wd.under (τ := some x :: some (.ref D) :: τ) (θ := some (.d ts[i]) :: some (.l acc) :: θ) w2 (by simp [hτ])
    have rp : Rp K Z2 x ts[i] := by
      cases nw.ro with
      | d q => exact q
    unfold lcL at ei
    cases e3 : tgt ts[i] fri with
    | none => rw [e3] at ei; cases ei
    | some frt =>
      rw [e3] at ei
      simp only [Option.bind_some] at ei
      cases e4 : tst frt with
      | none => rw [e4] at ei; cases ei
      | some yb =>
        obtain ⟨b, fr3⟩ := yb
        rw [e4] at ei
        simp only [Option.bind_some] at ei
        refine ⟨Z2, fri, f2, ts[i], frt, wt, rp, e3, fun σ2 fp2 w3 x3 l3 a3 => ⟨?_, Z2, frt, fp2, b, fr3, w3, e4, fun Z3 H3 fp3 w4 x4 _ => ?_⟩⟩
        · exact wipe_eq (l3.trans (wipe_length σ vs)) fun i hi => (a3 i hi).trans (wipe_out hi)
        have hl2 : (wipe σ vs).length = σ2.length := l3.symm
        have ag2 : ∀ i, i ∉ vs → (wipe σ vs)[i]? = σ2[i]? := fun i hi => (a3 i hi).symm
        dsimp only
        cases b with
        | false =>
          rw [if_neg (by decide)] at ei ⊢
          obtain ⟨g3, w5, x5⟩ := w4.blk vs hl2 ag2
          obtain ⟨w6, x6⟩ := glue Z3 H3 _ _ g3 w5 (x3.trans (x4.trans x5))
          obtain ⟨g4, w7, x7⟩ := w6.tail
          exact ⟨by omega, Z3, _, g4, acc, w7, xi.trans (x2.trans (x6.trans x7)), (si.trans nw.zz).trans x4.zz, ei⟩
        | true =>
          rw [if_pos rfl] at ei ⊢
          cases e5 : elt fr3 with
          | none => rw [e5] at ei; cases ei
          | some ye =>
            obtain ⟨re, fr4⟩ := ye
            rw [e5] at ei
            simp only [Option.bind_some] at ei
            refine ⟨Z3, fr3, fp3, re, fr4, w4, e5, fun Z4 H4 v fp4 w5 x5 b5 pu5 => ?_⟩
            clear b5 pu5
            split at ei
            · rename_i o
              split at ei
              · rename_i hsz
                -- the element in front, the block's slots forgotten
                have w5' : Wd K Z4 H4 ([some v] ++ σ2) ([some o] ++ fr4) fp4 := w5
                obtain ⟨ga, gb, e6, w6, glue2⟩ := w5'.under rfl
                obtain ⟨g3, w7, x7⟩ := w6.blk vs hl2 ag2
                obtain ⟨w8, x8⟩ := glue2 Z4 H4 _ _ g3 w7 x7
                obtain ⟨w9, x9⟩ := glue Z4 H4 _ _ _ w8 (x3.trans (x4.trans (x5.trans x8)))
                obtain ⟨g5, wA, xA⟩ := w9.tail
                -- the element next to the list
                have wA : Wd K Z4 H4 ((some (.ref D) :: τ) ++ ([some v] ++ wipe σ vs)) ((some (.l acc) :: θ) ++ ([some o] ++ wipF fr4 vs)) g5 := wA
                obtain ⟨fpb, pb, rb⟩ := wA.rt.swap (τ := τ) (θ := θ) hτ
                have wB := wA.perm rb pb
                obtain ⟨accV, eD, hlen, g6, wC, xC⟩ := wB.push
                refine ⟨accV, eD, by omega, by omega, Z4, _, g6, acc ++ [o], wC, ?_, ((si.trans nw.zz).trans x4.zz).trans x5.zz, ei⟩
                exact xi.trans (x2.trans (x9.trans (xA.trans ((Ext.refl _ _ _).perm (fun _ => Iff.rfl) (fun a m => pb.mem_iff.mp m) |>.trans xC))))
              · cases ei
            · cases ei
  · rw [List.drop_of_length_le (by omega)] at ei
    unfold lcL at ei
    obtain ⟨rfl, rfl⟩ := Prod.mk.inj (Option.some.inj ei)
    refine .inl ⟨jok.stop Zi H g1 i wp si (by omega), ?_⟩
    -- the iterator's roots dropped
    have wi' : Wd K Zi H ((some (.ref D) :: τ) ++ wipe σ vs) ((some (.l acc) :: θ) ++ fri) fpi := wi
    obtain ⟨h1, h2, pm, r2⟩ := wi'.rt.skip hτ
    exact fin Zi H h2 (wi'.sub r2 pm) (xi.trans (Ext.dropped pm))
/-- the wiped slots hold no thing: they may be as they were -/
theorem Wd.unwipe {K : PySem.W.Frag} {Z H : Hp} {σ : Sl} {vs : List Nat} {a : V} {o : O} {fr : Fr} {fp : List Addr} (w : Wd K Z H (some a :: wipe σ vs) (some o :: fr) fp) : Wd K Z H (some a :: σ) (some o :: fr) fp := by
  refine ⟨?_, w.nd, w.zf, w.zh, w.live⟩
  cases w.rt with
  | @so _ _ fa fb _ _ qa ra =>
    exact .so qa (ra.congr (wipe_length σ vs).symm fun i o eo => by
      obtain ⟨v, _, _, ev, _⟩ := ra.take eo
      exact (wipe_out (wipe_some ev).2).symm)
theorem EvR.lc_ {K : PySem.W.Frag} {σ : Sl} {H0 : Hp} {it : Evi} {tgt : PyData → Fr → Option Fr} {tst : Evt} {elt : Ev} {vs : List Nat} {p q : Bool} {Q : VK} (h : EvR K false (lcF it tgt tst elt vs) σ H0 Q) : tLc (IvR K it) (TgV K vs tgt) (EvT K p tst) (EvR K q elt) vs σ H0 Q := by
  obtain ⟨Z, fr, fp, r, fr', w, e, k⟩ := h
  unfold lcF at e
  cases ef : it fr with
  | none => rw [ef] at e; cases e
  | some x =>
    obtain ⟨ts, fr1⟩ := x
    rw [ef] at e
    simp only [Option.bind_some] at e
    cases el : lcL tgt tst elt vs ts [] (wipF fr1 vs) with
    | none => rw [el] at e; cases e
    | some yy =>
      obtain ⟨acc', fr2⟩ := yy
      rw [el] at e
      simp only [Option.bind_some, Option.some.injEq, Prod.mk.injEq] at e
      obtain ⟨rfl, rfl⟩ := e
      refine ⟨Z, fr, fp, ts, fr1, w, ef, fun J Z1 H1 τ θ fp1 hτ w1 x1 jok D hD => ?_⟩
      obtain ⟨f1, f2, e2, wt, glue⟩ := w1.under hτ
      obtain ⟨g2, wb, xb⟩ := wt.blk vs (σ' := wipe σ vs) (wipe_length σ vs) fun i hi => wipe_out hi
      obtain ⟨w2, x2⟩ := glue Z1 H1 _ _ g2 wb xb
      obtain ⟨w3, x3⟩ := w2.new (New.list (ts := []) w2.zh hD .nil)
      exact lc_loop (Fin := fun H => Q (.ref D) H) hτ jok (fun _ _ e => e) w3 el fun Z' H' fp' w4 x4 => k Z' H' (.ref D) fp' w4.unwipe (x1.trans (x2.trans (x3.trans x4))) .own fun z => nomatch z
/-- [elt for t in .. if .. for t1 in .. if ..] -/
def lc2L (tgt : PyData → Fr → Option Fr) (tst : Evt) (it1 : Evi) (tgt1 : PyData → Fr → Option Fr) (tst1 : Evt) (elt : Ev) (vs vs1 : List Nat) : List PyData → List O → Fr → Option (List O × Fr)
  | [], acc, fr => some (acc, fr)
  | t :: ts, acc, fr => (tgt t fr).bind fun fr1 => (tst fr1).bind fun x => if x.1 = true then
      (it1 x.2).bind fun y => (lcL tgt1 tst1 elt vs1 y.1 acc (wipF y.2 vs1)).bind fun z => lc2L tgt tst it1 tgt1 tst1 elt vs vs1 ts z.1 (wipF z.2 vs)
    else lc2L tgt tst it1 tgt1 tst1 elt vs vs1 ts acc (wipF x.2 vs)
def lc2F (it : Evi) (tgt : PyData → Fr → Option Fr) (tst : Evt) (it1 : Evi) (tgt1 : PyData → Fr → Option Fr) (tst1 : Evt) (elt : Ev) (vs vs1 : List Nat) : Ev := fun fr => (it fr).bind fun x => (lc2L tgt tst it1 tgt1 tst1 elt vs vs1 x.1 [] (wipF x.2 vs)).bind fun y => some (.own (.l y.1), y.2)
theorem EvR.lc2_ {K : PySem.W.Frag} {σ : Sl} {H0 : Hp} {it it1 : Evi} {tgt tgt1 : PyData → Fr → Option Fr} {tst tst1 : Evt} {elt : Ev} {vs vs1 : List Nat} {p p1 q : Bool} {Q : VK} (hvs : ∀ i ∈ vs1, i ∈ vs) (h : EvR K false (lc2F it tgt tst it1 tgt1 tst1 elt vs vs1) σ H0 Q) :
    tLc2 (IvR K it) (TgV K vs tgt) (EvT K p tst) (IvR K it1) (TgV K vs1 tgt1) (EvT K p1 tst1) (EvR K q elt) vs vs1 σ H0 Q := by
  obtain ⟨Z, fr, fp, r, fr', w, e, k⟩ := h
  unfold lc2F at e
  cases ef : it fr with
  | none => rw [ef] at e; cases e
  | some x =>
    obtain ⟨ts, fr1⟩ := x
    rw [ef] at e
    simp only [Option.bind_some] at e
    cases el : lc2L tgt tst it1 tgt1 tst1 elt vs vs1 ts [] (wipF fr1 vs) with
    | none => rw [el] at e; cases e
    | some yy =>
      obtain ⟨acc', fr2⟩ := yy
      rw [el] at e
      simp only [Option.bind_some, Option.some.injEq, Prod.mk.injEq] at e
      obtain ⟨rfl, rfl⟩ := e
      refine ⟨Z, fr, fp, ts, fr1, w, ef, fun J Z1 H1 τ θ fp1 hτ w1 x1 jok D hD => ?_⟩
      obtain ⟨f1, f2, e2, wt, glue⟩ := w1.under hτ
      obtain ⟨g2, wb, xb⟩ := wt.blk vs (σ' := wipe σ vs) (wipe_length σ vs) fun i hi => wipe_out hi
      obtain ⟨w2, x2⟩ := glue Z1 H1 _ _ g2 wb xb
      obtain ⟨w3, x3⟩ := w2.new (New.list (ts := []) w2.zh hD .nil)
      have x03 := x1.trans (x2.trans x3)
      refine ⟨fun i m H => i + m = ts.length ∧ ∃ Zi fri fpi acc, Wd K Zi H (some (.ref D) :: (τ ++ wipe σ vs)) (some (.l acc) :: (θ ++ fri)) fpi ∧ Ext Z H0 fp Zi H fpi ∧ Same Z1 Zi ∧ lc2L tgt tst it1 tgt1 tst1 elt vs vs1 (ts.drop i) acc fri = some (acc', fr2),
        ⟨ts.length, by omega, Z1, _, _, [], w3, x03, fun _ _ e => e, el⟩, ?_⟩
      rintro i m H ⟨him, Zi, fri, fpi, acc, wi, xi, si, ei⟩
      obtain ⟨g0, wq, xq⟩ := wi.tail
      obtain ⟨g1, wp⟩ := wq.pre hτ
      by_cases hi : i < ts.length
      · rw [List.drop_eq_getElem_cons hi] at ei
        refine .inr ⟨jok.go Zi H g1 i wp si hi, fun H' => (i + 1) + (m - 1) = ts.length ∧ ∃ Zi fri fpi acc, Wd K Zi H' (some (.ref D) :: (τ ++ wipe σ vs)) (some (.l acc) :: (θ ++ fri)) fpi ∧ Ext Z H0 fp Zi H' fpi ∧ Same Z1 Zi ∧ lc2L tgt tst it1 tgt1 tst1 elt vs vs1 (ts.drop (i + 1)) acc fri = some (acc', fr2),
          fun H' q => ⟨m - 1, by omega, q⟩, fun x H' y => ?_⟩
        obtain ⟨t, Z2, et, nw⟩ := jok.yld Zi H g1 i x H' wp si hi y
        rw [List.getElem?_eq_getElem hi] at et
        have et := Option.some.inj et
        subst et
        obtain ⟨w2, x2⟩ := wi.new nw
        have rp : Rp K Z2 x ts[i] := by
          cases nw.ro with
          | d q => exact q
        obtain ⟨f1, f2, e2, wt, glue⟩ := Wd.under (τ := some x :: some (.ref D) :: τ) (θ := some (.d ts[i]) :: some (.l acc) :: θ) w2 (by simp [hτ])
        unfold lc2L at ei
        cases e3 : tgt ts[i] fri with
        | none => rw [e3] at ei; cases ei
        | some frt =>
          rw [e3] at ei
          simp only [Option.bind_some] at ei
          cases e4 : tst frt with
          | none => rw [e4] at ei; cases ei
          | some yb =>
            obtain ⟨b, fr3⟩ := yb
            rw [e4] at ei
            simp only [Option.bind_some] at ei
            refine ⟨Z2, fri, f2, ts[i], frt, wt, rp, e3, fun σ2 fp2 w3 x3 l3 a3 => ⟨wipe_eq (l3.trans (wipe_length σ vs)) fun i hi => (a3 i hi).trans (wipe_out hi), Z2, frt, fp2, b, fr3, w3, e4, fun Z3 H3 fp3 w4 x4 _ => ?_⟩⟩
            have hl2 : (wipe σ vs).length = σ2.length := l3.symm
            have ag2 : ∀ i, i ∉ vs → (wipe σ vs)[i]? = σ2[i]? := fun i hi => (a3 i hi).symm
            dsimp only
            cases b with
            | false =>
              rw [if_neg (by decide)] at ei ⊢
              obtain ⟨g3, w5, x5⟩ := w4.blk vs hl2 ag2
              obtain ⟨w6, x6⟩ := glue Z3 H3 _ _ g3 w5 (x3.trans (x4.trans x5))
              obtain ⟨g4, w7, x7⟩ := w6.tail
              exact ⟨by omega, Z3, _, g4, acc, w7, xi.trans (x2.trans (x6.trans x7)), (si.trans nw.zz).trans x4.zz, ei⟩
            | true =>
              rw [if_pos rfl] at ei ⊢
              cases e5 : it1 fr3 with
              | none => rw [e5] at ei; cases ei
              | some ye =>
                obtain ⟨ts1, fr4⟩ := ye
                rw [e5] at ei
                simp only [Option.bind_some] at ei
                cases e6 : lcL tgt1 tst1 elt vs1 ts1 acc (wipF fr4 vs1) with
                | none => rw [e6] at ei; cases ei
                | some yz =>
                  obtain ⟨acc1, fr5⟩ := yz
                  rw [e6] at ei
                  simp only [Option.bind_some] at ei
                  refine ⟨Z3, fr3, fp3, ts1, fr4, w4, e5, fun J1 Z4 H4 τ1 θ1 fp4 hτ1 w5 x5 jok1 => ?_⟩
                  -- the list so far next to the inner walk's roots
                  obtain ⟨wA, xA⟩ := glue Z4 H4 _ _ fp4 w5 (x3.trans (x4.trans x5))
                  obtain ⟨gA, wA2, xA2⟩ := wA.tail
                  have wA3 : Wd K Z4 H4 ((some (.ref D) :: τ) ++ (τ1 ++ σ2)) ((some (.l acc) :: θ) ++ (θ1 ++ fr4)) gA := wA2
                  obtain ⟨fpB, pB, rB⟩ := wA3.rt.front hτ
                  have wB : Wd K Z4 H4 (τ ++ ([some (.ref D)] ++ (τ1 ++ σ2))) (θ ++ ([some (.l acc)] ++ (θ1 ++ fr4))) fpB := wA3.perm rB pB
                  obtain ⟨fC1, fC2, eC, wC, glueC⟩ := wB.under hτ
                  -- the inner block's slots forgotten
                  have wC2 : Wd K Z4 H4 ((some (.ref D) :: τ1) ++ σ2) ((some (.l acc) :: θ1) ++ fr4) fC2 := wC
                  obtain ⟨fD1, fD2, eD, wD, glueD⟩ := wC2.under (by simp [hτ1])
                  obtain ⟨gE, wE, xE⟩ := wD.blk vs1 (σ' := wipe σ2 vs1) (wipe_length σ2 vs1) fun i hi => wipe_out hi
                  obtain ⟨wF, xF⟩ := glueD Z4 H4 _ _ gE wE xE
                  refine lc_loop (Fin := fun H' => _) hτ1 jok1 (fun _ _ e => e) wF e6 fun Z5 H5 fp5 w7 x7 => ?_
                  have w8 := w7.unwipe
                  -- the outer block's slots forgotten
                  have w8' : Wd K Z5 H5 ([some (.ref D)] ++ σ2) ([some (.l acc1)] ++ fr5) fp5 := w8
                  obtain ⟨fG1, fG2, eG, wG, glueG⟩ := w8'.under rfl
                  obtain ⟨gH, wH, xH⟩ := wG.blk vs hl2 ag2
                  obtain ⟨wI, xI⟩ := glueG Z5 H5 _ _ gH wH xH
                  obtain ⟨wJ, xJ⟩ := glueC Z5 H5 _ _ _ wI (xF.trans (x7.trans xI))
                  obtain ⟨fpK, pK, rK⟩ := wJ.rt.back hτ
                  have wK := wJ.perm rK pK
                  refine ⟨by omega, Z5, _, fpK, acc1, wK, ?_, (((si.trans nw.zz).trans x4.zz).trans x5.zz).trans x7.zz, ei⟩
                  refine xi.trans (x2.trans (xA.trans (xA2.trans (((Ext.refl Z4 H4 gA).perm (fun _ => Iff.rfl) fun a m => pB.mem_iff.mp m).trans (xJ.trans ?_)))))
                  exact (Ext.refl Z5 H5 _).perm (fun _ => Iff.rfl) fun a m => pK.mem_iff.mp m
      · rw [List.drop_of_length_le (by omega)] at ei
        unfold lc2L at ei
        obtain ⟨rfl, rfl⟩ := Prod.mk.inj (Option.some.inj ei)
        refine .inl ⟨jok.stop Zi H g1 i wp si (by omega), ?_⟩
        have wi' : Wd K Zi H ((some (.ref D) :: τ) ++ wipe σ vs) ((some (.l acc) :: θ) ++ fri) fpi := wi
        obtain ⟨h1, h2, pm, r2⟩ := wi'.rt.skip hτ
        exact k Zi H (.ref D) h2 (wi'.sub r2 pm).unwipe (xi.trans (Ext.dropped pm)) .own fun z => nomatch z
section
variable {X : Cx} {elt tg iter tg1 iter1 : Expr} {ifs ifs1 : List Expr} {scope : Scope} {own : List (Str × Nat)} {vs vs1 : List Nat} {pos : Pos} {it it1 : Evi} {tgt tgt1 : PyData → Fr → Option Fr} {t t1 : Evt} {f : Ev} {p q p1 : Bool}
theorem e_lc (hc : X.calm = true) (hN : X.N.Nodup) (hi : PI X tg iter (IvR X.K it)) (ok : BlkOk X.N X.env.scope scope own) (hv : own.map (·.2) = vs)
    (hg : ∀ (s : Shared) (H : Hp) (C : Addr) (cl : List (Str × Addr)) (fp : List Addr), PG (X.blk s H scope (compEnvC scope cl C X.env) fp) tg (TgV X.K vs tgt)) (ht : ∀ (s : Shared) (H : Hp) (C : Addr) (cl : List (Str × Addr)) (fp : List Addr), PTs (X.blk s H scope (compEnvC scope cl C X.env) fp) ifs (EvT X.K p t))
    (he : ∀ (s : Shared) (H : Hp) (C : Addr) (cl : List (Str × Addr)) (fp : List Addr), PE (X.blk s H scope (compEnvC scope cl C X.env) fp) elt (EvR X.K q f)) (hs : ∀ x, foldedSetIterable iter X.env x = pure x := by intro _; rfl) :
    PE X (.ListComp elt [⟨tg, iter, ifs, 0⟩] scope pos) (EvR X.K false (lcF it tgt t f vs)) := by
  subst hv
  exact imp (pe_lc hc hN hi ok hg ht he hs) fun _ _ _ h => h.lc_
theorem e_lc2 (hc : X.calm = true) (hN : X.N.Nodup) (hi : PI X tg iter (IvR X.K it)) (ok : BlkOk X.N X.env.scope scope own) (hv : own.map (·.2) = vs) (hv1 : ∀ i ∈ vs1, i ∈ vs)
    (hg : ∀ (s : Shared) (H : Hp) (C : Addr) (cl : List (Str × Addr)) (fp : List Addr), PG (X.blk s H scope (compEnvC scope cl C X.env) fp) tg (TgV X.K vs tgt)) (ht : ∀ (s : Shared) (H : Hp) (C : Addr) (cl : List (Str × Addr)) (fp : List Addr), PTs (X.blk s H scope (compEnvC scope cl C X.env) fp) ifs (EvT X.K p t))
    (hi1 : ∀ (s : Shared) (H : Hp) (C : Addr) (cl : List (Str × Addr)) (fp : List Addr), PI (X.blk s H scope (compEnvC scope cl C X.env) fp) tg1 iter1 (IvR X.K it1))
    (hg1 : ∀ (s : Shared) (H : Hp) (C : Addr) (cl : List (Str × Addr)) (fp : List Addr), PG (X.blk s H scope (compEnvC scope cl C X.env) fp) tg1 (TgV X.K vs1 tgt1)) (ht1 : ∀ (s : Shared) (H : Hp) (C : Addr) (cl : List (Str × Addr)) (fp : List Addr), PTs (X.blk s H scope (compEnvC scope cl C X.env) fp) ifs1 (EvT X.K p1 t1))
    (he : ∀ (s : Shared) (H : Hp) (C : Addr) (cl : List (Str × Addr)) (fp : List Addr), PE (X.blk s H scope (compEnvC scope cl C X.env) fp) elt (EvR X.K q f)) (hs : ∀ x, foldedSetIterable iter X.env x = pure x := by intro _; rfl) (hs1 : ∀ env x, foldedSetIterable iter1 env x = pure x := by intro _ _; rfl) :
    PE X (.ListComp elt [⟨tg, iter, ifs, 0⟩, ⟨tg1, iter1, ifs1, 0⟩] scope pos) (EvR X.K false (lc2F it tgt t it1 tgt1 t1 f vs vs1)) := by
  subst hv
  exact imp (pe_lc2 hc hN hi ok hv1 hg ht hi1 hg1 ht1 he hs hs1) fun _ _ _ h => EvR.lc2_ hv1 h
/-- a store of a comprehension (on one line, to a local) -/
theorem s_setC {fx : List Nat} {st : Stmt} {te : TE} {i : Nat} (h : PS X st (tAsg te (gName i))) (k : ∀ σ H Q, EvR X.K p f σ H Q → te σ H Q) : PS X st (StR X.K fx (setF fx i f)) :=
  impS h fun D σ H q => k σ H _ (StR.set_ (p := p) q)
end
end Bv
set_option Elab.async false
set_option linter.all false
set_option maxRecDepth 100000
/-! Bv6: operations by value. -/
namespace Bv
open PySem PySem.Spec PyProof.Rows L2

/-! ### from the layer's data to the library's -/
section
variable {X : Cx} {pins : List (Addr × Obj)} {σ : Sl} {H Z : Hp} {s : Shared}
mutual
theorem Rp.reads (I : Inv X pins σ H s) (zh : Same Z H) : ∀ (d : PyData) (v : V) (u : Value), Rp X.K Z v d → d.canLay0 = true → RelV v u → ∃ as, Reads s.heap u d as
  | .none, _, _, h, _, r => by
    cases h; cases r
    exact ⟨_, Reads.none⟩
  | .bool b, _, _, h, _, r => by
    cases h; cases r
    exact ⟨_, Reads.bool b⟩
  | .int i, _, _, h, _, r => by
    cases h
    obtain ⟨t, rfl⟩ := r
    exact ⟨_, Reads.int i t⟩
  | .str x, _, _, h, _, r => by
    cases h
    obtain ⟨t, rfl⟩ := r
    exact ⟨_, Reads.str x t⟩
  | .list ds, _, _, h, c, r => by
    cases h with
    | lst hs ha =>
      cases r
      obtain ⟨its, rv, ⟨o, n, ho, hc, _, hd⟩, _⟩ := I.list (SqL.of (zh _ _ hs))
      obtain ⟨as, hr⟩ := Rps.reads I zh ds _ its ha (by simpa [PyData.canLay0] using c) rv
      exact ⟨_, Reads.list ho hc hd hr⟩
  | .tuple ds, _, _, h, c, r => by
    cases h with
    | tup hs ha =>
      cases r
      obtain ⟨its, rv, ⟨o, ho, hc, n, hd⟩, _⟩ := I.tuple (sqt_mono hs zh)
      obtain ⟨as, hr⟩ := Rps.reads I zh ds _ its ha (by simpa [PyData.canLay0] using c) rv
      exact ⟨_, Reads.tuple ho hc hd hr⟩
  | .dict _, _, _, h, c, _ => by simp [PyData.canLay0] at c
theorem Rps.reads (I : Inv X pins σ H s) (zh : Same Z H) : ∀ (ds : List PyData) (vs : List V) (us : List Value), Rps X.K Z vs ds → PyData.canLayAll0 ds = true → Vals vs us → ∃ as, ReadsAll s.heap us ds as
  | [], _, _, h, _, r => by
    cases h; cases r
    exact ⟨_, ReadsAll.nil⟩
  | d :: ds, _, _, h, c, r => by
    cases h with
    | cons h1 h2 =>
      cases r with
      | cons r1 r2 =>
        have c' : d.canLay0 = true ∧ PyData.canLayAll0 ds = true := by simpa [PyData.canLayAll0] using c
        obtain ⟨as, q1⟩ := Rp.reads I zh d _ _ h1 c'.1 r1
        obtain ⟨bs, q2⟩ := Rps.reads I zh ds _ _ h2 c'.2 r2
        exact ⟨_, ReadsAll.cons q1 q2⟩
end
end

/-! ### shapes of operations -/
abbrev Has (K : PySem.W.Frag) (Z H : Hp) (v : V) (o : O) : Prop := ∃ fp, Ro K Z H v fp o
def one (g : O → Option O) : List O → Option O
  | [a] => g a
  | _ => none
def two (g : O → O → Option O) : List O → Option O
  | [a, b] => g a b
  | _ => none
theorem ok1 {K : PySem.W.Frag} {r : List V → Hp → VK → Prop} {g : O → Option O} (h : ∀ (Z H : Hp) (x : V) (a o : O) (Q : VK), Same Z H → Has K Z H x a → g a = some o → (∀ Z' H' v fp, New K Z H Z' H' v fp o → Q v H') → r [x] H Q) : OpOk K r (one g) := by
  intro Z H vs os o Q zh rd eg k
  cases rd with
  | nil => cases eg
  | cons q rd =>
    cases rd with
    | nil => exact h Z H _ _ o Q zh q eg k
    | cons _ _ => cases eg
theorem ok2 {K : PySem.W.Frag} {r : R2} {g : O → O → Option O} (h : ∀ (Z H : Hp) (x y : V) (a b o : O) (Q : VK), Same Z H → Has K Z H x a → Has K Z H y b → g a b = some o → (∀ Z' H' v fp, New K Z H Z' H' v fp o → Q v H') → r x y H Q) : OpOk K (rTwo r) (two g) := by
  intro Z H vs os o Q zh rd eg k
  cases rd with
  | nil => cases eg
  | cons q rd =>
    cases rd with
    | nil => cases eg
    | cons q2 rd =>
      cases rd with
      | nil => exact ⟨_, _, rfl, h Z H _ _ _ _ o Q zh q q2 eg k⟩
      | cons _ _ => cases eg
theorem okU {K : PySem.W.Frag} {r : V → Hp → VK → Prop} {g : O → Option O} (h : ∀ (Z H : Hp) (x : V) (a o : O) (Q : VK), Same Z H → Has K Z H x a → g a = some o → (∀ Z' H' v fp, New K Z H Z' H' v fp o → Q v H') → r x H Q) : OpOk K (rOne r) (one g) :=
  ok1 fun Z H x a o Q zh q e k => ⟨x, rfl, h Z H x a o Q zh q e k⟩
section
variable {K : PySem.W.Frag} {Z H : Hp} {v : V}
theorem has_int {i : Int} (h : Has K Z H v (.d (.int i))) : v = .int i := by
  obtain ⟨_, h⟩ := h
  exact rd_int h
theorem has_str {x : Str} (h : Has K Z H v (.d (.str x))) : v = .str x := by
  obtain ⟨_, h⟩ := h
  cases h with
  | d h => cases h; rfl
theorem has_bool {b : Bool} (h : Has K Z H v (.d (.bool b))) : v = .bl b := by
  obtain ⟨_, h⟩ := h
  cases h with
  | d h => cases h; rfl
theorem has_none (h : Has K Z H v (.d .none)) : v = .non := by
  obtain ⟨_, h⟩ := h
  cases h with
  | d h => cases h; rfl
theorem has_rp {t : PyData} (h : Has K Z H v (.d t)) : Rp K Z v t := by
  obtain ⟨_, h⟩ := h
  cases h with
  | d h => exact h
/-- a list of frozen items -/
def asL : O → Option (List PyData)
  | .d (.list ts) => some ts
  | .l os => allD os
  | _ => none
theorem has_list {o : O} {ts : List PyData} (zh : Same Z H) (h : Has K Z H v o) (e : asL o = some ts) : ∃ a vs, v = .ref a ∧ H a = some (.lst vs) ∧ Rps K Z vs ts := by
  obtain ⟨fp, h⟩ := h
  unfold asL at e
  split at e
  · cases e
    cases h with
    | d h =>
      cases h with
      | lst e r => exact ⟨_, _, rfl, zh _ _ e, r⟩
  · have e2 := allD_some e
    subst e2
    cases h with
    | l e r => exact ⟨_, _, rfl, e, (ros_d r).1⟩
  · cases e
theorem has_tup {ts : List PyData} (h : Has K Z H v (.d (.tuple ts))) : ∃ a vs, v = .ref a ∧ SqT K Z a vs ∧ Rps K Z vs ts := by
  have h := has_rp h
  cases h with
  | tup e r => exact ⟨_, _, rfl, e, r⟩
theorem Rps.append : ∀ {vs ws : List V} {ts us : List PyData}, Rps K Z vs ts → Rps K Z ws us → Rps K Z (vs ++ ws) (ts ++ us)
  | _, _, _, _, .nil, h => h
  | _, _, _, _, .cons q r, h => .cons q (Rps.append r h)
theorem Rps.drop : ∀ {vs : List V} {ts : List PyData} (n : Nat), Rps K Z vs ts → Rps K Z (vs.drop n) (ts.drop n)
  | _, _, 0, h => h
  | _, _, _ + 1, .nil => .nil
  | _, _, n + 1, .cons _ r => Rps.drop n r
theorem Rps.take : ∀ {vs : List V} {ts : List PyData} (n : Nat), Rps K Z vs ts → Rps K Z (vs.take n) (ts.take n)
  | _, _, 0, _ => .nil
  | _, _, _ + 1, .nil => .nil
  | _, _, n + 1, .cons q r => .cons q (Rps.take n r)
theorem Rps.reverse : ∀ {vs : List V} {ts : List PyData}, Rps K Z vs ts → Rps K Z vs.reverse ts.reverse
  | _, _, .nil => .nil
  | _, _, .cons q r => by
    rw [List.reverse_cons, List.reverse_cons]
    exact Rps.append (Rps.reverse r) (.cons q .nil)
theorem Rps.flat {vs : List V} {ts : List PyData} (n : Nat) (h : Rps K Z vs ts) : Rps K Z (List.replicate n vs).flatten (List.replicate n ts).flatten := by
  induction n with
  | zero => exact .nil
  | succ n ih =>
    rw [List.replicate_succ, List.replicate_succ, List.flatten_cons, List.flatten_cons]
    exact Rps.append h ih
theorem New.int {i : Int} (zh : Same Z H) : New K Z H Z H (.int i) [] (.d (.int i)) := .flat zh (.int i)
theorem New.bool {b : Bool} (zh : Same Z H) : New K Z H Z H (.bl b) [] (.d (.bool b)) := .flat zh (.bl b)
theorem New.str {x : Str} (zh : Same Z H) : New K Z H Z H (.str x) [] (.d (.str x)) := .flat zh (.str x)
end

/-! ### arithmetic -/
theorem OpR.orr {X : Cx} {f : Value → Value → Sem Value} {r r' : R2} (h : OpR X f r) (h' : OpR X f r') : OpR X f (fun x y H Q => r x y H Q ∨ r' x y H Q) := by
  intro pins s σ H x y v u Q I rx ry q
  rcases q with q | q
  · exact h pins s σ H x y v u Q I rx ry q
  · exact h' pins s σ H x y v u Q I rx ry q
/-- + -/
def addO (a b : O) : Option O := match a, b with
  | .d (.int i), .d (.int j) => some (.d (.int (i + j)))
  | .d (.str x), .d (.str y) => if x.length + y.length ≤ sizeLine then some (.d (.str (x ++ y))) else none
  | .d (.tuple xs), .d (.tuple ys) => if xs.length + ys.length ≤ sizeLine then some (.d (.tuple (xs ++ ys))) else none
  | a, b => match asL a, asL b with
    | some xs, some ys => if xs.length + ys.length ≤ sizeLine then some (.l ((xs ++ ys).map O.d)) else none
    | _, _ => none
def rAdd (K : PySem.W.Frag) : R2 := fun x y H Q => (((rI0 fun i j => .int (i + j)) x y H Q ∨ (∃ i j, x = .str i ∧ y = .str j ∧ i.length + j.length ≤ sizeLine ∧ Q (.str (i ++ j)) H)) ∨ rCatA K x y H Q) ∨ rCat x y H Q
theorem o_add {X : Cx} : OpR X (binaryOp .Add) (rAdd X.K) := OpR.orr (OpR.orr (OpR.orr op_add op_add_str) op_catA) op_cat
theorem k_add {K : PySem.W.Frag} : OpOk K (rTwo (rAdd K)) (two addO) := ok2 fun Z H x y a b o Q zh ha hb e k => by
  unfold addO at e
  split at e
  · cases e
    exact .inl (.inl (.inl ⟨_, _, has_int ha, has_int hb, k _ _ _ _ (.int zh)⟩))
  · split at e
    · rename_i hz
      cases e
      exact .inl (.inl (.inr ⟨_, _, has_str ha, has_str hb, hz, k _ _ _ _ (.str zh)⟩))
    · cases e
  · split at e
    · rename_i xs ys hz
      cases e
      obtain ⟨p, vs, rfl, hp, rp⟩ := has_tup ha
      obtain ⟨q, ws, rfl, hq, rq⟩ := has_tup hb
      have l1 := rp.length
      have l2 := rq.length
      refine .inl (.inr ⟨p, q, vs, ws, rfl, rfl, sqt_mono hp zh, sqt_mono hq zh, by omega, fun e => ?_, fun _ e => ?_, fun _ _ np hn => ?_⟩)
      · subst e
        cases rp
        exact k _ _ _ _ (.flat zh (.tup hq rq))
      · subst e
        cases rq
        rw [List.append_nil] at k
        exact k _ _ _ _ (.flat zh (.tup hp rp))
      · exact k _ _ _ _ (.tuple zh hn (rp.append rq))
    · cases e
  · split at e
    · rename_i xs ys e1 e2
      split at e
      · rename_i hz
        cases e
        obtain ⟨p, vs, rfl, hp, rp⟩ := has_list zh ha e1
        obtain ⟨q, ws, rfl, hq, rq⟩ := has_list zh hb e2
        have l1 := rp.length
        have l2 := rq.length
        exact .inr ⟨p, q, vs, ws, rfl, rfl, hp, hq, by omega, fun np hn => k _ _ _ _ (.list zh hn (rp.append rq))⟩
      · cases e
    · cases e
/-- - -/
def subO (a b : O) : Option O := match a, b with
  | .d (.int i), .d (.int j) => some (.d (.int (i - j)))
  | _, _ => none
theorem k_sub {K : PySem.W.Frag} : OpOk K (rTwo (rI0 fun i j => .int (i - j))) (two subO) := ok2 fun Z H x y a b o Q zh ha hb e k => by
  unfold subO at e
  split at e
  · cases e
    exact ⟨_, _, has_int ha, has_int hb, k _ _ _ _ (.int zh)⟩
  · cases e
/-- //, a positive divisor -/
def divO (a b : O) : Option O := match a, b with
  | .d (.int i), .d (.int j) => if 0 < j ∧ j.natAbs.log2 < 9000 then some (.d (.int (i / j))) else none
  | _, _ => none
theorem k_div {K : PySem.W.Frag} : OpOk K (rTwo (rI CDivW fun i j => .int (i / j))) (two divO) := ok2 fun Z H x y a b o Q zh ha hb e k => by
  unfold divO at e
  split at e
  · split at e
    · rename_i hz
      cases e
      exact ⟨_, _, has_int ha, has_int hb, hz, k _ _ _ _ (.int zh)⟩
    · cases e
  · cases e
/-- %, a positive divisor -/
def modO (a b : O) : Option O := match a, b with
  | .d (.int i), .d (.int j) => if 0 < j then some (.d (.int (i % j))) else none
  | _, _ => none
theorem k_mod {K : PySem.W.Frag} : OpOk K (rTwo (rI (fun _ j => 0 < j) fun i j => .int (i % j))) (two modO) := ok2 fun Z H x y a b o Q zh ha hb e k => by
  unfold modO at e
  split at e
  · split at e
    · rename_i hz
      cases e
      exact ⟨_, _, has_int ha, has_int hb, hz, k _ _ _ _ (.int zh)⟩
    · cases e
  · cases e
/-- ** -/
def powO (a b : O) : Option O := match a, b with
  | .d (.int i), .d (.int j) => if 0 ≤ j ∧ j ≤ 1000000 ∧ i.natAbs < 2 ^ 64 then some (.d (.int (i ^ j.toNat))) else none
  | _, _ => none
theorem k_pow {K : PySem.W.Frag} : OpOk K (rTwo (rI CPow fun i j => .int (i ^ j.toNat))) (two powO) := ok2 fun Z H x y a b o Q zh ha hb e k => by
  unfold powO at e
  split at e
  · split at e
    · rename_i hz
      cases e
      exact ⟨_, _, has_int ha, has_int hb, hz, k _ _ _ _ (.int zh)⟩
    · cases e
  · cases e
/-- unary - -/
def negO (a : O) : Option O := match a with
  | .d (.int i) => some (.d (.int (-i)))
  | _ => none
theorem k_neg {K : PySem.W.Frag} : OpOk K (rOne (rU fun i => .int (-i))) (one negO) := okU fun Z H x a o Q zh ha e k => by
  unfold negO at e
  split at e
  · cases e
    exact ⟨_, has_int ha, k _ _ _ _ (.int zh)⟩
  · cases e

/-! ### comparisons -/
def rEqG (K : PySem.W.Frag) (neg : Bool) : R2 := fun x y H Q => ∃ Z d e, Same Z H ∧ Rp K Z x d ∧ Rp K Z y e ∧ d.canLay0 = true ∧ e.canLay0 = true ∧ min d.depth e.depth ≤ 64 ∧ Q (.bl (if neg then !(PyData.eqv d e) else PyData.eqv d e)) H
section
variable {X : Cx}
theorem o_eq (hu : X.A.units + 64 < cLine) : OpR X (compareOp .Eq) (rEqG X.K false) := by
  intro pins s σ H x y v u Q I rx ry h
  obtain ⟨Z, d, e, zh, hd, he, sd, se, hm, q⟩ := h
  obtain ⟨as, r1⟩ := Rp.reads I zh d x v hd sd rx
  obtain ⟨bs, r2⟩ := Rp.reads I zh e y u he se ry
  exact SeqAt.compareEq_reads r1 r2 sd se (by omega) ⟨.bl _, H, I, rfl, q⟩
theorem o_ne (hu : X.A.units + 64 < cLine) : OpR X (compareOp .NotEq) (rEqG X.K true) := by
  intro pins s σ H x y v u Q I rx ry h
  obtain ⟨Z, d, e, zh, hd, he, sd, se, hm, q⟩ := h
  obtain ⟨as, r1⟩ := Rp.reads I zh d x v hd sd rx
  obtain ⟨bs, r2⟩ := Rp.reads I zh e y u he se ry
  exact SeqAt.compareNe_reads r1 r2 sd se (by omega) ⟨.bl _, H, I, rfl, q⟩
end
def eqO (neg : Bool) (a b : O) : Option O := if a.pl = true ∧ b.pl = true ∧ a.data.canLay0 = true ∧ b.data.canLay0 = true ∧ min a.data.depth b.data.depth ≤ 64 then some (.d (.bool (if neg then !(PyData.eqv a.data b.data) else PyData.eqv a.data b.data))) else none
theorem k_eq {K : PySem.W.Frag} (neg : Bool) : OpOk K (rTwo (rEqG K neg)) (two (eqO neg)) := ok2 fun Z H x y a b o Q zh ha hb e k => by
  unfold eqO at e
  split at e
  · rename_i hz
    cases e
    obtain ⟨fa, ha⟩ := ha
    obtain ⟨fb, hb⟩ := hb
    exact ⟨H, _, _, fun _ _ e => e, ha.read hz.1 zh, hb.read hz.2.1 zh, hz.2.2.1, hz.2.2.2.1, hz.2.2.2.2, k _ _ _ _ (.bool zh)⟩
  · cases e
def cmpO (p : Int → Int → Bool) (a b : O) : Option O := match a, b with
  | .d (.int i), .d (.int j) => some (.d (.bool (p i j)))
  | _, _ => none
theorem k_cmp {K : PySem.W.Frag} (p : Int → Int → Bool) : OpOk K (rTwo (rI0 fun i j => .bl (p i j))) (two (cmpO p)) := ok2 fun Z H x y a b o Q zh ha hb e k => by
  unfold cmpO at e
  split at e
  · cases e
    exact ⟨_, _, has_int ha, has_int hb, k _ _ _ _ (.bool zh)⟩
  · cases e
abbrev ltO := cmpO fun i j => decide (i < j)
abbrev leO := cmpO fun i j => decide (i ≤ j)
abbrev gtO := cmpO fun i j => decide (j < i)
abbrev geO := cmpO fun i j => decide (j ≤ i)
/-- is None, is not None -/
def isNoneO : O → Bool
  | .d .none => true
  | _ => false
def isNo (neg : Bool) (a b : O) : Option O := match b with
  | .d .none => some (.d (.bool (if neg then !isNoneO a else isNoneO a)))
  | _ => none
theorem ro_none_iff {K : PySem.W.Frag} {Z H : Hp} {v : V} {a : O} (h : Has K Z H v a) : decide (v = .non) = isNoneO a := by
  obtain ⟨fp, h⟩ := h
  cases h with
  | d h => cases h <;> rfl
  | l _ _ => rfl
  | m _ _ => rfl
  | mt _ _ => rfl
  | sc _ => rfl
theorem k_isN {K : PySem.W.Frag} : OpOk K (rTwo fun x y H Q => y = .non ∧ Q (.bl (decide (x = .non))) H) (two (isNo false)) := ok2 fun Z H x y a b o Q zh ha hb e k => by
  unfold isNo at e
  split at e
  · cases e
    refine ⟨has_none hb, ?_⟩
    rw [ro_none_iff ha]
    exact k _ _ _ _ (.bool zh)
  · cases e
theorem k_notN {K : PySem.W.Frag} : OpOk K (rTwo fun x y H Q => y = .non ∧ Q (.bl (!decide (x = .non))) H) (two (isNo true)) := ok2 fun Z H x y a b o Q zh ha hb e k => by
  unfold isNo at e
  split at e
  · cases e
    refine ⟨has_none hb, ?_⟩
    rw [ro_none_iff ha]
    exact k _ _ _ _ (.bool zh)
  · cases e
end Bv
set_option Elab.async false
set_option linter.all false
set_option maxRecDepth 100000
/-! Bv7: membership, subscripts, slices, built-in calls, displays, by value. -/
namespace Bv
open PySem PySem.Spec PyProof.Rows L2

theorem CallR.orr {X : Cx} {f : Value} {r r' : List V → Hp → VK → Prop} (h : CallR X f r) (h' : CallR X f r') : CallR X f (fun xs H Q => r xs H Q ∨ r' xs H Q) := by
  intro pins s σ H xs us Q I rx q
  rcases q with q | q
  · exact h pins s σ H xs us Q I rx q
  · exact h' pins s σ H xs us Q I rx q

/-! ### in -/
def rInG (K : PySem.W.Frag) (neg : Bool) : R2 := fun x y H Q => ∃ Z d ds, Same Z H ∧ Rp K Z x d ∧ (Rp K Z y (.list ds) ∨ Rp K Z y (.tuple ds)) ∧ d.canLay0 = true ∧ PyData.canLayAll0 ds = true ∧ min (PyData.depthAll ds) d.depth ≤ 64 ∧
  Q (.bl (if neg then !(ds.any fun z => PyData.eqv z d) else ds.any fun z => PyData.eqv z d)) H
section
variable {X : Cx}
theorem o_inG (hu : X.A.units + 66 < cLine) : OpR X (compareOp .In) (rInG X.K false) := by
  intro pins s σ H x y v u Q I rx ry h
  obtain ⟨Z, d, ds, zh, hd, he, sd, se, hm, q⟩ := h
  obtain ⟨as, r1⟩ := Rp.reads I zh d x v hd sd rx
  rcases he with he | he
  · obtain ⟨bs, r2⟩ := Rp.reads I zh (.list ds) y u he (by simpa [PyData.canLay0] using se) ry
    exact SeqAt.in_list_reads r2 r1 se sd (by omega) ⟨.bl _, H, I, rfl, q⟩
  · obtain ⟨bs, r2⟩ := Rp.reads I zh (.tuple ds) y u he (by simpa [PyData.canLay0] using se) ry
    exact SeqAt.in_tuple_reads r2 r1 se sd (by omega) ⟨.bl _, H, I, rfl, q⟩
theorem o_notInG (hu : X.A.units + 66 < cLine) : OpR X (compareOp .NotIn) (rInG X.K true) := by
  intro pins s σ H x y v u Q I rx ry h
  obtain ⟨Z, d, ds, zh, hd, he, sd, se, hm, q⟩ := h
  obtain ⟨as, r1⟩ := Rp.reads I zh d x v hd sd rx
  rcases he with he | he
  · obtain ⟨bs, r2⟩ := Rp.reads I zh (.list ds) y u he (by simpa [PyData.canLay0] using se) ry
    exact SeqAt.notIn_list_reads r2 r1 se sd (by omega) ⟨.bl _, H, I, rfl, q⟩
  · obtain ⟨bs, r2⟩ := Rp.reads I zh (.tuple ds) y u he (by simpa [PyData.canLay0] using se) ry
    exact SeqAt.notIn_tuple_reads r2 r1 se sd (by omega) ⟨.bl _, H, I, rfl, q⟩
end
def seqD : PyData → Option (List PyData)
  | .list ts => some ts
  | .tuple ts => some ts
  | _ => none
def inO (neg : Bool) (a b : O) : Option O := if a.pl = true ∧ b.pl = true then (seqD b.data).bind fun ds =>
  if a.data.canLay0 = true ∧ PyData.canLayAll0 ds = true ∧ min (PyData.depthAll ds) a.data.depth ≤ 64 then some (.d (.bool (if neg then !(ds.any fun z => PyData.eqv z a.data) else ds.any fun z => PyData.eqv z a.data))) else none else none
theorem seqD_some {t : PyData} {ds : List PyData} (h : seqD t = some ds) : t = .list ds ∨ t = .tuple ds := by
  unfold seqD at h
  split at h
  · cases h; exact .inl rfl
  · cases h; exact .inr rfl
  · cases h
theorem k_in {K : PySem.W.Frag} (neg : Bool) : OpOk K (rTwo (rInG K neg)) (two (inO neg)) := ok2 fun Z H x y a b o Q zh ha hb e k => by
  unfold inO at e
  split at e
  · rename_i hp
    cases es : seqD b.data with
    | none => rw [es] at e; cases e
    | some ds =>
      rw [es] at e
      simp only [Option.bind_some] at e
      split at e
      · rename_i hz
        cases e
        obtain ⟨fa, ha⟩ := ha
        obtain ⟨fb, hb⟩ := hb
        have h2 := hb.read hp.2 zh
        refine ⟨H, a.data, ds, fun _ _ e => e, ha.read hp.1 zh, ?_, hz.1, hz.2.1, hz.2.2, k _ _ _ _ (.bool zh)⟩
        rcases seqD_some es with e | e
        · rw [e] at h2; exact .inl h2
        · rw [e] at h2; exact .inr h2
      · cases e
  · cases e
/-- a sign in a text -/
def signO (neg : Bool) (a b : O) : Option O := match a, b with
  | .d (.str x), .d (.str z) => match x.cps.toList with
    | [c] => some (.d (.bool (if neg then !(decide (c ∈ z.cps.toList)) else decide (c ∈ z.cps.toList))))
    | _ => none
  | _, _ => none
theorem str_one {x : Str} {c : Nat} (h : x.cps.toList = [c]) : x = ⟨#[c]⟩ := by
  obtain ⟨a⟩ := x
  have h : a.toList = [c] := h
  rw [show a = #[c] from Array.toList_inj.mp h]
theorem k_sign {K : PySem.W.Frag} : OpOk K (rTwo fun x y H Q => ∃ (c : Nat) (z : Str), x = .str ⟨#[c]⟩ ∧ y = .str z ∧ Q (.bl (decide (c ∈ z.cps.toList))) H) (two (signO false)) := ok2 fun Z H x y a b o Q zh ha hb e k => by
  unfold signO at e
  split at e
  · split at e
    · rename_i ec
      cases e
      have h1 := has_str ha
      rw [str_one ec] at h1
      exact ⟨_, _, h1, has_str hb, k _ _ _ _ (.bool zh)⟩
    · cases e
  · cases e
theorem k_signN {K : PySem.W.Frag} : OpOk K (rTwo fun x y H Q => ∃ (c : Nat) (z : Str), x = .str ⟨#[c]⟩ ∧ y = .str z ∧ Q (.bl (!decide (c ∈ z.cps.toList))) H) (two (signO true)) := ok2 fun Z H x y a b o Q zh ha hb e k => by
  unfold signO at e
  split at e
  · split at e
    · rename_i ec
      cases e
      have h1 := has_str ha
      rw [str_one ec] at h1
      exact ⟨_, _, h1, has_str hb, k _ _ _ _ (.bool zh)⟩
    · cases e
  · cases e

/-! ### subscripts -/
def rIxA (K : PySem.W.Frag) : R2 := fun x y H Q => (rIxL K x y H Q ∨ rIxT K x y H Q) ∨ rIxS x y H Q
theorem ix_any {X : Cx} : IxR X (rIxA X.K) := (IxR.or (IxR.or ix_list ix_tup) ix_str)
theorem atI_map {α β : Type} (f : α → β) (xs : List α) (i : Int) : atI (xs.map f) i = (atI xs i).map f := by
  unfold atI
  rw [List.length_map]
  cases ixN xs.length i with
  | none => rfl
  | some j => simp
theorem rps_atI {K : PySem.W.Frag} {Z : Hp} {vs : List V} {ts : List PyData} {i : Int} {t : PyData} (r : Rps K Z vs ts) (h : atI ts i = some t) : ∃ v, atI vs i = some v ∧ Rp K Z v t := by
  unfold atI at h ⊢
  rw [← r.length] at h
  cases e : ixN vs.length i with
  | none => rw [e] at h; cases h
  | some j =>
    rw [e] at h
    simp only [Option.bind_some] at h ⊢
    have hj : j < vs.length := by
      have := (List.getElem?_eq_some_iff.mp h).1
      rw [r.length]; exact this
    obtain ⟨t2, h1, h2⟩ := r.get (List.getElem?_eq_getElem hj)
    rw [h] at h1
    cases h1
    exact ⟨vs[j], List.getElem?_eq_getElem hj, h2⟩
def ixO (a b : O) : Option O := match b with
  | .d (.int i) => match a with
    | .d (.tuple ts) => (atI ts i).bind fun t => some (.d t)
    | .d (.str z) => if z.length ≤ sizeLine then (atI z.cps.toList i).bind fun c => some (.d (.str ⟨#[c]⟩)) else none
    | a => (asL a).bind fun ts => (atI ts i).bind fun t => some (.d t)
  | _ => none
theorem k_ix {K : PySem.W.Frag} : OpOk K (rTwo (rIxA K)) (two ixO) := ok2 fun Z H x y a b o Q zh ha hb e k => by
  unfold ixO at e
  split at e
  · rename_i i
    have hi := has_int hb
    split at e
    · rename_i ts
      cases et : atI ts i with
      | none => rw [et] at e; cases e
      | some t =>
        rw [et] at e
        cases e
        obtain ⟨p, vs, rfl, hp, rp⟩ := has_tup ha
        obtain ⟨v, ev, rv⟩ := rps_atI rp et
        exact .inl (.inr ⟨p, vs, i, v, rfl, hi, sqt_mono hp zh, ev, k _ _ _ _ (.flat zh rv)⟩)
    · rename_i z
      split at e
      · rename_i hz
        cases et : atI z.cps.toList i with
        | none => rw [et] at e; cases e
        | some c =>
          rw [et] at e
          cases e
          exact .inr ⟨z, i, c, has_str ha, hi, hz, et, k _ _ _ _ (.str zh)⟩
      · cases e
    · cases el : asL a with
      | none => rw [el] at e; cases e
      | some ts =>
        rw [el] at e
        simp only [Option.bind_some] at e
        cases et : atI ts i with
        | none => rw [et] at e; cases e
        | some t =>
          rw [et] at e
          cases e
          obtain ⟨p, vs, rfl, hp, rp⟩ := has_list zh ha el
          obtain ⟨v, ev, rv⟩ := rps_atI rp et
          exact .inl (.inl ⟨p, vs, i, v, rfl, hi, SqL.of hp, ev, k _ _ _ _ (.flat zh (rv))⟩)
  · cases e

/-! ### slices -/
def cutD {α : Type} (xs : List α) (lo hi : Option Int) : List α := (xs.drop (HT.sIx xs.length 0 lo)).take (HT.sIx xs.length xs.length hi - HT.sIx xs.length 0 lo)
theorem rps_cut {K : PySem.W.Frag} {Z : Hp} {vs : List V} {ts : List PyData} (r : Rps K Z vs ts) (lo hi : Option Int) : Rps K Z (cutV vs lo hi) (cutD ts lo hi) := by
  unfold cutV cutD
  rw [r.length]
  exact (r.drop _).take _
theorem rps_ints {K : PySem.W.Frag} {Z : Hp} (ns : List Int) : Rps K Z (ns.map V.int) (ns.map PyData.int) := by
  induction ns with
  | nil => exact .nil
  | cons n ns ih => exact .cons (.int n) ih
def rSlA4 (K : PySem.W.Frag) : V → Option Int → Option Int → Hp → VK → Prop := fun x lo hi H Q => (rSlL K x lo hi H Q ∨ rSlA K x lo hi H Q) ∨ rSlS x lo hi H Q
theorem sl_any {X : Cx} : SlR X (rSlA4 X.K) := SlR.or (SlR.or sl_list sl_tupA) sl_str
def slO (lo hi : Option Int) (a : O) : Option O := match a with
  | .d (.tuple ts) => some (.d (.tuple (cutD ts lo hi)))
  | .d (.str z) => if z.length ≤ sizeLine then some (.d (.str (cutS z lo hi))) else none
  | .sc ns => some (.l ((cutD (ns.map PyData.int) lo hi).map O.d))
  | a => (asL a).bind fun ts => some (.l ((cutD ts lo hi).map O.d))
theorem cut_whole {α : Type} {xs : List α} {lo hi : Option Int} (h : HT.sIx xs.length 0 lo = 0 ∧ HT.sIx xs.length xs.length hi = xs.length) : cutD xs lo hi = xs := by
  unfold cutD
  rw [h.1, h.2, List.drop_zero, Nat.sub_zero, List.take_length]
theorem k_sl {K : PySem.W.Frag} {Z H : Hp} {x : V} {a o : O} {lo hi : Option Int} {Q : VK} (zh : Same Z H) (ha : Has K Z H x a) (e : slO lo hi a = some o) (k : ∀ Z' H' v fp, New K Z H Z' H' v fp o → Q v H') : rSlA4 K x lo hi H Q := by
  unfold slO at e
  split at e
  · cases e
    obtain ⟨p, vs, rfl, hp, rp⟩ := has_tup ha
    have hl := rp.length
    refine .inl (.inr ⟨p, vs, rfl, sqt_mono hp zh, fun hw => ?_, fun _ np hn => k _ _ _ _ (.tuple zh hn (rps_cut rp lo hi))⟩)
    rw [hl] at hw
    rw [cut_whole hw] at k
    exact k _ _ _ _ (.flat zh (.tup hp rp))
  · split at e
    · rename_i hz
      cases e
      exact .inr ⟨_, has_str ha, hz, k _ _ _ _ (.str zh)⟩
    · cases e
  · cases e
    obtain ⟨_, ha⟩ := ha
    cases ha with
    | sc h => exact .inl (.inl ⟨_, _, rfl, zh.seq h, fun np hn => k _ _ _ _ (.list zh hn (rps_cut (rps_ints _) lo hi))⟩)
  · cases el : asL a with
    | none => rw [el] at e; cases e
    | some ts =>
      rw [el] at e
      cases e
      obtain ⟨p, vs, rfl, hp, rp⟩ := has_list zh ha el
      exact .inl (.inl ⟨p, vs, rfl, SqL.of hp, fun np hn => k _ _ _ _ (.list zh hn (rps_cut rp lo hi))⟩)
def intA : O → Option Int
  | .d (.int i) => some i
  | _ => none
theorem intA_some {a : O} {i : Int} (h : intA a = some i) : a = .d (.int i) := by
  unfold intA at h
  split at h
  · cases h; rfl
  · cases h
def slLH : List O → Option O
  | [a, l, h] => (intA l).bind fun i => (intA h).bind fun j => slO (some i) (some j) a
  | _ => none
def slL : List O → Option O
  | [a, l] => (intA l).bind fun i => slO (some i) none a
  | _ => none
def slH : List O → Option O
  | [a, h] => (intA h).bind fun j => slO none (some j) a
  | _ => none
theorem EvA.op2_ {K : PySem.W.Frag} {σ : Sl} {H : Hp} {pa pb : Bool} {fa fb : Ev} {g : List O → Option O} {r : List V → Hp → VK → Prop} {Q : VK} (ok : OpOk K r g) (h : EvR K (pa && pb) (opF g (consF pb fa (consF true fb nilF))) σ H Q) :
    EvR K pa fa σ H fun x H1 => EvR K pb fb σ H1 fun y H2 => r [x, y] H2 Q := by
  have h1 := EvA.op_ (p := pa && pb) ok h
  have h2 : EvA K (pa && (pb && true)) (consF (pb && true) fa (consF true fb nilF)) σ H (fun vs H1 => r vs H1 Q) := by rw [Bool.and_true]; exact h1
  obtain ⟨Z, fr, fp, r1, fr1, w, e, k⟩ := h2.cons_
  refine ⟨Z, fr, fp, r1, fr1, w, e, fun Z1 H1 v fp1 w1 x1 b1 pu1 => ?_⟩
  obtain ⟨Z, fr, fp, r1, fr1, w, e, k⟩ := (k Z1 H1 v fp1 w1 x1 b1 pu1).cons_
  exact ⟨Z, fr, fp, r1, fr1, w, e, fun Z1 H1 v fp1 w1 x1 b1 pu1 => (k Z1 H1 v fp1 w1 x1 b1 pu1).nil_⟩
theorem EvA.op3_ {K : PySem.W.Frag} {σ : Sl} {H : Hp} {pa pb pc : Bool} {fa fb fc : Ev} {g : List O → Option O} {r : List V → Hp → VK → Prop} {Q : VK} (ok : OpOk K r g) (h : EvR K (pa && (pb && pc)) (opF g (consF (pb && pc) fa (consF pc fb (consF true fc nilF)))) σ H Q) :
    EvR K pa fa σ H fun x H1 => EvR K pb fb σ H1 fun y H2 => EvR K pc fc σ H2 fun z H3 => r [x, y, z] H3 Q := by
  have h1 := EvA.op_ (p := pa && (pb && pc)) ok h
  have h2 : EvA K (pa && (pb && (pc && true))) (consF (pb && (pc && true)) fa (consF (pc && true) fb (consF true fc nilF))) σ H (fun vs H1 => r vs H1 Q) := by rw [Bool.and_true]; exact h1
  obtain ⟨Z, fr, fp, r1, fr1, w, e, k⟩ := h2.cons_
  refine ⟨Z, fr, fp, r1, fr1, w, e, fun Z1 H1 v fp1 w1 x1 b1 pu1 => ?_⟩
  obtain ⟨Z, fr, fp, r1, fr1, w, e, k⟩ := (k Z1 H1 v fp1 w1 x1 b1 pu1).cons_
  refine ⟨Z, fr, fp, r1, fr1, w, e, fun Z1 H1 v fp1 w1 x1 b1 pu1 => ?_⟩
  obtain ⟨Z, fr, fp, r1, fr1, w, e, k⟩ := (k Z1 H1 v fp1 w1 x1 b1 pu1).cons_
  exact ⟨Z, fr, fp, r1, fr1, w, e, fun Z1 H1 v fp1 w1 x1 b1 pu1 => (k Z1 H1 v fp1 w1 x1 b1 pu1).nil_⟩
/-- .. an int -/
def intF (f : Ev) : Ev := fun fr => (f fr).bind fun x => match x.1 with
  | .own (.d (.int i)) => some (.own (.d (.int i)), x.2)
  | _ => none
theorem EvR.int_ {K : PySem.W.Frag} {σ : Sl} {H : Hp} {p : Bool} {f : Ev} {Q : VK} (h : EvR K p (intF f) σ H Q) : EvR K p f σ H fun y H1 => ∃ i, y = .int i ∧ Q (.int i) H1 := by
  obtain ⟨Z, fr, fp, r, fr', w, e, k⟩ := h
  unfold intF at e
  cases ef : f fr with
  | none => rw [ef] at e; cases e
  | some x =>
    obtain ⟨r1, fr1⟩ := x
    rw [ef] at e
    simp only [Option.bind_some] at e
    refine ⟨Z, fr, fp, r1, fr1, w, ef, fun Z1 H1 v fp1 w1 x1 b1 pu1 => ?_⟩
    split at e
    · rename_i i
      cases e
      have hv : v = .int i := by
        cases w1.rt with
        | so q _ => exact rd_int q
      subst hv
      exact ⟨i, rfl, k Z1 H1 _ fp1 w1 x1 b1 pu1⟩
    · cases e
theorem k_slLH {K : PySem.W.Frag} : OpOk K (fun vs H Q => ∀ x i j, vs = [x, .int i, .int j] → rSlA4 K x (some i) (some j) H Q) slLH := by
  intro Z H vs os o Q zh rd eg k x i j hv
  subst hv
  cases rd with
  | cons q rd =>
    cases rd with
    | cons q2 rd =>
      cases rd with
      | cons q3 rd =>
        cases rd
        unfold slLH at eg
        dsimp only at eg
        rename_i a b c
        cases e1 : intA b with
        | none => rw [e1] at eg; cases eg
        | some i' =>
          rw [e1] at eg
          simp only [Option.bind_some] at eg
          cases e2 : intA c with
          | none => rw [e2] at eg; cases eg
          | some j' =>
            rw [e2] at eg
            have h1 := intA_some e1
            have h2 := intA_some e2
            subst h1
            subst h2
            have h3 := has_int q2
            have h4 := has_int q3
            cases h3
            cases h4
            exact k_sl zh q eg k
theorem k_slL {K : PySem.W.Frag} : OpOk K (fun vs H Q => ∀ x i, vs = [x, .int i] → rSlA4 K x (some i) none H Q) slL := by
  intro Z H vs os o Q zh rd eg k x i hv
  subst hv
  cases rd with
  | cons q rd =>
    cases rd with
    | cons q2 rd =>
      cases rd
      unfold slL at eg
      dsimp only at eg
      rename_i a b
      cases e1 : intA b with
      | none => rw [e1] at eg; cases eg
      | some i' =>
        rw [e1] at eg
        have h1 := intA_some e1
        subst h1
        have h3 := has_int q2
        cases h3
        exact k_sl zh q eg k
theorem k_slH {K : PySem.W.Frag} : OpOk K (fun vs H Q => ∀ x i, vs = [x, .int i] → rSlA4 K x none (some i) H Q) slH := by
  intro Z H vs os o Q zh rd eg k x i hv
  subst hv
  cases rd with
  | cons q rd =>
    cases rd with
    | cons q2 rd =>
      cases rd
      unfold slH at eg
      dsimp only at eg
      rename_i a b
      cases e1 : intA b with
      | none => rw [e1] at eg; cases eg
      | some i' =>
        rw [e1] at eg
        have h1 := intA_some e1
        subst h1
        have h3 := has_int q2
        cases h3
        exact k_sl zh q eg k
def cutLH (pb pc : Bool) (fa fb fc : Ev) : Ev := opF slLH (consF (pb && pc) fa (consF pc (intF fb) (consF true (intF fc) nilF)))
def cutL (pb : Bool) (fa fb : Ev) : Ev := opF slL (consF pb fa (consF true (intF fb) nilF))
def cutH (pb : Bool) (fa fb : Ev) : Ev := opF slH (consF pb fa (consF true (intF fb) nilF))
section
variable {X : Cx} {e lo hi : Expr} {pos p2 : Pos} {pa pb pc : Bool} {fa fb fc : Ev}
theorem e_slLH (he : PE X e (EvR X.K pa fa)) (hl : PE X lo (EvR X.K pb fb)) (hh : PE X hi (EvR X.K pc fc)) : PE X (.Subscript e (.Slice (some lo) (some hi) none p2) pos) (EvR X.K (pa && (pb && pc)) (cutLH pb pc fa fb fc)) := by
  refine imp (pe_slice sl_any he (po_some hl) (po_some hh)) fun σ H Q h => ?_
  obtain ⟨Z, fr, fp, r1, fr1, w, e, k⟩ := EvA.op3_ k_slLH h
  refine ⟨Z, fr, fp, r1, fr1, w, e, fun Z1 H1 v fp1 w1 x1 b1 pu1 => ?_⟩
  obtain ⟨Z, fr, fp, r1, fr1, w, e, k⟩ := (k Z1 H1 v fp1 w1 x1 b1 pu1).int_
  refine ⟨Z, fr, fp, r1, fr1, w, e, fun Z1 H1 v1 fp1 w1 x1 b1 pu1 => ?_⟩
  obtain ⟨i, hi, k⟩ := k Z1 H1 v1 fp1 w1 x1 b1 pu1
  refine ⟨i, hi, ?_⟩
  obtain ⟨Z, fr, fp, r1, fr1, w, e, k⟩ := k.int_
  refine ⟨Z, fr, fp, r1, fr1, w, e, fun Z1 H1 v2 fp1 w1 x1 b1 pu1 => ?_⟩
  obtain ⟨j, hj, k⟩ := k Z1 H1 v2 fp1 w1 x1 b1 pu1
  exact ⟨j, hj, k v i j rfl⟩
theorem e_slL (he : PE X e (EvR X.K pa fa)) (hl : PE X lo (EvR X.K pb fb)) : PE X (.Subscript e (.Slice (some lo) none none p2) pos) (EvR X.K (pa && pb) (cutL pb fa fb)) := by
  refine imp (pe_slice sl_any he (po_some hl) po_none) fun σ H Q h => ?_
  obtain ⟨Z, fr, fp, r1, fr1, w, e, k⟩ := EvA.op2_ k_slL h
  refine ⟨Z, fr, fp, r1, fr1, w, e, fun Z1 H1 v fp1 w1 x1 b1 pu1 => ?_⟩
  obtain ⟨Z, fr, fp, r1, fr1, w, e, k⟩ := (k Z1 H1 v fp1 w1 x1 b1 pu1).int_
  refine ⟨Z, fr, fp, r1, fr1, w, e, fun Z1 H1 v1 fp1 w1 x1 b1 pu1 => ?_⟩
  obtain ⟨i, hi, k⟩ := k Z1 H1 v1 fp1 w1 x1 b1 pu1
  exact ⟨i, hi, k v i rfl⟩
theorem e_slH (he : PE X e (EvR X.K pa fa)) (hl : PE X hi (EvR X.K pb fb)) : PE X (.Subscript e (.Slice none (some hi) none p2) pos) (EvR X.K (pa && pb) (cutH pb fa fb)) := by
  refine imp (pe_slice sl_any he po_none (po_some hl)) fun σ H Q h => ?_
  obtain ⟨Z, fr, fp, r1, fr1, w, e, k⟩ := EvA.op2_ k_slH h
  refine ⟨Z, fr, fp, r1, fr1, w, e, fun Z1 H1 v fp1 w1 x1 b1 pu1 => ?_⟩
  obtain ⟨Z, fr, fp, r1, fr1, w, e, k⟩ := (k Z1 H1 v fp1 w1 x1 b1 pu1).int_
  refine ⟨Z, fr, fp, r1, fr1, w, e, fun Z1 H1 v1 fp1 w1 x1 b1 pu1 => ?_⟩
  obtain ⟨i, hi, k⟩ := k Z1 H1 v1 fp1 w1 x1 b1 pu1
  exact ⟨i, hi, k v i rfl⟩
end
/-- xs[::-1], a list -/
def revO (a : O) : Option O := (asL a).bind fun ts => some (.l (ts.reverse.map O.d))
theorem k_rev {K : PySem.W.Frag} : OpOk K (rOne fun x H1 Q => ∃ a xs, x = .ref a ∧ SqL K H1 a xs ∧ ∀ p, H1 p = none → Q (.ref p) (upd H1 p (.lst xs.reverse))) (one revO) := okU fun Z H x a o Q zh ha e k => by
  unfold revO at e
  cases el : asL a with
  | none => rw [el] at e; cases e
  | some ts =>
    rw [el] at e
    cases e
    obtain ⟨p, vs, rfl, hp, rp⟩ := has_list zh ha el
    exact ⟨p, vs, rfl, SqL.of hp, fun np hn => k _ _ _ _ (.list zh hn rp.reverse)⟩
theorem e_rev {X : Cx} {e : Expr} {p1 p2 p3 pos : Pos} {k : Nat} {pa : Bool} {fa : Ev} (he : PE X e (EvR X.K pa fa)) : PE X (.Subscript e (.Slice none none (some (.UnaryOp .USub (.Constant (.int 1) k p1) p2)) p3) pos) (EvR X.K pa (una (one revO) fa)) :=
  imp (pe_revL he) fun _ _ _ h => EvR.una_ k_rev h

/-! ### calls of built-ins -/
section
variable {X : Cx} {x : Str} {p pos : Pos} {e : Expr} {es : List Expr} {id T : String} {r : List V → Hp → VK → Prop} {g : List O → Option O} {pa : Bool} {fa : Eva}
theorem e_fn (hc : CallR X (.builtin id) r) (ok : OpOk X.K r g) (hg : Gl X x) (hm : X.mg x = none) (hv : bootBuiltins x = some (.builtin id)) (ha : PA X (e :: es) (EvA X.K pa fa)) (hn : x ≠ "__name__" := by decide) (hdb : (x == ("__debug__" : Str)) = false := by decide)
    (he : starEach (e :: es) X.env = (false, eval e X.env) :: starEach es X.env := by rfl) (hpl : (backTo pos (starEach es X.env)).any (·.1) = false := by rfl) : PE X (.Call (.Name x p) (e :: es) [] pos) (EvR X.K pa (opF g fa)) :=
  imp (pe_callB hc hg hm hv ha hn hdb he hpl) fun _ _ _ h => EvA.op_ ok h
theorem e_ty (hc : CallR X (.type T) r) (ok : OpOk X.K r g) (hg : Gl X x) (hm : X.mg x = none) (hv : bootBuiltins x = some (.type T)) (ha : PA X (e :: es) (EvA X.K pa fa)) (hn : x ≠ "__name__" := by decide) (hdb : (x == ("__debug__" : Str)) = false := by decide)
    (he : starEach (e :: es) X.env = (false, eval e X.env) :: starEach es X.env := by rfl) (hpl : (backTo pos (starEach es X.env)).any (·.1) = false := by rfl) : PE X (.Call (.Name x p) (e :: es) [] pos) (EvR X.K pa (opF g fa)) :=
  imp (pe_callTy hc hg hm hv ha hn hdb he hpl) fun _ _ _ h => EvA.op_ ok h
end
/-- len of a list, a tuple, a text, an owned dict -/
def lenO (a : O) : Option O := match a with
  | .d (.tuple ts) => some (.d (.int (ts.length : Nat)))
  | .d (.str z) => if z.length ≤ sizeLine then some (.d (.int (z.length : Nat))) else none
  | .d (.list ts) => some (.d (.int (ts.length : Nat)))
  | .l os => some (.d (.int (os.length : Nat)))
  | _ => none
theorem k_len {K : PySem.W.Frag} : OpOk K (fun xs H Q => ∃ x n, xs = [x] ∧ LenV K x H n ∧ Q (.int n) H) (one lenO) := ok1 fun Z H x a o Q zh ha e k => by
  unfold lenO at e
  split at e
  · cases e
    obtain ⟨p, vs, rfl, hp, rp⟩ := has_tup ha
    exact ⟨_, _, rfl, .inr ⟨vs, sqt_mono hp zh, rp.length.symm⟩, k _ _ _ _ (.int zh)⟩
  · split at e
    · rename_i z hz
      cases e
      have h := has_str ha
      subst h
      exact ⟨_, z.length, rfl, ⟨hz, rfl⟩, k _ _ _ _ (.int zh)⟩
    · cases e
  · cases e
    obtain ⟨p, vs, rfl, hp, rp⟩ := has_list (o := .d (.list _)) zh ha rfl
    exact ⟨_, _, rfl, .inl ⟨vs, SqL.of hp, rp.length.symm⟩, k _ _ _ _ (.int zh)⟩
  · cases e
    obtain ⟨_, ha⟩ := ha
    cases ha with
    | l e r => exact ⟨_, _, rfl, .inl ⟨_, SqL.of e, r.length.symm⟩, k _ _ _ _ (.int zh)⟩
  · cases e
/-- list(x), tuple(x) of a list or tuple of frozen items -/
def listO (a : O) : Option O := match a with
  | .d (.tuple ts) => some (.l (ts.map O.d))
  | a => (asL a).bind fun ts => some (.l (ts.map O.d))
theorem k_list {K : PySem.W.Frag} : OpOk K (fun xs H Q => ∃ p ys, xs = [.ref p] ∧ (SqL K H p ys ∨ SqT K H p ys) ∧ ∀ l, H l = none → Q (.ref l) (upd H l (.lst ys))) (one listO) := ok1 fun Z H x a o Q zh ha e k => by
  unfold listO at e
  split at e
  · cases e
    obtain ⟨p, vs, rfl, hp, rp⟩ := has_tup ha
    exact ⟨p, vs, rfl, .inr (sqt_mono hp zh), fun np hn => k _ _ _ _ (.list zh hn rp)⟩
  · cases el : asL a with
    | none => rw [el] at e; cases e
    | some ts =>
      rw [el] at e
      cases e
      obtain ⟨p, vs, rfl, hp, rp⟩ := has_list zh ha el
      exact ⟨p, vs, rfl, .inl (SqL.of hp), fun np hn => k _ _ _ _ (.list zh hn rp)⟩
def tupleO (a : O) : Option O := match a with
  | .d (.tuple ts) => some (.d (.tuple ts))
  | a => (asL a).bind fun ts => some (.d (.tuple ts))
theorem k_tuple {K : PySem.W.Frag} : OpOk K (fun xs H Q => ∃ p ys, xs = [.ref p] ∧ ((SqL K H p ys ∧ ∀ l, H l = none → Q (.ref l) (upd H l (.tup ys))) ∨ (SqT K H p ys ∧ Q (.ref p) H))) (one tupleO) := ok1 fun Z H x a o Q zh ha e k => by
  unfold tupleO at e
  split at e
  · cases e
    obtain ⟨p, vs, rfl, hp, rp⟩ := has_tup ha
    exact ⟨p, vs, rfl, .inr ⟨sqt_mono hp zh, k _ _ _ _ (.flat zh (.tup hp rp))⟩⟩
  · cases el : asL a with
    | none => rw [el] at e; cases e
    | some ts =>
      rw [el] at e
      cases e
      obtain ⟨p, vs, rfl, hp, rp⟩ := has_list zh ha el
      exact ⟨p, vs, rfl, .inl ⟨SqL.of hp, fun np hn => k _ _ _ _ (.tuple zh hn rp)⟩⟩
/-- all, any of a list of truths -/
def boolsOf : List PyData → Option (List Bool)
  | [] => some []
  | .bool b :: ts => (boolsOf ts).bind fun bs => some (b :: bs)
  | _ => none
theorem boolsOf_some {K : PySem.W.Frag} {Z : Hp} : ∀ {ts : List PyData} {bs : List Bool} {vs : List V}, boolsOf ts = some bs → Rps K Z vs ts → vs = bs.map V.bl
  | [], _, _, h, r => by cases h; cases r; rfl
  | t :: ts, bs, vs, h, r => by
    cases t with
    | bool b =>
      unfold boolsOf at h
      cases e : boolsOf ts with
      | none => rw [e] at h; cases h
      | some cs =>
        rw [e] at h
        cases h
        cases r with
        | cons q r =>
          cases q
          rw [boolsOf_some e r]
          rfl
    | _ => cases h
def allO (a : O) : Option O := (asL a).bind fun ts => (boolsOf ts).bind fun bs => some (.d (.bool (bs.all id)))
def anyO (a : O) : Option O := (asL a).bind fun ts => (boolsOf ts).bind fun bs => some (.d (.bool (bs.any id)))
theorem k_all {K : PySem.W.Frag} : OpOk K (rAll K) (one allO) := ok1 fun Z H x a o Q zh ha e k => by
  unfold allO at e
  cases el : asL a with
  | none => rw [el] at e; cases e
  | some ts =>
    rw [el] at e
    simp only [Option.bind_some] at e
    cases eb : boolsOf ts with
    | none => rw [eb] at e; cases e
    | some bs =>
      rw [eb] at e
      cases e
      obtain ⟨p, vs, rfl, hp, rp⟩ := has_list zh ha el
      rw [boolsOf_some eb rp] at hp
      exact ⟨p, bs, rfl, SqL.of hp, k _ _ _ _ (.bool zh)⟩
theorem k_any {K : PySem.W.Frag} : OpOk K (rAny K) (one anyO) := ok1 fun Z H x a o Q zh ha e k => by
  unfold anyO at e
  cases el : asL a with
  | none => rw [el] at e; cases e
  | some ts =>
    rw [el] at e
    simp only [Option.bind_some] at e
    cases eb : boolsOf ts with
    | none => rw [eb] at e; cases e
    | some bs =>
      rw [eb] at e
      cases e
      obtain ⟨p, vs, rfl, hp, rp⟩ := has_list zh ha el
      rw [boolsOf_some eb rp] at hp
      exact ⟨p, bs, rfl, SqL.of hp, k _ _ _ _ (.bool zh)⟩

/-! ### isinstance, a written built-in class -/
def tyName : PyData → String
  | .none => "NoneType"
  | .bool _ => "bool"
  | .int _ => "int"
  | .str _ => "str"
  | .list _ => "list"
  | .tuple _ => "tuple"
  | .dict _ => "dict"
def isTy (t : PyData) (T : String) : Bool := tyName t == T || (tyName t == "bool" && T == "int")
theorem rp_ty {K : PySem.W.Frag} {H : Hp} {v : V} {t : PyData} (h : Rp K H v t) : TyX K H v (.type (tyName t)) := by
  cases h with
  | non => exact .base .non
  | bl b => exact .base (.bl b)
  | int i => exact .base (.int i)
  | str x => exact .base (.str x)
  | lst e r => exact .base (.lst e)
  | tup e r =>
    rcases e with (e | ⟨o, e⟩) | ⟨o, its, n, e, c, _⟩
    · exact .base (.tup e)
    · exact .fTuple e
    · exact .kTuple e c
  | dK e r => exact .base (.dK e)
  | dT e r => exact .base (.dT e)
theorem kit_all : ∀ n ∈ ["NoneType", "bool", "int", "str", "list", "tuple", "dict"], ∀ T ∈ ["str", "int", "bool", "tuple", "list", "dict"], kitB n T = some (n == T || (n == "bool" && T == "int")) := by decide +kernel
theorem kit_is (K : PySem.W.Frag) (t : PyData) {T : String} (hT : T ∈ ["str", "int", "bool", "tuple", "list", "dict"]) : PySem.W.kitOne K (.type (tyName t)) (.type T) = some (isTy t T) :=
  kit_ty (kit_all _ (by cases t <;> simp [tyName]) _ hT)
def isiO (T : String) (a : O) : Option O := if a.pl = true then some (.d (.bool (isTy a.data T))) else none
theorem k_isi {K : PySem.W.Frag} {T : String} (hT : T ∈ ["str", "int", "bool", "tuple", "list", "dict"]) : OpOk K (rOne fun x H Q => rIsi K [x, .ty T] H Q) (one (isiO T)) := okU fun Z H x a o Q zh ha e k => by
  unfold isiO at e
  split at e
  · rename_i hp
    cases e
    obtain ⟨fa, ha⟩ := ha
    exact ⟨x, .ty T, .type (tyName a.data), .type T, _, rfl, .ty T, rp_ty (ha.read hp zh), kit_is K _ hT, k _ _ _ _ (.bool zh)⟩
  · cases e
theorem e_isi {X : Cx} {e : Expr} {x : Str} {p p2 pos : Pos} {pa : Bool} {fa : Ev} {T : String} (hT : T ∈ ["str", "int", "bool", "tuple", "list", "dict"]) (hg : Gl X "isinstance") (hm : X.mg "isinstance" = none) (hg2 : Gl X x) (hm2 : X.mg x = none) (hv2 : bootBuiltins x = some (.type T))
    (he : PE X e (EvR X.K pa fa)) (hn : x ≠ "__name__" := by decide) (hd : (x == ("__debug__" : Str)) = false := by decide) (hs : starEach [e, .Name x p2] X.env = (false, eval e X.env) :: starEach [.Name x p2] X.env := by rfl) (hpl : (backTo pos (starEach [.Name x p2] X.env)).any (·.1) = false := by rfl)
    (hs2 : starEach [.Name x p2] X.env = (false, eval (.Name x p2) X.env) :: starEach [] X.env := by rfl) : PE X (.Call (.Name "isinstance" p) [e, .Name x p2] [] pos) (EvR X.K pa (una (one (isiO T)) fa)) :=
  imp (pe_callB call_isi hg hm (by decide +kernel) (pa_cons he (pa_cons (pe_bltn (v := .ty T) hg2 hm2 hv2 (show RelV (.ty T) (.type T) from rfl) hn hd) pa_nil hs2) hs) (by decide) (by decide) hs hpl) fun _ _ _ h => EvR.una_ (k_isi hT) h

/-! ### displays -/
def tupO (os : List O) : Option O := (allD os).bind fun ts => if ts.length ≤ sizeLine then some (.d (.tuple ts)) else none
theorem rd2_rps {K : PySem.W.Frag} {Z H : Hp} : ∀ {vs : List V} {ts : List PyData}, Rd2 K Z H vs (ts.map O.d) → Rps K Z vs ts
  | [], [], _ => .nil
  | v :: vs, t :: ts, h => by
    cases h with
    | cons q r => exact .cons (has_rp q) (rd2_rps r)
  | [], t :: ts, h => by cases h
  | v :: vs, [], h => by cases h
theorem k_tup {K : PySem.W.Frag} : OpOk K (fun xs H1 Q => xs.length ≤ sizeLine ∧ ∀ p, H1 p = none → Q (.ref p) (upd H1 p (.tup xs))) tupO := by
  intro Z H vs os o Q zh rd eg k
  unfold tupO at eg
  cases ea : allD os with
  | none => rw [ea] at eg; cases eg
  | some ts =>
    rw [ea] at eg
    simp only [Option.bind_some] at eg
    split at eg
    · rename_i hz
      cases eg
      have e2 := allD_some ea
      subst e2
      have rp := rd2_rps rd
      exact ⟨by rw [rp.length]; exact hz, fun p hp => k _ _ _ _ (.tuple zh hp rp)⟩
    · cases eg
section
variable {X : Cx} {es : List Expr} {pos : Pos} {x1 : Nat} {pa : Bool} {fa : Eva}
theorem e_tup (ha : PA X es (EvA X.K pa fa)) : PE X (.Tuple es x1 pos) (EvR X.K pa (opF tupO fa)) := imp (pe_tup ha) fun _ _ _ h => EvA.op_ k_tup h
end
/-- a list display: its things become the list's -/
def allOwn : List Rs → Option (List O)
  | [] => some []
  | .own o :: rs => (allOwn rs).bind fun os => some (o :: os)
  | _ => none
def lstF (f : Eva) : Ev := fun fr => (f fr).bind fun x => (allOwn x.1).bind fun os => if os.length ≤ sizeLine then some (.own (.l os), x.2) else none
theorem rt_ros {K : PySem.W.Frag} {Z H : Hp} : ∀ {vs : List V} {rs : List Rs} {os : List O} {fp : List Addr}, allOwn rs = some os → Rt K Z H (vs.map some) fp (rs.map Rs.root) → Ros K Z H vs fp os
  | [], [], _, _, h, r => by cases h; cases r; exact .nil
  | v :: vs, r0 :: rs, os, fp, h, r => by
    cases r0 with
    | own o =>
      unfold allOwn at h
      cases e : allOwn rs with
      | none => rw [e] at h; cases h
      | some us =>
        rw [e] at h
        cases h
        cases r with
        | so q r => exact .cons q (rt_ros e r)
    | bor _ => cases h
    | ref _ _ => cases h
  | [], r0 :: rs, _, _, _, r => by cases r
  | v :: vs, [], _, _, _, r => by cases r
theorem allOwn_len : ∀ {rs : List Rs} {os : List O}, allOwn rs = some os → rs.length = os.length
  | [], _, h => by cases h; rfl
  | .own o :: rs, os, h => by
    unfold allOwn at h
    cases e : allOwn rs with
    | none => rw [e] at h; cases h
    | some us =>
      rw [e] at h
      cases h
      simp [allOwn_len e]
  | .bor _ :: _, _, h => by cases h
  | .ref _ _ :: _, _, h => by cases h
theorem EvR.lst_ {K : PySem.W.Frag} {σ : Sl} {H : Hp} {p : Bool} {f : Eva} {Q : VK} (h : EvR K p (lstF f) σ H Q) : tLst (EvA K p f) σ H Q := by
  obtain ⟨Z, fr, fp, r, fr', w, e, k⟩ := h
  unfold lstF at e
  cases ef : f fr with
  | none => rw [ef] at e; cases e
  | some x =>
    obtain ⟨rs, fr1⟩ := x
    rw [ef] at e
    simp only [Option.bind_some] at e
    cases eo : allOwn rs with
    | none => rw [eo] at e; cases e
    | some os =>
      rw [eo] at e
      simp only [Option.bind_some] at e
      split at e
      · rename_i hz
        simp only [Option.some.injEq, Prod.mk.injEq] at e
        obtain ⟨rfl, rfl⟩ := e
        refine ⟨Z, fr, fp, rs, fr1, w, ef, fun Z1 H1 vs fp1 w1 x1 b1 pu1 => ?_⟩
        have hl := b1.length
        have hl2 := allOwn_len eo
        refine ⟨by omega, fun np hn => ?_⟩
        obtain ⟨f1, f2, e1, r1, r2⟩ := Rt.split (by simp [hl]) w1.rt
        subst e1
        have nw := New.list (K := K) (Z := Z1) (ts := []) w1.zh hn .nil
        have ros := rt_ros eo r1
        have sm : Same H1 (upd H1 np (.lst vs)) := fun b o e => by rw [upd_ne (ne_of_none e hn)]; exact e
        have zn : Z1 np = none := by
          cases q : Z1 np with
          | none => rfl
          | some u => rw [w1.zh _ _ q] at hn; cases hn
        have big : Wd K Z1 (upd H1 np (.lst vs)) (some (.ref np) :: σ) (some (.l os) :: fr1) ((np :: f1) ++ f2) := by
          refine ⟨.so (.l upd_same (ros.frame (fun a _ u e => sm a u e) fun _ _ e => e)) (r2.frame (fun a _ u e => sm a u e) fun _ _ e => e), ?_, fun a m => ?_, w1.zh.trans sm, fun a m => ?_⟩
          · refine List.nodup_cons.mpr ⟨fun m => w1.live np m hn, w1.nd⟩
          · rcases List.mem_cons.mp m with rfl | m
            · exact zn
            · exact w1.zf a m
          · by_cases ha : a = np
            · rw [ha, upd_same]; exact nofun
            · rcases List.mem_cons.mp m with m | m
              · exact absurd m ha
              · rw [upd_ne ha]; exact w1.live a m
        refine k Z1 _ (.ref np) _ big (x1.trans ⟨fun a u e _ => sm a u e, fun a e => ?_, fun a m => ?_, fun _ _ e => e, fun a e => .inl e⟩) .own fun z => ?_
        · by_cases ha : a = np
          · rw [ha, upd_same]; exact nofun
          · rw [upd_ne ha]; exact e
        · rcases List.mem_cons.mp m with rfl | m
          · exact .inr hn
          · exact .inl m
        · obtain ⟨p1, p2⟩ := pu1 z
          exact ⟨p1.trans sm, p2⟩
      · cases e
theorem e_lst {X : Cx} {es : List Expr} {pos : Pos} {pa : Bool} {fa : Eva} (ha : PA X es (EvA X.K pa fa)) : PE X (.List es pos) (EvR X.K pa (lstF fa)) := imp (pe_lst ha) fun _ _ _ h => h.lst_
end Bv
set_option Elab.async false
set_option linter.all false
set_option maxRecDepth 100000
/-! Bv8: places within owned things; what changes them. -/
namespace Bv
open PySem PySem.Spec PyProof.Rows L2

def O.get : List Int → O → Option O
  | [], o => some o
  | n :: r, .l os => (atI os n).bind fun oo => O.get r oo
  | _ :: _, _ => none
def O.put : List Int → O → O → Option O
  | [], o1, _ => some o1
  | n :: r, o1, .l os => (ixN os.length n).bind fun k => (os[k]?).bind fun oo => (O.put r o1 oo).bind fun o' => some (.l (os.set k o'))
  | _ :: _, _, _ => none
def Walk (H : Hp) : V → List Int → V → Prop
  | v, [], v1 => v1 = v
  | v, n :: r, v1 => ∃ a vs v2, v = .ref a ∧ H a = some (.lst vs) ∧ atI vs n = some v2 ∧ Walk H v2 r v1
theorem Walk.snoc {H : Hp} {n : Int} {v2 : V} {a : Addr} {vs : List V} : ∀ {p : List Int} {v : V}, Walk H v p (.ref a) → H a = some (.lst vs) → atI vs n = some v2 → Walk H v (p ++ [n]) v2
  | [], v, h, e, g => by
    have h : V.ref a = v := h
    exact ⟨a, vs, v2, h.symm, e, g, rfl⟩
  | m :: p, v, ⟨b, ws, v3, h1, h2, h3, h4⟩, e, g => ⟨b, ws, v3, h1, h2, h3, h4.snoc e g⟩
section
variable {K : PySem.W.Frag} {Z H : Hp}
theorem Ros.lens : ∀ {k : Nat} {vs : List V} {g : List Addr} {os : List O} {oo : O}, Ros K Z H vs g os → os[k]? = some oo → ∃ vk fk gk, vs[k]? = some vk ∧ Ro K Z H vk fk oo ∧ g.Perm (fk ++ gk) ∧
    ∀ Z' H' f' o', (∀ a ∈ gk, ∀ u, H a = some u → H' a = some u) → Same Z Z' → Ro K Z' H' vk f' o' → ∃ g', g'.Perm (f' ++ gk) ∧ Ros K Z' H' vs g' (os.set k o')
  | _, _, _, _, _, .nil, h => by simp at h
  | 0, _, _, _, oo, .cons (fp := fp) (fps := fps) q r, h => by
    simp only [List.getElem?_cons_zero, Option.some.injEq] at h
    subst h
    exact ⟨_, fp, fps, rfl, q, .refl _, fun Z' H' f' o' hk hs q' => ⟨_, .refl _, .cons q' (r.frame hk hs)⟩⟩
  | k + 1, _, _, _, oo, .cons (fp := fp) (fps := fps) q r, h => by
    obtain ⟨vk, fk, gk, h1, h2, h3, h4⟩ := Ros.lens (k := k) r (by simpa using h)
    refine ⟨vk, fk, fp ++ gk, by simpa using h1, h2, ?_, fun Z' H' f' o' hk hs q' => ?_⟩
    · refine (List.Perm.append_left fp h3).trans ?_
      rw [← List.append_assoc, ← List.append_assoc]
      exact List.Perm.append_right gk List.perm_append_comm
    · obtain ⟨g', p', r'⟩ := h4 Z' H' f' o' (fun a m => hk a (List.mem_append_right _ m)) hs q'
      refine ⟨fp ++ g', ?_, .cons (q.frame (fun a m => hk a (List.mem_append_left _ m)) hs) r'⟩
      refine (List.Perm.append_left fp p').trans ?_
      rw [← List.append_assoc, ← List.append_assoc]
      exact List.Perm.append_right gk List.perm_append_comm
theorem atI_ix {α : Type} {xs : List α} {n : Int} {x : α} (h : atI xs n = some x) : ∃ k, ixN xs.length n = some k ∧ xs[k]? = some x := by
  unfold atI at h
  cases e : ixN xs.length n with
  | none => rw [e] at h; cases h
  | some k => rw [e] at h; exact ⟨k, rfl, h⟩
theorem atI_of {α : Type} {xs : List α} {n : Int} {x : α} {k : Nat} (h : ixN xs.length n = some k) (h2 : xs[k]? = some x) : atI xs n = some x := by
  unfold atI
  rw [h]; exact h2
theorem Ro.lens : ∀ {path : List Int} {v : V} {fp : List Addr} {o o1 : O}, Ro K Z H v fp o → O.get path o = some o1 → ∃ v1 f1 f2, Walk H v path v1 ∧ Ro K Z H v1 f1 o1 ∧ fp.Perm (f1 ++ f2) ∧
    ∀ Z' H' g o1', (∀ a ∈ f2, ∀ u, H a = some u → H' a = some u) → Same Z Z' → Ro K Z' H' v1 g o1' → ∃ o' fp', O.put path o1' o = some o' ∧ fp'.Perm (g ++ f2) ∧ Ro K Z' H' v fp' o'
  | [], v, fp, o, o1, q, h => by
    cases h
    exact ⟨v, fp, [], rfl, q, by rw [List.append_nil], fun Z' H' g o1' _ _ q' => ⟨o1', g, rfl, by rw [List.append_nil], q'⟩⟩
  | n :: r, v, fp, o, o1, q, h => by
    cases q with
    | @l a vs g os e rs =>
      unfold O.get at h
      cases ea : atI os n with
      | none => rw [ea] at h; cases h
      | some oo =>
        rw [ea] at h
        simp only [Option.bind_some] at h
        obtain ⟨k, ek, eo⟩ := atI_ix ea
        obtain ⟨vk, fk, gk, h1, h2, h3, h4⟩ := rs.lens eo
        obtain ⟨v1, f1, f2, w1, w2, w3, w4⟩ := Ro.lens (path := r) h2 h
        refine ⟨v1, f1, a :: (f2 ++ gk), ⟨a, vs, vk, rfl, e, atI_of (by rw [rs.length]; exact ek) h1, w1⟩, w2, ?_, fun Z' H' g' o1' hk hs q' => ?_⟩
        · have p1 : (a :: g).Perm (a :: ((f1 ++ f2) ++ gk)) := List.Perm.cons a (h3.trans (List.Perm.append_right gk w3))
          refine p1.trans ?_
          rw [List.append_assoc]
          exact (List.perm_middle (a := a) (l₁ := f1) (l₂ := f2 ++ gk)).symm
        · obtain ⟨o', fp', p1, p2, p3⟩ := w4 Z' H' g' o1' (fun b m => hk b (List.mem_cons_of_mem _ (List.mem_append_left _ m))) hs q'
          obtain ⟨g2, p4, p5⟩ := h4 Z' H' fp' o' (fun b m => hk b (List.mem_cons_of_mem _ (List.mem_append_right _ m))) hs p3
          refine ⟨.l (os.set k o'), a :: g2, ?_, ?_, .l (hk a List.mem_cons_self _ e) p5⟩
          · unfold O.put
            rw [ek]
            simp only [Option.bind_some, eo, p1]
          · have p6 : (a :: g2).Perm (a :: ((g' ++ f2) ++ gk)) := List.Perm.cons a (p4.trans (List.Perm.append_right gk p2))
            refine p6.trans ?_
            rw [List.append_assoc]
            exact (List.perm_middle (a := a) (l₁ := g') (l₂ := f2 ++ gk)).symm
    | d _ => cases h
    | m _ _ => cases h
    | mt _ _ => cases h
    | sc _ => cases h
end

/-! ### places -/
def tPl (j : Nat) (path : List Int) : TE := fun σ H Q => ∃ v v1, σ[j]? = some (some v) ∧ Walk H v path v1 ∧ Q v1 H
section
variable {X : Cx} {x : Str} {pos : Pos}
theorem p_name (i : Nat) (hN : X.N[i]? = some x := by rfl) (hv : Vis X.env.scope x := by first | exact Or.inl rfl | exact Or.inr (Or.inl rfl) | exact Or.inr (Or.inr rfl)) (hd : (x == ("__debug__" : Str)) = false := by decide)
    (hcd : (x == ("__classdict__" : Str)) = false := by decide) : PE X (.Name x pos) (tPl i []) := imp (pe_var hN hv hd hcd) fun σ H Q ⟨v, v1, e, w, q⟩ => by
  have w : v1 = v := w
  subst w
  exact ⟨v1, e, q⟩
theorem walk_split {H : Hp} : ∀ {p : List Int} {n : Int} {v v1 : V}, Walk H v (p ++ [n]) v1 → ∃ a vs, Walk H v p (.ref a) ∧ H a = some (.lst vs) ∧ atI vs n = some v1
  | [], n, v, v1, ⟨a, vs, v2, e1, e2, e3, e4⟩ => by
    have e4 : v1 = v2 := e4
    subst e4
    exact ⟨a, vs, e1.symm, e2, e3⟩
  | m :: p, n, v, v1, ⟨b, ws, v3, h1, h2, h3, h4⟩ => by
    obtain ⟨a, vs, g1, g2, g3⟩ := walk_split h4
    exact ⟨a, vs, ⟨b, ws, v3, h1, h2, h3, g1⟩, g2, g3⟩
theorem p_ix {e : Expr} {j : Nat} {path : List Int} {n : Int} {k : Nat} {p2 : Pos} (h : PE X e (tPl j path)) : PE X (.Subscript e (.Constant (.int n) k p2) pos) (tPl j (path ++ [n])) :=
  imp (pe_ix ix_list h pe_int (fun _ _ => rfl)) fun σ H Q ⟨v, v1, e, w, q⟩ => by
    obtain ⟨a, vs, w1, w2, w3⟩ := walk_split w
    exact ⟨v, .ref a, e, w1, a, vs, n, v1, rfl, rfl, SqL.of w2, w3, q⟩
theorem p_ixN {e : Expr} {j : Nat} {path : List Int} {n : Int} {k : Nat} {p2 p3 : Pos} (h : PE X e (tPl j path)) : PE X (.Subscript e (.UnaryOp .USub (.Constant (.int n) k p2) p3) pos) (tPl j (path ++ [-n])) :=
  imp (pe_ix ix_list h (pe_un un_neg pe_int) (fun _ _ => rfl)) fun σ H Q ⟨v, v1, e, w, q⟩ => by
    obtain ⟨a, vs, w1, w2, w3⟩ := walk_split w
    exact ⟨v, .ref a, e, w1, n, rfl, a, vs, -n, v1, rfl, rfl, SqL.of w2, w3, q⟩
end
/-- a thing within a slot: data, or lent -/
def bpF (j : Nat) (path : List Int) : Ev := fun fr => match fr[j]? with
  | some (some o) => (O.get path o).bind fun o1 => match o1 with
    | .d t => some (.own (.d t), fr)
    | o1 => some (.bor o1, fr)
  | _ => none
theorem EvR.bp_ {K : PySem.W.Frag} {j : Nat} {path : List Int} {σ : Sl} {H : Hp} {Q : VK} (h : EvR K true (bpF j path) σ H Q) : tPl j path σ H Q := by
  obtain ⟨Z, fr, fp, r, fr', w, e, k⟩ := h
  unfold bpF at e
  split at e
  · rename_i o eo
    cases eg : O.get path o with
    | none => rw [eg] at e; cases e
    | some o1 =>
      rw [eg] at e
      simp only [Option.bind_some] at e
      obtain ⟨v, f1, f2, ev, q, p, r2⟩ := w.rt.take eo
      obtain ⟨v1, g1, g2, wk, q1, p1, _⟩ := q.lens eg
      refine ⟨v, v1, ev, wk, ?_⟩
      have lv : ∀ a ∈ g1, H a ≠ none := fun a m => w.live a (p.mem_iff.mpr (List.mem_append_left _ (p1.mem_iff.mpr (List.mem_append_left _ m))))
      split at e
      · cases e
        cases q1 with
        | d q1 => exact k Z H v1 fp (w.front q1) (Ext.refl _ _ _) .own Pu.refl
      · cases e
        exact k Z H v1 fp ⟨.no w.rt, w.nd, w.zf, w.zh, w.live⟩ (Ext.refl _ _ _) (.bor q1 lv) Pu.refl
  · cases e
theorem v_bp {X : Cx} {e : Expr} {j : Nat} {path : List Int} (h : PE X e (tPl j path)) : PE X e (EvR X.K true (bpF j path)) := imp h fun _ _ _ h => h.bp_

/-! ### a thing within a slot is changed -/
/-- the slot's thing after a change at a place: what must be shown of the new heap -/
theorem Wd.change {K : PySem.W.Frag} {Z H : Hp} {τ σ : List (Option V)} {θ fr : List (Option O)} {fp : List Addr} {j : Nat} {path : List Int} {o o1 : O} (w : Wd K Z H (τ ++ σ) (θ ++ fr) fp) (hτ : τ.length = θ.length) (eo : fr[j]? = some (some o)) (eg : O.get path o = some o1) :
    ∃ v v1 ft f1 f2, σ[j]? = some (some v) ∧ Walk H v path v1 ∧ Rt K Z H τ ft θ ∧ Ro K Z H v1 f1 o1 ∧ fp.Perm ((ft ++ f1) ++ f2) ∧
      ∀ H' g ρ ζ, (∀ a ∈ f2, ∀ u, H a = some u → H' a = some u) → (∀ a u, H a = some u → a ∉ ft ++ f1 → H' a = some u) → (∀ a, H a ≠ none → H' a ≠ none) → Same Z H' →
        ∀ o1', Rt K Z H' (some v1 :: ρ) g (some o1' :: ζ) → g.Nodup → (∀ a ∈ g, a ∈ ft ++ f1) → (∀ a ∈ g, H' a ≠ none) →
        ∃ o' fp', O.put path o1' o = some o' ∧ Wd K Z H' (ρ ++ σ) (ζ ++ fr.set j (some o')) fp' ∧ Ext Z H fp Z H' fp' := by
  obtain ⟨ft, fs, e0, rτ, rσ⟩ := Rt.split hτ w.rt
  obtain ⟨v, fa, fb, ev, q, p, r2⟩ := rσ.take eo
  obtain ⟨v1, g1, g2, wk, q1, p1, back⟩ := q.lens eg
  have pp : fp.Perm ((ft ++ g1) ++ (g2 ++ fb)) := by
    rw [e0, List.append_assoc]
    refine List.Perm.append_left ft (p.trans ?_)
    rw [← List.append_assoc]
    exact List.Perm.append_right fb p1
  refine ⟨v, v1, ft, g1, g2 ++ fb, ev, wk, rτ, q1, pp, fun H' g ρ ζ h1 h2 h3 zh o1' rt nd sub lv => ?_⟩
  cases rt with
  | @so _ _ ga gb _ _ qa ra =>
    obtain ⟨o', fp1, e1, e2, e3⟩ := back Z H' ga o1' (fun a m => h1 a (List.mem_append_left _ m)) (fun _ _ e => e) qa
    have r3 : Rt K Z H' σ fb (fr.set j none) := r2.frame (fun a m => h1 a (List.mem_append_right _ m)) fun _ _ e => e
    have hj : j < fr.length := (List.getElem?_eq_some_iff.mp eo).1
    obtain ⟨fp2, p2, r4⟩ := r3.put (o := o') (f1 := fp1) (List.getElem?_set_self hj) ev e3
    rw [List.set_set] at r4
    have nd0 := pp.nodup_iff.mp w.nd
    have ndd := List.nodup_append.mp nd0
    have pq : (gb ++ fp2).Perm ((ga ++ gb) ++ (g2 ++ fb)) := by
      have a1 : fp2.Perm (ga ++ (g2 ++ fb)) := p2.trans (by rw [← List.append_assoc]; exact List.Perm.append_right fb e2)
      refine (List.Perm.append_left gb a1).trans ?_
      rw [← List.append_assoc]
      exact List.Perm.append_right _ List.perm_append_comm
    refine ⟨o', gb ++ fp2, e1, ⟨ra.append r4, ?_, fun a m => ?_, zh, fun a m => ?_⟩, ⟨fun a u e m => h2 a u e fun z => m (pp.mem_iff.mpr (List.mem_append_left _ z)), h3, fun a m => .inl ?_, fun _ _ e => e, fun _ e => .inl e⟩⟩
    · refine pq.nodup_iff.mpr (List.nodup_append.mpr ⟨nd, ndd.2.1, fun a m b m2 e => ?_⟩)
      subst e
      exact ndd.2.2 a (sub a m) a m2 rfl
    · rcases List.mem_append.mp (pq.mem_iff.mp m) with m | m
      · exact w.zf a (pp.mem_iff.mpr (List.mem_append_left _ (sub a m)))
      · exact w.zf a (pp.mem_iff.mpr (List.mem_append_right _ m))
    · rcases List.mem_append.mp (pq.mem_iff.mp m) with m | m
      · exact lv a m
      · exact h3 a (w.live a (pp.mem_iff.mpr (List.mem_append_right _ m)))
    · rcases List.mem_append.mp (pq.mem_iff.mp m) with m | m
      · exact pp.mem_iff.mpr (List.mem_append_left _ (sub a m))
      · exact pp.mem_iff.mpr (List.mem_append_right _ m)
/-- .. a list's items -/
theorem Wd.chList {K : PySem.W.Frag} {Z H : Hp} {τ σ : List (Option V)} {θ fr : List (Option O)} {fp : List Addr} {j : Nat} {path : List Int} {o : O} {os : List O} (w : Wd K Z H (τ ++ σ) (θ ++ fr) fp) (hτ : τ.length = θ.length) (eo : fr[j]? = some (some o)) (eg : O.get path o = some (.l os)) :
    ∃ v a vs ft fs, σ[j]? = some (some v) ∧ Walk H v path (.ref a) ∧ H a = some (.lst vs) ∧ Rt K Z H τ ft θ ∧ Ros K Z H vs fs os ∧ (ft ++ fs).Nodup ∧
      ∀ vs' g1 os' ρ g2 ζ, Ros K Z H vs' g1 os' → Rt K Z H ρ g2 ζ → (g1 ++ g2).Nodup → (∀ b ∈ g1 ++ g2, b ∈ ft ++ fs) →
        ∃ o' fp', O.put path (.l os') o = some o' ∧ Wd K Z (upd H a (.lst vs')) (ρ ++ σ) (ζ ++ fr.set j (some o')) fp' ∧ Ext Z H fp Z (upd H a (.lst vs')) fp' := by
  obtain ⟨v, v1, ft, f1, f2, ev, wk, rt, q1, pp, back⟩ := w.change hτ eo eg
  cases q1 with
  | @l a vs g _ ea rs =>
    have nd0 := List.nodup_append.mp (pp.nodup_iff.mp w.nd)
    have nd1 := List.nodup_append.mp nd0.1
    have ndc := List.nodup_cons.mp nd1.2.1
    have nda : ∀ b ∈ ft ++ g, b ≠ a := fun b m z => by
      subst z
      rcases List.mem_append.mp m with m | m
      · exact nd1.2.2 b m b List.mem_cons_self rfl
      · exact ndc.1 m
    have nf2 : ∀ b ∈ f2, b ≠ a := fun b m z => nd0.2.2 a (List.mem_append_right _ List.mem_cons_self) b m z.symm
    have za : Z a = none := w.zf a (pp.mem_iff.mpr (List.mem_append_left _ (List.mem_append_right _ List.mem_cons_self)))
    refine ⟨v, a, vs, ft, g, ev, wk, ea, rt, rs, List.nodup_append.mpr ⟨nd1.1, ndc.2, fun b m c m2 e => nd1.2.2 b m c (List.mem_cons_of_mem _ m2) e⟩, fun vs' g1 os' ρ g2 ζ h1 h2 nd sub => ?_⟩
    have frm : ∀ b, b ≠ a → ∀ u, H b = some u → (upd H a (.lst vs')) b = some u := fun b hb u e => by rw [upd_ne hb]; exact e
    have sub2 : ∀ b ∈ a :: (g1 ++ g2), b ∈ ft ++ a :: g := fun b m => by
      rcases List.mem_cons.mp m with rfl | m
      · exact List.mem_append_right _ List.mem_cons_self
      · rcases List.mem_append.mp (sub b m) with m | m
        · exact List.mem_append_left _ m
        · exact List.mem_append_right _ (List.mem_cons_of_mem _ m)
    exact back (upd H a (.lst vs')) ((a :: g1) ++ g2) ρ ζ (fun b m u e => frm b (nf2 b m) u e) (fun b u e m => frm b (fun z => m (z ▸ List.mem_append_right _ List.mem_cons_self)) u e)
      (fun b e => by by_cases hb : b = a; · rw [hb, upd_same]; exact nofun
                     · rw [upd_ne hb]; exact e)
      (fun b u e => by rw [upd_ne (fun z => by rw [z, za] at e; cases e)]; exact w.zh _ _ e)
      (.l os') (.so (.l upd_same (h1.frame (fun b m u e => frm b (nda b (sub b (List.mem_append_left _ m))) u e) fun _ _ e => e)) (h2.frame (fun b m u e => frm b (nda b (sub b (List.mem_append_right _ m))) u e) fun _ _ e => e))
      (List.nodup_cons.mpr ⟨fun m => nda a (sub a m) rfl, nd⟩) sub2 (fun b m => by
        by_cases hb : b = a
        · rw [hb, upd_same]; exact nofun
        · rw [upd_ne hb]; exact w.live b (pp.mem_iff.mpr (List.mem_append_left _ (sub2 b m))))
theorem ros_erase {K : PySem.W.Frag} {Z H : Hp} : ∀ {vs : List V} {g : List Addr} {os : List O} {k : Nat} {y : O}, Ros K Z H vs g os → os[k]? = some y → ∃ v f1 f2, vs[k]? = some v ∧ Ro K Z H v f2 y ∧ g.Perm (f1 ++ f2) ∧ Ros K Z H (vs.eraseIdx k) f1 (os.eraseIdx k)
  | _, _, _, _, _, .nil, h => by simp at h
  | _, _, _, 0, _, .cons (fp := fp) (fps := fps) q r, h => by
    simp only [List.getElem?_cons_zero, Option.some.injEq] at h
    subst h
    exact ⟨_, fps, fp, rfl, q, List.perm_append_comm, r⟩
  | _, _, _, k + 1, _, .cons (fp := fp) (fps := fps) q r, h => by
    obtain ⟨v, f1, f2, h1, h2, h3, h4⟩ := ros_erase (k := k) r (by simpa using h)
    exact ⟨v, fp ++ f1, f2, by simpa using h1, h2, by rw [List.append_assoc]; exact List.Perm.append_left fp h3, .cons q h4⟩
theorem ros_set {K : PySem.W.Frag} {Z H : Hp} {x : V} {fx : List Addr} {ox : O} (qx : Ro K Z H x fx ox) : ∀ {vs : List V} {g : List Addr} {os : List O} {k : Nat}, Ros K Z H vs g os → k < os.length → ∃ f1 f2 g', g.Perm (f1 ++ f2) ∧ g'.Perm (fx ++ f1) ∧ Ros K Z H (vs.set k x) g' (os.set k ox)
  | _, _, _, _, .nil, h => by simp at h
  | _, _, _, 0, .cons (fp := fp) (fps := fps) q r, h => ⟨fps, fp, fx ++ fps, List.perm_append_comm, .refl _, .cons qx r⟩
  | _, _, _, k + 1, .cons (fp := fp) (fps := fps) q r, h => by
    obtain ⟨f1, f2, g', h1, h2, h3⟩ := ros_set qx (k := k) r (by simpa using h)
    refine ⟨fp ++ f1, f2, fp ++ g', by rw [List.append_assoc]; exact List.Perm.append_left fp h1, ?_, .cons q h3⟩
    refine (List.Perm.append_left fp h2).trans ?_
    rw [← List.append_assoc, ← List.append_assoc]
    exact List.Perm.append_right f1 List.perm_append_comm
theorem walk_same {H H1 : Hp} : ∀ {path : List Int} {v x x' : V}, (path = [] ∨ Same H H1) → Walk H v path x → Walk H1 v path x' → x' = x
  | [], v, x, x', _, h, h' => by
    have h : x = v := h
    have h' : x' = v := h'
    rw [h, h']
  | n :: r, v, x, x', hs, ⟨a, vs, v2, e1, e2, e3, e4⟩, ⟨b, ws, w2, d1, d2, d3, d4⟩ => by
    have hs := hs.resolve_left nofun
    rw [e1] at d1
    cases d1
    rw [hs _ _ e2] at d2
    cases d2
    rw [e3] at d3
    cases d3
    exact walk_same (.inr hs) e4 d4
/-- xs.pop() -/
def popF (j : Nat) (path : List Int) : Ev := fun fr => match fr[j]? with
  | some (some o) => (O.get path o).bind fun o1 => match o1 with
    | .l os => (os[os.length - 1]?).bind fun y => (O.put path (.l (os.eraseIdx (os.length - 1))) o).bind fun o' => some (.own y, fr.set j (some o'))
    | _ => none
  | _ => none
theorem drop_last {α : Type} (xs : List α) : xs.eraseIdx (xs.length - 1) = xs.dropLast := by
  rw [List.dropLast_eq_take]
  cases xs with
  | nil => rfl
  | cons x xs =>
    rw [List.eraseIdx_eq_take_drop_succ]
    rw [List.drop_of_length_le (by simp), List.append_nil]
theorem EvR.pop_ {K : PySem.W.Frag} {j : Nat} {path : List Int} {σ : Sl} {H : Hp} {Q : VK} (h : EvR K false (popF j path) σ H Q) : tBM0 K "list" rPop (tPl j path) σ H Q := by
  obtain ⟨Z, fr, fp, r, fr', w, e, k⟩ := h
  unfold popF at e
  split at e
  · rename_i o eo
    cases eg : O.get path o with
    | none => rw [eg] at e; cases e
    | some o1 =>
      rw [eg] at e
      simp only [Option.bind_some] at e
      split at e
      · rename_i os
        obtain ⟨v, a, vs, ft, fs, ev, wk, ea, rt, rs, nd, back⟩ := Wd.chList (τ := []) (θ := []) w rfl eo eg
        cases rt
        cases el : os[os.length - 1]? with
        | none => rw [el] at e; cases e
        | some y =>
          rw [el] at e
          simp only [Option.bind_some] at e
          obtain ⟨vl, g1, g2, h1, h2, h3, h4⟩ := ros_erase rs el
          have hl := rs.length
          obtain ⟨o', fp', e1, w2, x2⟩ := back _ g1 _ [some vl] (g2 ++ []) [some y] h4 (.so h2 .nil) (by rw [List.append_nil]; exact h3.nodup_iff.mp nd) (fun b m => h3.mem_iff.mpr (by rw [List.append_nil] at m; exact m))
          rw [e1] at e
          simp only [Option.bind_some, Option.some.injEq, Prod.mk.injEq] at e
          obtain ⟨rfl, rfl⟩ := e
          refine ⟨v, .ref a, ev, wk, .inl ⟨rfl, vs, SqL.of ea⟩, a, vs, vl, rfl, rfl, ea, by rw [hl]; exact h1, ?_⟩
          rw [← drop_last, hl]
          exact k Z _ vl fp' w2 x2 .own fun z => nomatch z
      · cases e
  · cases e
theorem e_pop {X : Cx} {o : Expr} {apos cpos : Pos} {j : Nat} {path : List Int} (ho : PE X o (tPl j path)) (hbase : attributeBase o "pop" X.env (eval o X.env) = eval o X.env := by rfl) (hline : (apos.endLine == cpos.line) = true := by rfl) :
    PE X (.Call (.Attribute o "pop" apos) [] [] cpos) (EvR X.K false (popF j path)) :=
  imp (pe_bm0 PySem.F.plainAttrs_list PySem.F.slot_list_pop PySem.F.type_list_pop mt_pop ho hbase hline) fun _ _ _ h => h.pop_
/-- xs.append(e), xs.pop(e): first the place, then the argument, then the change -/
def mthF (j : Nat) (path : List Int) (g : List O → O → Option (O × List O)) (f : Ev) : Ev := fun fr => match fr[j]? with
  | some (some o) => (O.get path o).bind fun o1 => match o1 with
    | .l _ => (f fr).bind fun x => match x.1 with
      | .own y => match x.2[j]? with
        | some (some o2) => (O.get path o2).bind fun o3 => match o3 with
          | .l os => (g os y).bind fun z => (O.put path (.l z.2) o2).bind fun o' => some (.own z.1, x.2.set j (some o'))
          | _ => none
        | _ => none
      | _ => none
    | _ => none
  | _ => none
/-- what a method does to the items and the argument -/
def MthOk (K : PySem.W.Frag) (r : V → List V → Hp → VK → Prop) (g : List O → O → Option (O × List O)) : Prop :=
  ∀ (Z H : Hp) (a : Addr) (vs : List V) (fs : List Addr) (os : List O) (y : V) (fy : List Addr) (oy o : O) (os' : List O) (Q : VK), Same Z H → H a = some (.lst vs) → Ros K Z H vs fs os → Ro K Z H y fy oy → (fy ++ fs).Nodup → g os oy = some (o, os') →
    (∀ v vs' f1 f2, Ro K Z H v f2 o → Ros K Z H vs' f1 os' → (f1 ++ f2).Nodup → (∀ b ∈ f1 ++ f2, b ∈ fy ++ fs) → Q v (upd H a (.lst vs'))) → r (.ref a) [y] H Q
theorem EvR.mth_ {K : PySem.W.Frag} {j : Nat} {path : List Int} {p : Bool} {f : Ev} {g : List O → O → Option (O × List O)} {r : V → List V → Hp → VK → Prop} {σ : Sl} {H : Hp} {Q : VK} (ok : MthOk K r g) (hp : (path.isEmpty || p) = true) (h : EvR K false (mthF j path g f) σ H Q) :
    tBM K "list" r (tPl j path) (tCons (EvR K p f) tNil) σ H Q := by
  obtain ⟨Z, fr, fp, r0, fr', w, e, k⟩ := h
  unfold mthF at e
  split at e
  · rename_i o eo
    cases eg : O.get path o with
    | none => rw [eg] at e; cases e
    | some o1 =>
      rw [eg] at e
      simp only [Option.bind_some] at e
      split at e
      · obtain ⟨v, a, vs, ft, fs, ev, wk, ea, rt, rs, nd, back⟩ := Wd.chList (τ := []) (θ := []) w rfl eo eg
        clear back rs nd
        cases ef : f fr with
        | none => rw [ef] at e; cases e
        | some x =>
          obtain ⟨ry, fr1⟩ := x
          rw [ef] at e
          simp only [Option.bind_some] at e
          split at e
          · rename_i y
            split at e
            · rename_i o2 eo2
              cases eg2 : O.get path o2 with
              | none => rw [eg2] at e; cases e
              | some o3 =>
                rw [eg2] at e
                simp only [Option.bind_some] at e
                split at e
                · rename_i os2
                  cases egg : g os2 y with
                  | none => rw [egg] at e; cases e
                  | some zz =>
                    obtain ⟨oz, os'⟩ := zz
                    rw [egg] at e
                    simp only [Option.bind_some] at e
                    refine ⟨v, .ref a, ev, wk, .inl ⟨rfl, vs, SqL.of ea⟩, Z, fr, fp, _, fr1, w, ef, fun Z1 H1 yv fp1 w1 x1 b1 pu => ?_⟩
                    obtain ⟨v2, a2, vs2, ft2, fs2, ev2, wk2, ea2, rt2, rs2, nd2, back2⟩ := Wd.chList (τ := [some yv]) (θ := [some y]) w1 rfl eo2 eg2
                    rw [ev] at ev2
                    cases ev2
                    have es : path = [] ∨ Same H H1 := by
                      rcases (Bool.or_eq_true _ _).mp hp with z | z
                      · exact .inl (List.isEmpty_iff.mp z)
                      · exact .inr (pu z).1
                    have ea' := walk_same es wk wk2
                    cases ea'
                    cases rt2 with
                    | @so _ _ fy fz _ _ qy rz =>
                      cases rz
                      rw [List.append_nil] at nd2 back2
                      refine ok Z1 H1 a vs2 fs2 os2 yv fy y oz os' Q w1.zh ea2 rs2 qy nd2 egg fun vz vs' f1 f2 qz rz ndz subz => ?_
                      obtain ⟨o', fp', e1, w2, x2⟩ := back2 vs' f1 os' [some vz] (f2 ++ []) [some oz] rz (.so qz .nil) (by rw [List.append_nil]; exact ndz) (fun b m => subz b (by rw [List.append_nil] at m; exact m))
                      rw [e1] at e
                      simp only [Option.bind_some, Option.some.injEq, Prod.mk.injEq] at e
                      obtain ⟨rfl, rfl⟩ := e
                      exact k Z1 _ vz fp' w2 (x1.trans x2) .own fun z => nomatch z
                · cases e
            · cases e
          · cases e
      · cases e
  · cases e
theorem e_mth {X : Cx} {o e : Expr} {name : Str} {id : String} {apos cpos : Pos} {j : Nat} {path : List Int} {p : Bool} {f : Ev} {g : List O → O → Option (O × List O)} {r : V → List V → Hp → VK → Prop} (ok : MthOk X.K r g) (slot : Slot "list" name id) (hty : typeOf (.builtin id) = pure (.type "method_descriptor")) (hm : MtM X id r)
    (ho : PE X o (tPl j path)) (he : PE X e (EvR X.K p f)) (hp : (path.isEmpty || p) = true := by rfl) (hbase : attributeBase o name X.env (eval o X.env) = eval o X.env := by rfl)
    (hfew : ((backTo cpos (starEach [e] X.env)).all (fun x => !x.1) && (backToKw cpos (keywordEach [] X.env)).all (fun x => x.1.isSome) && decide (([e] : List Expr).length + ([] : List Keyword).length + (if ([] : List Keyword).isEmpty then 0 else 1) < 30)) = true := by rfl)
    (hline : (apos.endLine == cpos.line) = true := by rfl) (hs : starEach [e] X.env = (false, eval e X.env) :: starEach [] X.env := by rfl) (hplain : (backTo cpos (starEach [] X.env)).any (·.1) = false := by rfl) :
    PE X (.Call (.Attribute o name apos) [e] [] cpos) (EvR X.K false (mthF j path g f)) :=
  imp (pe_bm PySem.F.plainAttrs_list slot hty hm ho (pa_cons he pa_nil hs) hbase hfew hline hs hplain) fun _ _ _ h => EvR.mth_ ok hp h
def appG (os : List O) (y : O) : Option (O × List O) := if os.length < sizeLine then some (.d .none, os ++ [y]) else none
theorem m_app {K : PySem.W.Frag} : MthOk K rAppend appG := fun Z H a vs fs os y fy oy o os' Q zh ea rs qy nd eg k => by
  unfold appG at eg
  split at eg
  · rename_i hz
    cases eg
    have hl := rs.length
    have pm : (fs ++ (fy ++ [])).Perm (fy ++ fs) := by rw [List.append_nil]; exact List.perm_append_comm
    exact ⟨a, vs, y, rfl, rfl, ea, by omega, k .non _ _ [] (.d .non) (ros_append rs (.cons qy .nil)) (by rw [List.append_nil]; exact pm.nodup_iff.mpr nd) (fun b m => pm.mem_iff.mp (by rw [List.append_nil (fs ++ (fy ++ []))] at m; exact m))⟩
  · cases eg
def popG (os : List O) (y : O) : Option (O × List O) := match y with
  | .d (.int i) => if -(2 ^ 63) ≤ i ∧ i < 2 ^ 63 then (ixN os.length i).bind fun k => (os[k]?).bind fun z => some (z, os.eraseIdx k) else none
  | _ => none
theorem m_pop {K : PySem.W.Frag} : MthOk K rPopAt popG := fun Z H a vs fs os y fy oy o os' Q zh ea rs qy nd eg k => by
  unfold popG at eg
  split at eg
  · rename_i i
    split at eg
    · rename_i hz
      cases ek : ixN os.length i with
      | none => rw [ek] at eg; cases eg
      | some j =>
        rw [ek] at eg
        simp only [Option.bind_some] at eg
        cases ez : os[j]? with
        | none => rw [ez] at eg; cases eg
        | some z =>
          rw [ez] at eg
          simp only [Option.bind_some, Option.some.injEq, Prod.mk.injEq] at eg
          obtain ⟨rfl, rfl⟩ := eg
          have hl := rs.length
          obtain ⟨v, f1, f2, h1, h2, h3, h4⟩ := ros_erase rs ez
          obtain rfl := rd_int qy
          have ndf := (List.nodup_append.mp nd).2.1
          exact ⟨a, vs, i, j, v, rfl, rfl, ea, hz.1, hz.2, by rw [hl]; exact (ixN_seq ek).1, h1, k v _ f1 f2 h2 h4 (h3.nodup_iff.mp ndf) fun b m => List.mem_append_right _ (h3.mem_iff.mpr m)⟩
    · cases eg
  · cases eg
section
variable {X : Cx} {o e : Expr} {apos cpos : Pos} {j : Nat} {path : List Int} {p : Bool} {f : Ev}
theorem e_app (ho : PE X o (tPl j path)) (he : PE X e (EvR X.K p f)) (hp : (path.isEmpty || p) = true := by rfl) (hbase : attributeBase o "append" X.env (eval o X.env) = eval o X.env := by rfl)
    (hfew : ((backTo cpos (starEach [e] X.env)).all (fun x => !x.1) && (backToKw cpos (keywordEach [] X.env)).all (fun x => x.1.isSome) && decide (([e] : List Expr).length + ([] : List Keyword).length + (if ([] : List Keyword).isEmpty then 0 else 1) < 30)) = true := by rfl)
    (hline : (apos.endLine == cpos.line) = true := by rfl) (hs : starEach [e] X.env = (false, eval e X.env) :: starEach [] X.env := by rfl) (hplain : (backTo cpos (starEach [] X.env)).any (·.1) = false := by rfl) :
    PE X (.Call (.Attribute o "append" apos) [e] [] cpos) (EvR X.K false (mthF j path appG f)) := e_mth m_app PySem.F.slot_list_append PySem.F.type_list_append mt_append ho he hp hbase hfew hline hs hplain
theorem e_popAt (ho : PE X o (tPl j path)) (he : PE X e (EvR X.K p f)) (hp : (path.isEmpty || p) = true := by rfl) (hbase : attributeBase o "pop" X.env (eval o X.env) = eval o X.env := by rfl)
    (hfew : ((backTo cpos (starEach [e] X.env)).all (fun x => !x.1) && (backToKw cpos (keywordEach [] X.env)).all (fun x => x.1.isSome) && decide (([e] : List Expr).length + ([] : List Keyword).length + (if ([] : List Keyword).isEmpty then 0 else 1) < 30)) = true := by rfl)
    (hline : (apos.endLine == cpos.line) = true := by rfl) (hs : starEach [e] X.env = (false, eval e X.env) :: starEach [] X.env := by rfl) (hplain : (backTo cpos (starEach [] X.env)).any (·.1) = false := by rfl) :
    PE X (.Call (.Attribute o "pop" apos) [e] [] cpos) (EvR X.K false (mthF j path popG f)) := e_mth m_pop PySem.F.slot_list_pop PySem.F.type_list_pop mt_popAt ho he hp hbase hfew hline hs hplain
end
/-- o[i] = e -/
def putF (j : Nat) (path : List Int) (fi f : Ev) : Sts := fun fr => (f fr).bind fun x => match x.1 with
  | .own y => match x.2[j]? with
    | some (some o) => (O.get path o).bind fun o1 => match o1 with
      | .l os => (fi x.2).bind fun z => match z.1 with
        | .own (.d (.int i)) => (ixN os.length i).bind fun k => (O.put path (.l (os.set k y)) o).bind fun o' => some (.nx, z.2.set j (some o'))
        | _ => none
      | _ => none
    | _ => none
  | _ => none
theorem StR.put_ {K : PySem.W.Frag} {fx : List Nat} {D : Ends} {j : Nat} {path : List Int} {p : Bool} {f fi : Ev} {σ : Sl} {H : Hp} (h : StR K fx (putF j path fi f) D σ H) :
    tAsg (EvR K p f) (gSub (tPl j path) (EvR K true fi) rSetL) D σ H := by
  obtain ⟨Z, fr, fp, fl, fr', w, e, k⟩ := h
  unfold putF at e
  cases ef : f fr with
  | none => rw [ef] at e; cases e
  | some x =>
    obtain ⟨ry, fr1⟩ := x
    rw [ef] at e
    simp only [Option.bind_some] at e
    split at e
    · rename_i y
      split at e
      · rename_i o eo
        cases eg : O.get path o with
        | none => rw [eg] at e; cases e
        | some o1 =>
          rw [eg] at e
          simp only [Option.bind_some] at e
          split at e
          · rename_i os
            cases ei : fi fr1 with
            | none => rw [ei] at e; cases e
            | some z =>
              obtain ⟨rz, fr2⟩ := z
              rw [ei] at e
              simp only [Option.bind_some] at e
              split at e
              · rename_i i
                cases ek : ixN os.length i with
                | none => rw [ek] at e; cases e
                | some m =>
                  rw [ek] at e
                  simp only [Option.bind_some] at e
                  refine ⟨Z, fr, fp, _, fr1, w, ef, fun Z1 H1 yv fp1 w1 x1 b1 _ => ?_⟩
                  have w1' : Wd K Z1 H1 ([some yv] ++ σ) ([some y] ++ fr1) fp1 := w1
                  obtain ⟨v, a, vs, ft, fs, ev, wk, ea, rt, rs, nd, back⟩ := Wd.chList w1' rfl eo eg
                  clear back rs nd
                  obtain ⟨f1, f2, e1, w2, glue⟩ := w1'.under rfl
                  refine ⟨v, .ref a, ev, wk, Z1, fr1, f2, _, fr2, w2, ei, fun Z2 H2 iv fp2 w3 x3 b3 pu => ?_⟩
                  obtain ⟨sm, er⟩ := pu rfl
                  subst er
                  have hiv : iv = .int i := by
                    cases w3.rt with
                    | so q _ => exact rd_int q
                  subst hiv
                  obtain ⟨f3, w4, x4⟩ := w3.tail
                  obtain ⟨w5, x5⟩ := glue Z2 H2 _ _ f3 w4 (x3.trans x4)
                  obtain ⟨v2, a2, vs2, ft2, fs2, ev2, wk2, ea2, rt2, rs2, nd2, back2⟩ := Wd.chList w5 rfl eo eg
                  rw [ev] at ev2
                  cases ev2
                  have ea' := walk_same (.inr sm) wk wk2
                  cases ea'
                  cases rt2 with
                  | @so _ _ fy fz _ _ qy rz =>
                    cases rz
                    rw [List.append_nil] at nd2 back2
                    have hm := (ixN_seq ek).2.1
                    have hl := rs2.length
                    obtain ⟨g1, g2, g', h1, h2, h3⟩ := ros_set qy rs2 hm
                    have pm : (fy ++ fs2).Perm ((fy ++ g1) ++ g2) := by rw [List.append_assoc]; exact List.Perm.append_left fy h1
                    have nd3 := List.nodup_append.mp (pm.nodup_iff.mp nd2)
                    obtain ⟨o', fp', e1, w6, x6⟩ := back2 _ g' _ [] [] [] h3 .nil (by rw [List.append_nil]; exact h2.nodup_iff.mpr nd3.1) (fun b m => pm.mem_iff.mpr (List.mem_append_left _ (h2.mem_iff.mp (by rw [List.append_nil] at m; exact m))))
                    rw [e1] at e
                    simp only [Option.bind_some, Option.some.injEq, Prod.mk.injEq] at e
                    obtain ⟨rfl, rfl⟩ := e
                    refine ⟨a, vs2, i, m, rfl, rfl, ea2, by rw [hl]; exact ek, ?_⟩
                    exact k Z2 _ σ fp' (x1.trans (x5.trans x6)) Fx.refl w6
              · cases e
          · cases e
      · cases e
    · cases e
theorem s_put {X : Cx} {fx : List Nat} {o i e : Expr} {pos tpos : Pos} {j : Nat} {path : List Int} {p : Bool} {f fi : Ev} (he : PE X e (EvR X.K p f)) (ho : PE X o (tPl j path)) (hi : PE X i (EvR X.K true fi))
    (ha : ∀ v, assign (.Subscript o i tpos) X.env v = (do
      let ov ← holding [v] (eval o X.env)
      let iv ← holding [v, ov] (eval i X.env)
      standAt tpos
      holding [v, ov, iv] (setItem ov iv v)
      release [v, ov, iv] []) := by intro _; rfl)
    (hs : swapsWithSole [.Subscript o i tpos] e pos.line X.env = pure false := by rfl) (hw : swappedStores [.Subscript o i tpos] e X.env = pure none := by rfl) (h1 : (assignEach [.Subscript o i tpos] X.env).map (·.2) = [assign (.Subscript o i tpos) X.env] := by rfl) :
    PS X (.Assign [.Subscript o i tpos] e pos) (StR X.K fx (putF j path fi f)) := impS (ps_asg he (pg_sub ho hi set_list ha) hs hw h1) fun _ _ _ h => h.put_
end Bv
set_option Elab.async false
set_option linter.all false
set_option maxRecDepth 100000
/-! Bv9: more expressions and statements by value. -/
namespace Bv
open PySem PySem.Spec PyProof.Rows L2

/-! ### a < b < c over ints -/
def intR : Rs → Option Int
  | .own (.d (.int i)) => some i
  | _ => none
theorem intR_some {r : Rs} {i : Int} (h : intR r = some i) : r = .own (.d (.int i)) := by
  unfold intR at h
  split at h
  · cases h; rfl
  · cases h
theorem EvR.intK_ {K : PySem.W.Frag} {σ : Sl} {H Z : Hp} {p : Bool} {f : Ev} {fr fr1 : Fr} {fp : List Addr} {r : Rs} {i : Int} (w : Wd K Z H σ fr fp) (ef : f fr = some (r, fr1)) (ei : intR r = some i) {R : V → Hp → Prop}
    (k : ∀ Z1 H1 fp1, Wd K Z1 H1 σ fr1 fp1 → Ext Z H fp Z1 H1 fp1 → Pu p H fr H1 fr1 → R (.int i) H1) : EvR K p f σ H R := by
  have er := intR_some ei
  subst er
  refine ⟨Z, fr, fp, _, fr1, w, ef, fun Z1 H1 v fp1 w1 x1 b1 pu1 => ?_⟩
  have hv : v = .int i := by
    cases w1.rt with
    | so q _ => exact rd_int q
  subst hv
  obtain ⟨f2, w2, x2⟩ := w1.tail
  exact k Z1 H1 f2 w2 (x1.trans x2) pu1
def chF (p q : Int → Int → Bool) (fa fb fc : Ev) : Ev := fun fr => (fa fr).bind fun x => (intR x.1).bind fun i => (fb x.2).bind fun y => (intR y.1).bind fun j =>
  if p i j = true then (fc y.2).bind fun z => (intR z.1).bind fun k => some (.own (.d (.bool (q j k))), z.2) else some (.own (.d (.bool false)), y.2)
theorem EvR.ch_ {K : PySem.W.Frag} {σ : Sl} {H : Hp} {Q : VK} {pa pb pc : Bool} {p q : Int → Int → Bool} {fa fb fc : Ev} (h : EvR K (pa && (pb && pc)) (chF p q fa fb fc) σ H Q) :
    tChain (rI0 fun i j => .bl (p i j)) (rI0 fun i j => .bl (q i j)) (EvR K pa fa) (EvR K pb fb) (EvR K pc fc) σ H Q := by
  obtain ⟨Z, fr, fp, r, fr', w, e, k⟩ := h
  unfold chF at e
  cases ea : fa fr with
  | none => rw [ea] at e; cases e
  | some x =>
    rw [ea] at e
    simp only [Option.bind_some] at e
    cases ei : intR x.1 with
    | none => rw [ei] at e; cases e
    | some i =>
      rw [ei] at e
      simp only [Option.bind_some] at e
      cases eb : fb x.2 with
      | none => rw [eb] at e; cases e
      | some y =>
        rw [eb] at e
        simp only [Option.bind_some] at e
        cases ej : intR y.1 with
        | none => rw [ej] at e; cases e
        | some j =>
          rw [ej] at e
          simp only [Option.bind_some] at e
          refine EvR.intK_ (r := x.1) (fr1 := x.2) w ea ei fun Z1 H1 fp1 w1 x1 pu1 => EvR.intK_ (r := y.1) (fr1 := y.2) w1 eb ej fun Z2 H2 fp2 w2 x2 pu2 => ⟨i, j, rfl, rfl, p i j, rfl, ?_⟩
          by_cases hp : p i j = true
          · rw [if_pos hp] at e ⊢
            cases ec : fc y.2 with
            | none => rw [ec] at e; cases e
            | some z =>
              rw [ec] at e
              simp only [Option.bind_some] at e
              cases ek : intR z.1 with
              | none => rw [ek] at e; cases e
              | some m =>
                rw [ek] at e
                simp only [Option.bind_some, Option.some.injEq, Prod.mk.injEq] at e
                obtain ⟨rfl, rfl⟩ := e
                exact EvR.intK_ (r := z.1) (fr1 := z.2) w2 ec ek fun Z3 H3 fp3 w3 x3 pu3 => ⟨j, m, rfl, rfl, k Z3 H3 _ fp3 (w3.bool _) (x1.trans (x2.trans x3)) .own (pu1.trans (pu2.trans pu3))⟩
          · rw [if_neg hp] at e ⊢
            cases e
            exact k Z2 H2 _ fp2 (w2.bool _) (x1.trans x2) .own fun z => (pu1.trans pu2) (by simp only [Bool.and_eq_true] at z ⊢; exact ⟨z.1, z.2.1⟩)
section
variable {X : Cx} {a b c : Expr} {pos : Pos} {pa pb pc : Bool} {fa fb fc : Ev} {p q : Int → Int → Bool} {op op' : CmpOp}
theorem e_ch (ho : OpR X (compareOp op) (rI0 fun i j => .bl (p i j))) (ho' : OpR X (compareOp op') (rI0 fun i j => .bl (q i j))) (ha : PE X a (EvR X.K pa fa)) (hb : PE X b (EvR X.K pb fb)) (hc : PE X c (EvR X.K pc fc))
    (hm : lastMarks [op, op'] [b, c] = false := by with_unfolding_all rfl) : PE X (.Compare a [op, op'] [b, c] pos) (EvR X.K (pa && (pb && pc)) (chF p q fa fb fc)) := imp (pe_chain ho ho' ha hb hc hm) fun _ _ _ h => h.ch_
theorem t_ch (ho : OpR X (compareOp op) (rI0 fun i j => .bl (p i j))) (ho' : OpR X (compareOp op') (rI0 fun i j => .bl (q i j))) (ha : PE X a (EvR X.K pa fa)) (hb : PE X b (EvR X.K pb fb)) (hc : PE X c (EvR X.K pc fc))
    (hm : lastMarks [op, op'] [b, c] = false := by with_unfolding_all rfl) : PT X (.Compare a [op, op'] [b, c] pos) (EvT X.K (pa && (pb && pc)) (tstF (chF p q fa fb fc))) := impT (pt_chain ho ho' ha hb hc hm) fun _ _ _ h => by
  have h1 := h.tst_
  exact EvR.ch_ h1
end

/-! ### the signs of a text -/
def signsD (x : Str) : List PyData := x.cps.toList.map fun c => .str ⟨#[c]⟩
theorem Jok.str {K : PySem.W.Frag} {Z0 : Hp} (x : Str) : Jok K (Its x) Z0 [] [] (signsD x) := by
  have hl : (signsD x).length = x.cps.size := by unfold signsD; simp
  refine ⟨fun Z H fp i w s hi => (show i < x.cps.size by omega), fun Z H fp i v H' w s hi y => ?_, fun Z H fp i w s hi => (show x.cps.size ≤ i by omega)⟩
  obtain ⟨rfl, c, ec, rfl⟩ := y
  refine ⟨.str ⟨#[c]⟩, Z, ?_, New.flat w.zh (.str _)⟩
  unfold signsD
  rw [List.getElem?_map, Array.getElem?_toList, ec]
  rfl
def strI (f : Ev) : Evi := fun fr => (f fr).bind fun x => match x.1 with
  | .own (.d (.str z)) => some (signsD z, x.2)
  | _ => none
theorem IvR.str_ {K : PySem.W.Frag} {p : Bool} {f : Ev} {σ : Sl} {H : Hp} {R : It → Hp → Prop} (h : IvR K (strI f) σ H R) : iStr (EvR K p f) σ H R := by
  obtain ⟨Z, fr, fp, ts, fr', w, e, k⟩ := h
  unfold strI at e
  cases ef : f fr with
  | none => rw [ef] at e; cases e
  | some x =>
    obtain ⟨r, fr1⟩ := x
    rw [ef] at e
    simp only [Option.bind_some] at e
    split at e
    · rename_i z
      cases e
      refine ⟨Z, fr, fp, _, fr', w, ef, fun Z1 H1 v fp1 w1 x1 b1 _ => ?_⟩
      have hv : v = .str z := by
        cases w1.rt with
        | so q _ =>
          cases q with
          | d q => cases q; rfl
      obtain ⟨f2, w2, x2⟩ := w1.tail
      exact ⟨z, hv, k _ Z1 H1 [] [] f2 rfl w2 (x1.trans x2) (.str z)⟩
    · cases e
theorem i_str {X : Cx} {tg e : Expr} {p : Bool} {f : Ev} (h : PE X e (EvR X.K p f)) : PI X tg e (IvR X.K (strI f)) := impI (pi_str h) fun _ _ _ q => q.str_

/-! ### * -/
def repS (x : Str) (n : Nat) : Str := ⟨(List.replicate n x.cps.toList).flatten.toArray⟩
theorem fold_rep (a : Array Nat) : ∀ (n : Nat) (acc : Array Nat), ((List.replicate n a).foldl (· ++ ·) acc).toList = acc.toList ++ (List.replicate n a.toList).flatten
  | 0, acc => by simp
  | n + 1, acc => by
    rw [List.replicate_succ, List.foldl_cons, fold_rep a n, List.replicate_succ, List.flatten_cons, Array.toList_append, List.append_assoc]
theorem fold_repS (x : Str) (n : Nat) : (⟨(List.replicate n x.cps).foldl (· ++ ·) #[]⟩ : Str) = repS x n := by
  unfold repS
  congr 1
  apply Array.toList_inj.mp
  rw [fold_rep]
  simp
def rRepS : R2 := fun x y H Q => ∃ (z : Str) (n : Nat), x = .str z ∧ y = .int n ∧ z.length ≤ 1000 ∧ n ≤ 1000 ∧ Q (.str (repS z n)) H
theorem op_repS {X : Cx} : OpR X (binaryOp .Mult) rRepS := by
  intro pins s σ H x y v u Q I rx ry h
  obtain ⟨z, n, rfl, rfl, hz, hn, q⟩ := h
  obtain ⟨t, rfl⟩ := rx
  obtain ⟨t2, rfl⟩ := ry
  have hm : z.length * ((n : Int)).toNat ≤ 1000 * 1000 := Nat.mul_le_mul hz (by omega)
  refine PySem.P.mul_str (by rw [decide_eq_false (by omega), decide_eq_false (by omega)]; rfl) (fun h0 _ => ?_) (fun _ _ => ?_) ?_
  · have h1 : (1000 : Int) * (n : Int) ≤ 2 ^ 63 - 1 := by omega
    have h2 : (1000 : Int) ≤ (2 ^ 63 - 1) / (n : Int) := (Int.le_ediv_iff_mul_le (by omega)).mpr h1
    omega
  · unfold Builtin.Str.tooLong
    rw [decide_eq_false_iff_not]
    have := sizeLine_eq
    omega
  · split
    · rename_i h0
      have e : n = 0 := by omega
      subst e
      refine ⟨Nat.zero_le _, ?_⟩
      exact ⟨.str (repS z 0), H, I.tok _, ⟨_, rfl⟩, q⟩
    · split
      · rename_i h0 h1
        refine ⟨.str (repS z n), H, I, ⟨t, ?_⟩, q⟩
        have e : repS z n = z := by
          rcases (Bool.or_eq_true _ _).mp h1 with h1 | h1
          · have e : (n : Int) = 1 := by simpa using h1
            have e : n = 1 := by omega
            subst e
            unfold repS
            simp
          · have e : z.cps.size = 0 := by simpa [Str.length] using h1
            have e : z.cps = #[] := Array.eq_empty_of_size_eq_zero e
            obtain ⟨c⟩ := z
            have e : c = #[] := e
            subst e
            unfold repS
            simp
        rw [e]
      · rw [fold_repS]
        have hlen : (repS z ((n : Int)).toNat).length = n * z.length := by
          show (List.replicate n z.cps.toList).flatten.toArray.size = _
          rw [List.size_toArray, List.length_flatten, List.map_replicate, List.sum_replicate_nat]
          rfl
        refine ⟨by rw [hlen]; have := sizeLine_eq; have h3 : n * z.length ≤ 1000 * 1000 := Nat.mul_le_mul hn hz; omega, ?_⟩
        exact ⟨.str (repS z n), H, I.tok _, ⟨_, rfl⟩, q⟩
def mulO (a b : O) : Option O := match a, b with
  | .d (.int i), .d (.int j) => if i.natAbs.log2 + j.natAbs.log2 < 1000000 then some (.d (.int (i * j))) else none
  | .d (.str z), .d (.int j) => if z.length ≤ 1000 ∧ 0 ≤ j ∧ j ≤ 1000 then some (.d (.str (repS z j.toNat))) else none
  | a, .d (.int j) => (asL a).bind fun ts => if -(2 ^ 63) ≤ j ∧ j < 2 ^ 63 ∧ ts.length * j.toNat ≤ sizeLine then some (.l ((List.replicate j.toNat ts).flatten.map O.d)) else none
  | _, _ => none
def rMulA : R2 := fun x y H Q => ((rI CMulW fun i j => .int (i * j)) x y H Q ∨ rRepS x y H Q) ∨ rRep x y H Q
theorem o_mul {X : Cx} : OpR X (binaryOp .Mult) rMulA := OpR.orr (OpR.orr op_mulW op_repS) op_rep
theorem k_mul {K : PySem.W.Frag} : OpOk K (rTwo rMulA) (two mulO) := ok2 fun Z H x y a b o Q zh ha hb e k => by
  unfold mulO at e
  split at e
  · split at e
    · rename_i hz
      cases e
      exact .inl (.inl ⟨_, _, has_int ha, has_int hb, hz, k _ _ _ _ (.int zh)⟩)
    · cases e
  · split at e
    · rename_i z j hz
      cases e
      have hj : (j.toNat : Int) = j := Int.toNat_of_nonneg hz.2.1
      exact .inl (.inr ⟨_, j.toNat, has_str ha, by rw [hj]; exact has_int hb, hz.1, by omega, k _ _ _ _ (.str zh)⟩)
    · cases e
  · rename_i j _ _
    cases el : asL a with
    | none => rw [el] at e; cases e
    | some ts =>
      rw [el] at e
      simp only [Option.bind_some] at e
      split at e
      · rename_i hz
        cases e
        obtain ⟨p, vs, rfl, hp, rp⟩ := has_list zh ha el
        exact .inr ⟨p, j, vs, rfl, has_int hb, hp, hz.1, hz.2.1, by rw [rp.length]; exact hz.2.2, fun np hn => k _ _ _ _ (.list zh hn (rp.flat _))⟩
      · cases e
  · cases e

/-! ### dict displays -/
def keyR : Rs → Option Key
  | .own (.d (.int i)) => some (.inl i)
  | .own (.d (.str x)) => some (.inr x)
  | _ => none
def pairO : List Rs → Option (List Key × List O)
  | [] => some ([], [])
  | k :: .own o :: rs => (keyR k).bind fun j => (pairO rs).bind fun p => some (j :: p.1, o :: p.2)
  | _ => none
def disF (f : Eva) : Ev := fun fr => (f fr).bind fun x => (pairO x.1).bind fun p => if p.1.Nodup ∧ p.1.length ≤ 15 then some (.own (.m p.1 p.2), x.2) else none
def unpair (ps : List (V × V)) : List V := ps.flatMap fun p => [p.1, p.2]
def repair : List V → List (V × V)
  | a :: b :: r => (a, b) :: repair r
  | _ => []
theorem repair_unpair : ∀ ps : List (V × V), repair (unpair ps) = ps
  | [] => rfl
  | (a, b) :: ps => by
    show (a, b) :: repair (unpair ps) = _
    rw [repair_unpair ps]
def PairsR (K : PySem.W.Frag) (trs : List (TE × TE)) (p : Bool) (f : Eva) : Prop := ∀ (σ : Sl) (H : Hp) (Q : List V → Hp → Prop), EvA K p f σ H Q → tPairs trs σ H fun ps H1 => Q (unpair ps) H1
theorem PairsR.nil {K : PySem.W.Frag} : PairsR K [] true nilF := fun σ H Q h => h.nil_
theorem PairsR.cons {K : PySem.W.Frag} {trs : List (TE × TE)} {p pk pv : Bool} {f : Eva} {fk fv : Ev} (h : PairsR K trs p f) : PairsR K ((EvR K pk fk, EvR K pv fv) :: trs) (pk && (pv && p)) (consF (pv && p) fk (consF p fv f)) := fun σ H Q q => by
  have q1 := q.cons_
  obtain ⟨Z, fr, fp, r1, fr1, w, e, k⟩ := q1
  refine ⟨Z, fr, fp, r1, fr1, w, e, fun Z1 H1 v fp1 w1 x1 b1 pu1 => ?_⟩
  obtain ⟨Z, fr, fp, r1, fr1, w, e, k⟩ := (k Z1 H1 v fp1 w1 x1 b1 pu1).cons_
  refine ⟨Z, fr, fp, r1, fr1, w, e, fun Z1 H1 v2 fp1 w1 x1 b1 pu1 => ?_⟩
  exact h _ _ _ (k Z1 H1 v2 fp1 w1 x1 b1 pu1)
/-- a dict display's pairs: the fresh dict p -/
theorem pair_rt {K : PySem.W.Frag} {Z H : Hp} : ∀ {rs : List Rs} {vs : List V} {ks : List Key} {os : List O} {fp : List Addr}, pairO rs = some (ks, os) → Rt K Z H (vs.map some) fp (rs.map Rs.root) →
    ∃ kvs : List (Key × V), repair vs = kvs.map (fun kv => (kV kv.1, kv.2)) ∧ kvs.map (·.1) = ks ∧ Ros K Z H (kvs.map (·.2)) fp os
  | [], [], _, _, _, h, r => by
    cases h
    cases r
    exact ⟨[], rfl, rfl, .nil⟩
  | [], v :: vs, _, _, _, h, r => by cases r
  | r0 :: rs, [], _, _, _, h, r => by cases r
  | [r0], v :: vs, _, _, _, h, r => by cases h
  | r0 :: r1 :: rs, [v], _, _, _, h, r => by
    have := r.length
    simp at this
  | r0 :: r1 :: rs, pv :: pw :: vs, ks, os, fp, h, r => by
    cases r1 with
    | bor _ => cases h
    | ref _ _ => cases h
    | own o =>
      unfold pairO at h
      cases ek : keyR r0 with
      | none => rw [ek] at h; cases h
      | some j =>
        rw [ek] at h
        simp only [Option.bind_some] at h
        cases ep : pairO rs with
        | none => rw [ep] at h; cases h
        | some q =>
          rw [ep] at h
          simp only [Option.bind_some, Option.some.injEq, Prod.mk.injEq] at h
          obtain ⟨rfl, rfl⟩ := h
          have hroot : r0.root = some (.d (keyD j)) := by
            unfold keyR at ek
            split at ek
            · cases ek; rfl
            · cases ek; rfl
            · cases ek
          have r : Rt K Z H (some pv :: some pw :: vs.map some) fp (r0.root :: some o :: rs.map Rs.root) := r
          rw [hroot] at r
          cases r with
          | so qk r =>
            cases r with
            | so qv r =>
              obtain ⟨kvs, e1, e2, e3⟩ := pair_rt (ks := q.1) (os := q.2) ep r
              cases qk with
              | d qk =>
                have hk : pv = kV j := by
                  cases j with
                  | inl i => cases qk; rfl
                  | inr x => cases qk; rfl
                subst hk
                refine ⟨(j, pw) :: kvs, ?_, by rw [List.map_cons, e2], ?_⟩
                · show (kV j, pw) :: repair vs = _
                  rw [e1, List.map_cons]
                · rw [List.map_cons, List.nil_append]
                  exact .cons qv e3
theorem merge_nodup : ∀ (kvs acc : List (Key × V)), ((acc ++ kvs).map (·.1)).Nodup → mergeK acc kvs = acc ++ kvs
  | [], acc, _ => by rw [List.append_nil]; rfl
  | p :: kvs, acc, h => by
    have hn : ¬ (acc.any fun kv => decide (kv.1 = p.1)) = true := fun z => by
      obtain ⟨q, hq, e⟩ := List.any_eq_true.mp z
      have e : q.1 = p.1 := of_decide_eq_true e
      rw [List.map_append] at h
      exact (List.nodup_append.mp h).2.2 q.1 (List.mem_map.mpr ⟨q, hq, rfl⟩) p.1 (by simp) e
    have ep : putK acc p.1 p.2 = acc ++ [p] := by
      unfold putK
      rw [if_neg hn]
    show mergeK (putK acc p.1 p.2) kvs = _
    rw [ep, merge_nodup kvs (acc ++ [p]) (by rw [List.append_assoc]; exact h), List.append_assoc]
    rfl
theorem EvR.dis_ {K : PySem.W.Frag} {σ : Sl} {H : Hp} {Q : VK} {trs : List (TE × TE)} {p : Bool} {f : Eva} (hp : PairsR K trs p f) (h : EvR K false (disF f) σ H Q) : tDisp trs σ H Q := by
  obtain ⟨Z, fr, fp, r, fr', w, e, k⟩ := h
  unfold disF at e
  cases ef : f fr with
  | none => rw [ef] at e; cases e
  | some x =>
    obtain ⟨rs, fr1⟩ := x
    rw [ef] at e
    simp only [Option.bind_some] at e
    cases eo : pairO rs with
    | none => rw [eo] at e; cases e
    | some q =>
      obtain ⟨ks, os⟩ := q
      rw [eo] at e
      simp only [Option.bind_some] at e
      split at e
      · rename_i hz
        simp only [Option.some.injEq, Prod.mk.injEq] at e
        obtain ⟨rfl, rfl⟩ := e
        intro a ha
        have sm : Same H (upd H a (.dK [])) := fun b o e => by rw [upd_ne (ne_of_none e ha)]; exact e
        have za : Z a = none := by
          cases q : Z a with
          | none => rfl
          | some u => rw [w.zh _ _ q] at ha; cases ha
        have af : a ∉ fp := fun m => w.live a m ha
        have w0 : Wd K Z (upd H a (.dK [])) σ fr fp := ⟨w.rt.frame (fun b _ u e => sm b u e) fun _ _ e => e, w.nd, w.zf, w.zh.trans sm, fun b m => by rw [upd_ne (fun z : b = a => af (z ▸ m))]; exact w.live b m⟩
        have x0 : Ext Z H fp Z (upd H a (.dK [])) fp := ⟨fun b u e _ => sm b u e, fun b e => (by
          by_cases hb : b = a
          · rw [hb, upd_same]; exact nofun
          · rw [upd_ne hb]; exact e), fun b m => .inl m, fun _ _ e => e, fun _ e => .inl e⟩
        have main : EvA K p f σ (upd H a (.dK [])) fun vs H2 => H2 a = some (.dK []) ∧ ∃ kvs : List (Key × V), repair vs = kvs.map (fun kv => (kV kv.1, kv.2)) ∧ kvs.length ≤ 15 ∧ Q (.ref a) (upd H2 a (.dK (mergeK [] kvs))) := by
          refine ⟨Z, fr, fp, rs, fr1, w0, ef, fun Z1 H1 vs fp1 w1 x1 b1 _ => ?_⟩
          have h1 : H1 a = some (.dK []) := x1.keep a _ upd_same af
          have a1 : a ∉ fp1 := fun m => by
            rcases x1.foot a m with z | z
            · exact af z
            · rw [upd_same] at z; cases z
          refine ⟨h1, ?_⟩
          obtain ⟨f1, f2, e1, r1, r2⟩ := Rt.split (by simp [b1.length]) w1.rt
          subst e1
          obtain ⟨kvs, k1, k2, k3⟩ := pair_rt eo r1
          have hl : kvs.length = ks.length := by rw [← k2, List.length_map]
          refine ⟨kvs, k1, by omega, ?_⟩
          rw [merge_nodup kvs [] (by rw [List.nil_append, k2]; exact hz.1), List.nil_append]
          have z1 : Z1 a = none := by
            cases q : Z1 a with
            | none => rfl
            | some u =>
              rcases x1.zn a (by rw [q]; exact nofun) with z | z | z
              · exact absurd za z
              · exact absurd z af
              · rw [upd_same] at z; cases z
          have fr2 : ∀ b, b ≠ a → ∀ u, H1 b = some u → (upd H1 a (.dK kvs)) b = some u := fun b hb u e => by rw [upd_ne hb]; exact e
          have nf : ∀ b ∈ f1 ++ f2, b ≠ a := fun b m z => a1 (z ▸ m)
          have big : Wd K Z1 (upd H1 a (.dK kvs)) (some (.ref a) :: σ) (some (.m ks os) :: fr1) ((a :: f1) ++ f2) := by
            refine ⟨.so ?_ (r2.frame (fun b m u e => fr2 b (nf b (List.mem_append_right _ m)) u e) fun _ _ e => e), List.nodup_cons.mpr ⟨a1, w1.nd⟩, fun b m => ?_, fun b u q => ?_, fun b m => ?_⟩
            · rw [← k2]
              exact .m upd_same (k3.frame (fun b m u e => fr2 b (nf b (List.mem_append_left _ m)) u e) fun _ _ e => e)
            · rcases List.mem_cons.mp m with rfl | m
              · exact z1
              · exact w1.zf b m
            · exact fr2 b (fun z => by rw [z, z1] at q; cases q) u (w1.zh _ _ q)
            · by_cases hb : b = a
              · rw [hb, upd_same]; exact nofun
              · rcases List.mem_cons.mp m with m | m
                · exact absurd m hb
                · rw [upd_ne hb]; exact w1.live b m
          refine k Z1 _ (.ref a) _ big ?_ .own fun z => nomatch z
          have x2 := x0.trans x1
          refine ⟨fun b u e m => ?_, fun b e => ?_, fun b m => ?_, x2.zz, x2.zn⟩
          · exact fr2 b (ne_of_none e ha) u (x2.keep b u e m)
          · by_cases hb : b = a
            · rw [hb, upd_same]; exact nofun
            · rw [upd_ne hb]; exact x2.live b e
          · rcases List.mem_cons.mp m with rfl | m
            · exact .inr ha
            · exact x2.foot b m
        have fin := hp _ _ _ main
        have ee : (fun (ps : List (V × V)) (H2 : Hp) => H2 a = some (.dK []) ∧ ∃ kvs : List (Key × V), repair (unpair ps) = kvs.map (fun kv => (kV kv.1, kv.2)) ∧ kvs.length ≤ 15 ∧ Q (.ref a) (upd H2 a (.dK (mergeK [] kvs)))) =
            fun ps H2 => H2 a = some (.dK []) ∧ ∃ kvs : List (Key × V), ps = kvs.map (fun kv => (kV kv.1, kv.2)) ∧ kvs.length ≤ 15 ∧ Q (.ref a) (upd H2 a (.dK (mergeK [] kvs))) := by
          funext ps H2
          rw [repair_unpair]
        rw [ee] at fin
        exact fin
      · cases e
theorem e_dis {X : Cx} {pos : Pos} {keys : List (Option Expr)} {values : List Expr} {trs : List (TE × TE)} {p : Bool} {f : Eva} (h : PPs X pos keys values trs) (hp : PairsR X.K trs p f) (hall : keys.all (·.isSome) = true := by rfl) (hl : keys.length = values.length := by rfl) (h0 : keys ≠ [] := by exact nofun)
    (h15 : keys.length ≤ 15 := by decide) : PE X (.Dict keys values pos) (EvR X.K false (disF f)) := imp (pe_disp h hall hl h0 h15) fun _ _ _ q => EvR.dis_ hp q
end Bv
set_option Elab.async false
set_option linter.all false
set_option maxRecDepth 100000
/-! Bv10: dict lookup, parallel stores, keyword calls, repr, by value. -/
namespace Bv
open PySem PySem.Spec PyProof.Rows L2

/-! ### d[k] -/
theorem keyD_inj {a b : Key} (h : keyD a = keyD b) : a = b := by
  cases a <;> cases b <;> cases h <;> rfl
def keyO : O → Option Key
  | .d (.int i) => some (.inl i)
  | .d (.str x) => some (.inr x)
  | _ => none
/-- keys and frozen values of a dict -/
def hitD (a : PyData) (k : Key) : Bool := match a, k with
  | .int i, .inl j => i == j
  | .str x, .inr y => x == y
  | _, _ => false
def findD (k : Key) : List (PyData × PyData) → Option PyData
  | [] => none
  | (a, t) :: r => if hitD a k = true then some t else findD k r
def asD : O → Option (List (PyData × PyData))
  | .d (.dict kvs) => some kvs
  | .m ks os => (allD os).bind fun ts => some ((ks.map keyD).zip ts)
  | _ => none
def dgO (a b : O) : Option O := (asD a).bind fun kvs => (keyO b).bind fun k => (findD k kvs).bind fun t => some (.d t)
theorem key_eq (a k : Key) : hitD (keyD a) k = decide (a = k) := by
  cases a <;> cases k
  · rename_i i j
    show (i == j) = _
    by_cases h : i = j
    · subst h; simp
    · rw [decide_eq_false (fun e => h (by cases e; rfl))]; simpa using h
  · rfl
  · rfl
  · rename_i i j
    show (i == j) = _
    by_cases h : i = j
    · subst h; simp
    · rw [decide_eq_false (fun e => h (by cases e; rfl))]; simpa using h
theorem find_val {K : PySem.W.Frag} {Z : Hp} {k : Key} : ∀ {kvs : List (Key × V)} {ts : List PyData} {t : PyData}, Rps K Z (kvs.map (·.2)) ts → findD k ((kvs.map fun p => keyD p.1).zip ts) = some t → ∃ v, valV kvs k = some v ∧ Rp K Z v t
  | [], ts, t, h, e => by
    have : ts = [] := by cases h; rfl
    subst this
    cases e
  | (a, v) :: kvs, ts, t, h, e => by
    cases h with
    | @cons _ _ t0 ts0 q r =>
      have e : findD k ((keyD a, t0) :: (kvs.map fun p => keyD p.1).zip ts0) = some t := e
      unfold findD at e
      rw [key_eq] at e
      by_cases h : a = k
      · rw [if_pos (decide_eq_true h)] at e
        cases e
        exact ⟨v, valV_pos h, q⟩
      · rw [if_neg (by rw [decide_eq_false h]; decide)] at e
        obtain ⟨v2, h1, h2⟩ := find_val r e
        exact ⟨v2, by rw [valV_neg h]; exact h1, h2⟩
theorem findD_key {k : Key} : ∀ {kvs : List (PyData × PyData)} {t : PyData}, findD k kvs = some t → (keyD k, t) ∈ kvs
  | [], _, h => by cases h
  | (a, t0) :: r, t, h => by
    unfold findD at h
    split at h
    · rename_i hm
      cases h
      have : a = keyD k := by
        unfold hitD at hm
        split at hm
        · rw [eq_of_beq hm]; rfl
        · rw [eq_of_beq hm]; rfl
        · cases hm
      subst this
      exact List.mem_cons_self
    · exact List.mem_cons_of_mem _ (findD_key h)
theorem keyT_ne (k : Key) (l : List Key) : keyD k ≠ keyT l := by cases k <;> exact nofun
theorem findD_T {k : Key} {ks : List (List Key)} {ts : List PyData} {t : PyData} : findD k ((ks.map keyT).zip ts) ≠ some t := fun h => by
  have := (List.of_mem_zip (findD_key h)).1
  obtain ⟨l, _, e⟩ := List.mem_map.mp this
  exact keyT_ne k l e.symm
theorem k_dg {K : PySem.W.Frag} : OpOk K (rTwo fun x y H Q => ∃ a v, x = .ref a ∧ DGet H a y (some v) ∧ Q v H) (two dgO) := ok2 fun Z H x y a b o Q zh ha hb e k => by
  unfold dgO at e
  cases ed : asD a with
  | none => rw [ed] at e; cases e
  | some kvs =>
    rw [ed] at e
    simp only [Option.bind_some] at e
    cases ek : keyO b with
    | none => rw [ek] at e; cases e
    | some key =>
      rw [ek] at e
      simp only [Option.bind_some] at e
      cases ef : findD key kvs with
      | none => rw [ef] at e; cases e
      | some t =>
        rw [ef] at e
        cases e
        have hy : y = kV key := by
          unfold keyO at ek
          split at ek
          · cases ek; exact has_int hb
          · cases ek; exact has_str hb
          · cases ek
        unfold asD at ed
        split at ed
        · cases ed
          have ra := has_rp ha
          cases ra with
          | @dK p xs ts e r =>
            obtain ⟨v, h1, h2⟩ := find_val r ef
            exact ⟨p, v, rfl, .inl ⟨xs, key, .inl (zh _ _ e), hy, h1.symm⟩, k _ _ _ _ (.flat zh h2)⟩
          | @dT p xs ts e r =>
            have : (xs.map fun p => keyT p.1) = (xs.map (·.1)).map keyT := by rw [List.map_map]; rfl
            rw [this] at ef
            exact absurd ef findD_T
        · rename_i ks os
          cases eo : allD os with
          | none => rw [eo] at ed; cases ed
          | some ts =>
            rw [eo] at ed
            cases ed
            have e2 := allD_some eo
            subst e2
            obtain ⟨fp, ha⟩ := ha
            cases ha with
            | @m p xs g _ e r =>
              obtain ⟨rp, _⟩ := ros_d r
              rw [zip_keys] at ef
              obtain ⟨v, h1, h2⟩ := find_val rp ef
              exact ⟨p, v, rfl, .inl ⟨xs, key, .inl e, hy, h1.symm⟩, k _ _ _ _ (.flat zh h2)⟩
        · cases ed
theorem e_dg {X : Cx} {o i : Expr} {pos : Pos} {pa pb : Bool} {fa fb : Ev} (hu : X.A.units + 1 < cLine) (ho : PE X o (EvR X.K pa fa)) (hi : PE X i (EvR X.K pb fb)) (hs : NoSl i) : PE X (.Subscript o i pos) (EvR X.K (pa && pb) (bin pb (two dgO) fa fb)) :=
  imp (pe_dget hu ho hi hs) fun _ _ _ h => EvR.bin_ k_dg h

/-! ### a, b = x, y -/
def setsF (fx : List Nat) : List Nat → List O → Fr → Option Fr
  | [], [], fr => some fr
  | i :: is, o :: os, fr => if i ∈ fx then none else setsF fx is os (fr.set i (some o))
  | _, _, _ => none
def parF (fx : List Nat) (is : List Nat) (f : Eva) : Sts := fun fr => (f fr).bind fun x => (allOwn x.1).bind fun os => if os.length ≤ sizeLine then (setsF fx is os x.2).bind fun fr1 => some (.nx, fr1) else none
def setsV : List Nat → List V → Sl → Sl
  | i :: is, v :: vs, σ => setsV is vs (σ.set i (some v))
  | _, _, σ => σ
theorem Wd.stores {K : PySem.W.Frag} {Z H : Hp} {fx : List Nat} : ∀ {is : List Nat} {vs : List V} {os : List O} {σ : Sl} {fr fr1 : Fr} {fp : List Addr}, vs.length = os.length → setsF fx is os fr = some fr1 → Wd K Z H (vs.map some ++ σ) (os.map some ++ fr) fp →
    ∃ fp', Wd K Z H (setsV is vs σ) fr1 fp' ∧ Ext Z H fp Z H fp' ∧ Fx fx σ (setsV is vs σ)
  | [], [], [], σ, fr, fr1, fp, _, h, w => by
    cases h
    exact ⟨fp, w, Ext.refl _ _ _, Fx.refl⟩
  | [], _ :: _, [], _, _, _, _, hl, _, _ => by simp at hl
  | [], _, _ :: _, _, _, _, _, _, h, _ => by cases h
  | _ :: _, _, [], _, _, _, _, _, h, _ => by cases h
  | _ :: _, [], _ :: _, _, _, _, _, hl, _, _ => by simp at hl
  | i :: is, v :: vs, o :: os, σ, fr, fr1, fp, hl, h, w => by
    unfold setsF at h
    split at h
    · cases h
    · rename_i hi
      -- the first root, past the others
      have hl2 : vs.length = os.length := by simpa using hl
      have w' : Wd K Z H ((some v :: vs.map some) ++ σ) ((some o :: os.map some) ++ fr) fp := w
      obtain ⟨fa, fb, e1, r1, r2⟩ := Rt.split (by simp [hl2]) w'.rt
      cases r1 with
      | @so _ _ ga gb _ _ q r1 =>
        subst e1
        have pm : ((gb ++ (ga ++ fb))).Perm (ga ++ gb ++ fb) := by
          rw [← List.append_assoc]
          exact List.Perm.append_right fb List.perm_append_comm
        have w2 : Wd K Z H (vs.map some ++ (some v :: σ)) (os.map some ++ (some o :: fr)) (gb ++ (ga ++ fb)) := w.perm (r1.append (.so q r2)) pm
        obtain ⟨f1, f2, e2, w3, glue⟩ := w2.under (by simp [hl2])
        obtain ⟨f3, w4, x4⟩ := w3.store i
        obtain ⟨w5, x5⟩ := glue Z H _ _ f3 w4 x4
        obtain ⟨fp', w6, x6, f6⟩ := Wd.stores hl2 h w5
        have x0 : Ext Z H (ga ++ gb ++ fb) Z H (gb ++ (ga ++ fb)) := (Ext.refl Z H _).perm (fun _ => Iff.rfl) fun a m => pm.mem_iff.mp m
        exact ⟨fp', w6, x0.trans (x5.trans x6), (Fx.set hi).trans f6⟩
theorem Wd.allOwn {K : PySem.W.Frag} {Z H : Hp} {σ : Sl} {fr : Fr} {fp : List Addr} {vs : List V} {rs : List Rs} {os : List O} (h : allOwn rs = some os) (w : Wd K Z H (vs.map some ++ σ) (rs.map Rs.root ++ fr) fp) : Wd K Z H (vs.map some ++ σ) (os.map some ++ fr) fp := by
  have e : ∀ {rs : List Rs} {os : List O}, Bv.allOwn rs = some os → rs.map Rs.root = os.map some := by
    intro rs
    induction rs with
    | nil => intro os h; cases h; rfl
    | cons r rs ih =>
      intro os h
      cases r with
      | own o =>
        unfold Bv.allOwn at h
        cases e : Bv.allOwn rs with
        | none => rw [e] at h; cases h
        | some us =>
          rw [e] at h
          cases h
          rw [List.map_cons, List.map_cons, ih e]
          rfl
      | bor _ => cases h
      | ref _ _ => cases h
  rw [← e h]; exact w
theorem StR.par0_ {K : PySem.W.Frag} {fx : List Nat} {D : Ends} {is : List Nat} {p : Bool} {f : Eva} {σ : Sl} {H : Hp} (h : StR K fx (parF fx is f) D σ H) :
    EvA K p f σ H fun vs H1 => vs.length ≤ sizeLine ∧ vs.length = is.length ∧ (∀ t, H1 t = none → D.nx (setsV is vs σ) (upd H1 t (.tup vs))) ∧ D.nx (setsV is vs σ) H1 := by
  obtain ⟨Z, fr, fp, fl, fr', w, e, k⟩ := h
  unfold parF at e
  cases ef : f fr with
  | none => rw [ef] at e; cases e
  | some x =>
    obtain ⟨rs, fr1⟩ := x
    rw [ef] at e
    simp only [Option.bind_some] at e
    cases eo : Bv.allOwn rs with
    | none => rw [eo] at e; cases e
    | some os =>
      rw [eo] at e
      simp only [Option.bind_some] at e
      split at e
      · rename_i hz
        cases es : setsF fx is os fr1 with
        | none => rw [es] at e; cases e
        | some fr2 =>
          rw [es] at e
          simp only [Option.bind_some, Option.some.injEq, Prod.mk.injEq] at e
          obtain ⟨rfl, rfl⟩ := e
          refine ⟨Z, fr, fp, rs, fr1, w, ef, fun Z1 H1 vs fp1 w1 x1 b1 _ => ?_⟩
          have hl : vs.length = os.length := b1.length.trans (allOwn_len eo)
          have hn : ∀ {is : List Nat} {os : List O} {fr fr1 : Fr}, setsF fx is os fr = some fr1 → os.length = is.length := by
            intro is
            induction is with
            | nil =>
              intro os fr fr1 h
              cases os with
              | nil => rfl
              | cons o os => cases h
            | cons i is ih =>
              intro os fr fr1 h
              cases os with
              | nil => cases h
              | cons o os =>
                unfold setsF at h
                split at h
                · cases h
                · rw [List.length_cons, List.length_cons, ih h]
          have w2 := Wd.allOwn eo w1
          refine ⟨by omega, by rw [hl, hn es], fun t ht => ?_, ?_⟩
          · have sm : Same H1 (upd H1 t (.tup vs)) := fun b o e => by rw [upd_ne (ne_of_none e ht)]; exact e
            have w3 : Wd K Z1 (upd H1 t (.tup vs)) (vs.map some ++ σ) (os.map some ++ fr1) fp1 := ⟨w2.rt.frame (fun b _ u e => sm b u e) fun _ _ e => e, w2.nd, w2.zf, w2.zh.trans sm, fun b m => by rw [upd_ne (fun z : b = t => w2.live b m (z ▸ ht))]; exact w2.live b m⟩
            have x3 : Ext Z1 H1 fp1 Z1 (upd H1 t (.tup vs)) fp1 := ⟨fun b u e _ => sm b u e, fun b e => (by
              by_cases hb : b = t
              · rw [hb, upd_same]; exact nofun
              · rw [upd_ne hb]; exact e), fun b m => .inl m, fun _ _ e => e, fun _ e => .inl e⟩
            obtain ⟨fp', w4, x4, f4⟩ := Wd.stores hl es w3
            exact k Z1 _ _ fp' (x1.trans (x3.trans x4)) f4 w4
          · obtain ⟨fp', w4, x4, f4⟩ := Wd.stores hl es w2
            exact k Z1 H1 _ fp' (x1.trans x4) f4 w4
      · cases e
/-- .. names in a tuple of targets -/
def gNames : List Nat → TGs
  | [] => gNil
  | i :: is => gCons (gName i) (gNames is)
theorem gNames_of {vs : List V} {is : List Nat} {σ : Sl} {H : Hp} {Q : Sl → Hp → Prop} (hl : vs.length = is.length) (h : Q (setsV is vs σ) H) : gNames is vs σ H Q := by
  induction is generalizing vs σ with
  | nil =>
    cases vs with
    | nil => exact ⟨rfl, h⟩
    | cons v vs => simp at hl
  | cons i is ih =>
    cases vs with
    | nil => simp at hl
    | cons v vs => exact ⟨v, vs, rfl, ih (by simpa using hl) h⟩
theorem evA_mono {K : PySem.W.Frag} {p : Bool} {f : Eva} {σ : Sl} {H : Hp} {Q Q' : List V → Hp → Prop} (h : EvA K p f σ H Q) (k : ∀ vs H, Q vs H → Q' vs H) : EvA K p f σ H Q' := by
  obtain ⟨Z, fr, fp, rs, fr', w, e, q⟩ := h
  exact ⟨Z, fr, fp, rs, fr', w, e, fun Z1 H1 vs fp1 w1 x1 b1 pu => k _ _ (q Z1 H1 vs fp1 w1 x1 b1 pu)⟩
section
variable {X : Cx} {fx : List Nat} {x y z : Str} {a b c : Expr} {pos px py pz pt pt2 : Pos} {kt k2 : Nat} {p : Bool} {f : Eva} {i j l : Nat}
theorem s_par2 (hc : X.calm = true) (hN : X.N.Nodup) (i j : Nat) (hi : X.N[i]? = some x) (hj : X.N[j]? = some y) (hij : i ≠ j) (hx : X.env.scope.names.lookup x = some .local) (hy : X.env.scope.names.lookup y = some .local) (ha : PA X [a, b] (EvA X.K p f))
    (hw : swappedStores [.Tuple [.Name x px, .Name y py] kt pt] (.Tuple [a, b] k2 pt2) X.env = pure (some [x, y]))
    (hs : swapsWithSole [.Tuple [.Name x px, .Name y py] kt pt] (.Tuple [a, b] k2 pt2) pos.line X.env = pure false := by rfl) :
    PS X (.Assign [.Tuple [.Name x px, .Name y py] kt pt] (.Tuple [a, b] k2 pt2) pos) (StR X.K fx (parF fx [i, j] f)) := impS (ps_par hc hN hi hj hij hx hy ha hw hs) fun D σ H h => evA_mono (StR.par0_ (p := p) h) fun vs H1 ⟨_, hl, _, q⟩ =>
      match vs, hl, q with
      | [v, w], _, q => ⟨v, w, rfl, q⟩
theorem s_par3 (hc : X.calm = true) (hN : X.N.Nodup) (i j l : Nat) (hi : X.N[i]? = some x) (hj : X.N[j]? = some y) (hl : X.N[l]? = some z) (hij : i ≠ j) (hil : i ≠ l) (hjl : j ≠ l) (hx : X.env.scope.names.lookup x = some .local) (hy : X.env.scope.names.lookup y = some .local) (hz : X.env.scope.names.lookup z = some .local)
    (ha : PA X [a, b, c] (EvA X.K p f))
    (hw : swappedStores [.Tuple [.Name x px, .Name y py, .Name z pz] kt pt] (.Tuple [a, b, c] k2 pt2) X.env = pure (some [x, y, z]))
    (hs : swapsWithSole [.Tuple [.Name x px, .Name y py, .Name z pz] kt pt] (.Tuple [a, b, c] k2 pt2) pos.line X.env = pure false := by rfl) :
    PS X (.Assign [.Tuple [.Name x px, .Name y py, .Name z pz] kt pt] (.Tuple [a, b, c] k2 pt2) pos) (StR X.K fx (parF fx [i, j, l] f)) := impS (ps_par3 hc hN hi hj hl hij hil hjl hx hy hz ha hw hs) fun D σ H h => evA_mono (StR.par0_ (p := p) h) fun vs H1 ⟨_, hl, _, q⟩ =>
      match vs, hl, q with
      | [u, v, w], _, q => ⟨u, v, w, rfl, q⟩
/-- not swapped: the tuple is made -/
theorem s_parT {es tgs : List Expr} (hc : X.calm = true) (is : List Nat) (ha : PA X es (EvA X.K p f)) (hg : PGs X tgs (gNames is)) (hn : (assignEach tgs X.env).length = is.length := by rfl) (hst : (assignEach tgs X.env).findIdx? (·.1) = none := by rfl)
    (hs : swapsWithSole [.Tuple tgs kt pt] (.Tuple es k2 pt2) pos.line X.env = pure false := by rfl) (hw : swappedStores [.Tuple tgs kt pt] (.Tuple es k2 pt2) X.env = pure none := by rfl) (h1 : (assignEach [.Tuple tgs kt pt] X.env).map (·.2) = [assign (.Tuple tgs kt pt) X.env] := by rfl) :
    PS X (.Assign [.Tuple tgs kt pt] (.Tuple es k2 pt2) pos) (StR X.K fx (parF fx is f)) := impS (ps_asg (pe_tup ha) (pg_tup hc hg hn hst) hs hw h1) fun D σ H h => evA_mono (StR.par0_ (p := p) h) fun vs H1 ⟨hz, hl, q, _⟩ =>
      ⟨hz, fun t ht => ⟨t, vs, rfl, SqT.of upd_same, hl, gNames_of hl (q t ht)⟩⟩
end

/-! ### f(k = e, ..), data alone -/
theorem permL_map {α β : Type} (g : α → β) (pm : List Nat) (xs : List α) : permL pm (xs.map g) = (permL pm xs).map g := by
  unfold permL
  induction pm with
  | nil => rfl
  | cons i pm ih =>
    rw [List.filterMap_cons, List.filterMap_cons, List.getElem?_map]
    cases xs[i]? with
    | none => exact ih
    | some x => exact congrArg (g x :: ·) ih
def allDR : List Rs → Option (List PyData)
  | [] => some []
  | .own (.d t) :: rs => (allDR rs).bind fun ts => some (t :: ts)
  | _ => none
def kcF (G : Gf) (pm : List Nat) (f : Eva) : Ev := fun fr => (f fr).bind fun x => (allDR x.1).bind fun ts => (G ((permL pm ts).map O.d)).bind fun y => some (.own y.1, x.2)
theorem allDR_rt {K : PySem.W.Frag} {Z H : Hp} : ∀ {vs : List V} {rs : List Rs} {ts : List PyData} {fp : List Addr}, allDR rs = some ts → Rt K Z H (vs.map some) fp (rs.map Rs.root) → Rps K Z vs ts ∧ fp = []
  | [], [], _, _, h, r => by cases h; cases r; exact ⟨.nil, rfl⟩
  | v :: vs, r0 :: rs, ts, fp, h, r => by
    unfold allDR at h
    split at h
    · rename_i e0
      cases e0
    · rename_i t rs' e0
      cases e0
      cases e : allDR rs with
      | none => rw [e] at h; cases h
      | some us =>
        rw [e] at h
        cases h
        cases r with
        | so q r =>
          cases q with
          | d q =>
            obtain ⟨h1, h2⟩ := allDR_rt e r
            exact ⟨.cons q h1, by rw [h2]; rfl⟩
    · cases h
  | [], r0 :: rs, _, _, _, r => by cases r
  | v :: vs, [], _, _, _, r => by cases r
theorem Rps.perm {K : PySem.W.Frag} {Z : Hp} {vs : List V} {ts : List PyData} (h : Rps K Z vs ts) (pm : List Nat) : Rps K Z (permL pm vs) (permL pm ts) := by
  unfold permL
  induction pm with
  | nil => exact .nil
  | cons i pm ih =>
    rw [List.filterMap_cons, List.filterMap_cons]
    cases e : vs[i]? with
    | none =>
      have : ts[i]? = none := by
        rw [List.getElem?_eq_none_iff] at e ⊢
        rw [← h.length]; exact e
      rw [this]; exact ih
    | some v =>
      obtain ⟨t, h1, h2⟩ := h.get e
      rw [h1]
      exact .cons h2 ih
theorem rps_rt {K : PySem.W.Frag} {Z H : Hp} : ∀ {vs : List V} {ts : List PyData}, Rps K Z vs ts → Rt K Z H (vs.map some) [] ((ts.map O.d).map some)
  | _, _, .nil => .nil
  | _, _, .cons q r => .so (fp := []) (.d q) (rps_rt r)
theorem Rt.forget {K : PySem.W.Frag} {Z H : Hp} {σ : List (Option V)} {fr : List (Option O)} : ∀ {τ : List (Option V)} {θ : List (Option O)} {fp : List Addr}, τ.length = θ.length → Rt K Z H (τ ++ σ) fp (θ ++ fr) → ∃ f1 f2, fp = f1 ++ f2 ∧ Rt K Z H σ f2 fr := fun h r => by
  obtain ⟨f1, f2, e, _, r2⟩ := Rt.split h r
  exact ⟨f1, f2, e, r2⟩
theorem EvA.kc_ {K : PySem.W.Frag} {σ : Sl} {H : Hp} {Q : VK} {p : Bool} {f : Eva} {n m : Nat} {G : Gf} {pm : List Nat} (hn : ∀ os o os', G os = some (o, os') → os.length = n ∧ os'.length = n) (hm : ∀ fr x, f fr = some x → x.1.length = m)
    (h : EvR K false (kcF G pm f) σ H Q) : tCallGK (SpF K n G) pm m (EvA K p f) σ H Q := by
  obtain ⟨Z, fr, fp, r, fr', w, e, k⟩ := h
  unfold kcF at e
  cases ef : f fr with
  | none => rw [ef] at e; cases e
  | some x =>
    obtain ⟨rs, fr1⟩ := x
    rw [ef] at e
    simp only [Option.bind_some] at e
    cases ed : allDR rs with
    | none => rw [ed] at e; cases e
    | some ts =>
      rw [ed] at e
      simp only [Option.bind_some] at e
      cases eg : G ((permL pm ts).map O.d) with
      | none => rw [eg] at e; cases e
      | some y =>
        obtain ⟨o, os'⟩ := y
        rw [eg] at e
        simp only [Option.bind_some, Option.some.injEq, Prod.mk.injEq] at e
        obtain ⟨rfl, rfl⟩ := e
        refine ⟨Z, fr, fp, rs, fr1, w, ef, fun Z1 H1 vs fp1 w1 x1 b1 _ => ?_⟩
        have hl := b1.length
        obtain ⟨f1, f2, e1, r1, r2⟩ := Rt.split (by simp [hl]) w1.rt
        obtain ⟨rp, e0⟩ := allDR_rt ed r1
        subst e0
        have e1 : fp1 = f2 := e1
        subst e1
        have hgl := hn _ _ _ eg
        have wp : Wd K Z1 H1 ((permL pm vs).map some) (((permL pm ts).map O.d).map some) [] := ⟨rps_rt (rp.perm pm), .nil, (fun _ m => nomatch m), w1.zh, (fun _ m => nomatch m)⟩
        refine ⟨by rw [hl]; exact hm _ _ ef, Z1, _, [], o, os', wp, hgl.1, eg, fun Z2 H2 v fp2 w2 x2 => ?_⟩
        -- the slots' roots under the call
        have w0 : Wd K Z1 H1 σ fr1 fp1 := w1.sub (f1 := []) r2 (List.Perm.refl _)
        have w0' : Wd K Z1 H1 (σ ++ []) (fr1 ++ []) fp1 := by rw [List.append_nil, List.append_nil]; exact w0
        have hlσ : σ.length = fr1.length := w0.rt.length
        obtain ⟨ga, gb, e3, w3, glue⟩ := w0'.under hlσ
        have e4 : gb = [] := by
          cases w3.rt; rfl
        subst e4
        -- the value alone
        have w2' : Wd K Z2 H2 ([some v] ++ (permL pm vs).map some) ([some o] ++ os') fp2 := w2
        have hl2 : (permL pm vs).length = os'.length := by have := w2'.rt.length; simpa using this
        obtain ⟨fv, fz, e5, rv, rz⟩ := Rt.split rfl w2'.rt
        have nd2 := List.nodup_append.mp (e5 ▸ w2.nd)
        have wv : Wd K Z2 H2 [some v] [some o] fv := ⟨rv, nd2.1, fun a m => w2.zf a (by rw [e5]; exact List.mem_append_left _ m), w2.zh, fun a m => w2.live a (by rw [e5]; exact List.mem_append_left _ m)⟩
        have xv : Ext Z1 H1 [] Z2 H2 fv := ⟨x2.keep, x2.live, fun a m => x2.foot a (by rw [e5]; exact List.mem_append_left _ m), x2.zz, x2.zn⟩
        obtain ⟨w5, x5⟩ := glue Z2 H2 [some v] [some o] fv wv xv
        obtain ⟨h1, h2, e6, ra, rb⟩ := Rt.split hlσ w5.rt
        have pm5 : (h2 ++ h1).Perm (ga ++ fv) := by rw [e6]; exact List.perm_append_comm
        have w6 : Wd K Z2 H2 ([some v] ++ σ) ([some o] ++ fr1) (h2 ++ h1) := w5.perm (rb.append ra) pm5
        exact k Z2 H2 v (h2 ++ h1) w6 (x1.trans (x5.perm (fun _ => Iff.rfl) fun a m => pm5.mem_iff.mp m)) .own fun z => nomatch z
theorem consF_len {pb : Bool} {fa : Ev} {fb : Eva} {m : Nat} (h : ∀ fr x, fb fr = some x → x.1.length = m) : ∀ fr x, consF pb fa fb fr = some x → x.1.length = m + 1 := fun fr x e => by
  unfold consF at e
  cases ea : fa fr with
  | none => rw [ea] at e; cases e
  | some y =>
    rw [ea] at e
    simp only [Option.bind_some] at e
    split at e
    · cases eb : fb y.2 with
      | none => rw [eb] at e; cases e
      | some z =>
        rw [eb] at e
        simp only [Option.bind_some, Option.some.injEq] at e
        subst e
        rw [List.length_cons, h _ _ eb]
    · cases e
theorem nilF_len : ∀ fr x, nilF fr = some x → x.1.length = 0 := fun fr x e => by cases e; rfl
section
variable {X : Cx} {p q : Bool} {fa : Ev} {f : Eva} {e : Expr} {kws : List Keyword} {nm : Option Str} {kpos : Pos}
theorem impK {t t' : TA} (h : PK X kws t) (k : ∀ σ H Q, t' σ H Q → t σ H Q) : PK X kws t' := ⟨fun pos pins s σ H Q I q => h.run pos pins s σ H Q I (k σ H Q q)⟩
theorem kw_nil : PK X [] (EvA X.K true nilF) := impK pk_nil fun _ _ _ h => h.nil_
theorem kw_cons (ha : PE X e (EvR X.K p fa)) (hr : PK X kws (EvA X.K q f)) : PK X (⟨nm, e, kpos⟩ :: kws) (EvA X.K (p && q) (consF q fa f)) := impK (pk_cons ha hr) fun _ _ _ h => h.cons_
theorem e_callK {k : Nat} {g : Addr} {fd : FuncData} {ps ks : List Str} {n : Nat} {G : Gf} {x : Str} {p0 pos : Pos} {pm : List Nat} (F : FnG X.prog X.w X.K X.mg X.base k g fd ps (SpF X.K n G)) (hn : ∀ os o os', G os = some (o, os') → os.length = n ∧ os'.length = n) (hr : Room k X.A) (hgd : X.A.guards = some []) (hg : Gl X x) (hm : X.mg x = some (.ref g)) (hk : PySem.W.keepIn X.K (.ref g) = true)
    (hb : KwB X.K fd ps ks pm) (hkw : PK X kws (EvA X.K q f)) (hlen : ∀ fr x, f fr = some x → x.1.length = ks.length) (hall : (backToKw pos (keywordEach kws X.env)).all (·.1.isSome) = true := by rfl) (hks : (backToKw pos (keywordEach kws X.env)).filterMap (·.1) = ks := by rfl)
    (hdb : (x == ("__debug__" : Str)) = false := by decide) (hpl : ((backToKw pos (keywordEach kws X.env)).any (·.1.isNone)) = false := by rfl) : PE X (.Call (.Name x p0) [] kws pos) (EvR X.K false (kcF G pm f)) :=
  imp (pe_callGK F hr hgd hg hm hk hb hkw hall hks hdb hpl) fun _ _ _ h => EvA.kc_ hn hlen h
end

/-! ### repr -/
def rReprG (K : PySem.W.Frag) : List V → Hp → VK → Prop := fun xs H Q => ∃ x Z d, xs = [x] ∧ Same Z H ∧ Rp K Z x d ∧ d.canLay0 = true ∧ d.showable = true ∧ d.shown.length ≤ sizeLine ∧ d.depth ≤ 64 ∧ Q (.str d.shown) H
theorem call_repr {X : Cx} (hgd : X.A.guards = some []) (hu : X.A.units + 66 < cLine) : CallR X (.builtin "repr") (rReprG X.K) := by
  intro pins s σ H xs us Q I rx h
  obtain ⟨x, Z, d, rfl, zh, hd, cl, sh, hz, dp, q⟩ := h
  obtain ⟨u, rfl, ru⟩ := rx.one
  cases d with
  | none =>
    cases hd
    cases ru
    exact PySem.P.repr_of_none ⟨.str (PyData.shown .none), H, I.tok _, ⟨_, rfl⟩, q⟩
  | bool b =>
    cases hd
    cases ru
    exact PySem.P.repr_of_bool ⟨.str (PyData.shown (.bool b)), H, I.tok _, ⟨_, rfl⟩, q⟩
  | int i =>
    cases hd
    obtain ⟨t, rfl⟩ := ru
    exact PySem.P.repr_of_int (by simpa [PyData.showable] using sh) ⟨.str (PyData.shown (.int i)), H, I.tok _, ⟨_, rfl⟩, q⟩
  | str z =>
    cases hd
    obtain ⟨t, rfl⟩ := ru
    exact PySem.P.repr_of_str ⟨.str (PyData.shown (.str z)), H, I.tok _, ⟨_, rfl⟩, q⟩ (by simpa [PyData.shown] using hz)
  | list ts =>
    obtain ⟨as, r1⟩ := Rp.reads I zh _ x u hd cl ru
    cases hd
    cases ru
    exact repr_of_reads' r1 sh (fun z => by rw [PyData.hasDict_of_canLay _ cl] at z; cases z) hgd (by omega) (fun _ _ e => e) (fun h' t tk hk => ⟨.str (PyData.shown (.list ts)), H, I.kept (t' := tk) hk, ⟨_, rfl⟩, q⟩) hz
  | tuple ts =>
    obtain ⟨as, r1⟩ := Rp.reads I zh _ x u hd cl ru
    cases hd
    cases ru
    exact repr_of_reads' r1 sh (fun z => by rw [PyData.hasDict_of_canLay _ cl] at z; cases z) hgd (by omega) (fun _ _ e => e) (fun h' t tk hk => ⟨.str (PyData.shown (.tuple ts)), H, I.kept (t' := tk) hk, ⟨_, rfl⟩, q⟩) hz
  | dict kvs => simp [PyData.canLay0] at cl
/-- whether a thing may be shown -/
def mayShow (d : PyData) : Bool := d.canLay0 && d.showable && decide (d.shown.length ≤ sizeLine) && decide (d.depth ≤ 64)
def reprO (a : O) : Option O := if a.pl = true ∧ mayShow a.data = true then some (.d (.str a.data.shown)) else none
theorem k_repr {K : PySem.W.Frag} : OpOk K (rReprG K) (one reprO) := ok1 fun Z H x a o Q zh ha e k => by
  unfold reprO at e
  split at e
  · rename_i hz
    cases e
    obtain ⟨fa, ha⟩ := ha
    have h2 := hz.2
    unfold mayShow at h2
    simp only [Bool.and_eq_true, decide_eq_true_eq] at h2
    exact ⟨x, H, a.data, rfl, fun _ _ e => e, ha.read hz.1 zh, h2.1.1.1, h2.1.1.2, h2.1.2, h2.2, k _ _ _ _ (.str zh)⟩
  · cases e
end Bv
set_option Elab.async false
set_option linter.all false
set_option maxRecDepth 100000
set_option maxHeartbeats 2000000
/-! Bv11: sets of ints and texts, by their members. -/
namespace Bv
open PySem PySem.Spec PyProof.Rows L2

/-! ### members -/
def keyE (e : Int × Value) : Key := match e.2 with
  | .int i _ => .inl i
  | .str x _ => .inr x
  | _ => .inl 0
def memK (ks : List Key) (k : Key) : Bool := ks.any fun j => decide (j = k)
theorem memK_iff {ks : List Key} {k : Key} : memK ks k = true ↔ k ∈ ks := by
  unfold memK
  rw [List.any_eq_true]
  exact ⟨fun ⟨j, m, e⟩ => by rw [← of_decide_eq_true e]; exact m, fun m => ⟨k, m, decide_eq_true rfl⟩⟩
def addU (ks : List Key) (k : Key) : List Key := if memK ks k = true then ks else ks ++ [k]
theorem addU_pos {ks : List Key} {k : Key} (h : k ∈ ks) : addU ks k = ks := if_pos (memK_iff.mpr h)
theorem addU_neg {ks : List Key} {k : Key} (h : k ∉ ks) : addU ks k = ks ++ [k] := if_neg fun z => h (memK_iff.mp z)
theorem addU_nodup {ks : List Key} {k : Key} (h : ks.Nodup) : (addU ks k).Nodup := by
  unfold addU
  split
  · exact h
  · rename_i hk
    exact List.nodup_append.mpr ⟨h, by simp, fun a m b m2 e => by
      have : b = k := by simpa using m2
      subst this; subst e; exact hk (memK_iff.mpr m)⟩
section
variable (P : Program) (w : World)
structure Entr (es : Array (Int × Value)) (ks : List Key) : Prop where
  good : ∀ e ∈ es.toList, ∃ k, (mixKind P w).is k e.2 = true ∧ e.1 = (mixKind P w).hash k
  perm : (es.toList.map keyE).Perm ks
  nd : ks.Nodup
def SetG (h : Heap) (a : Addr) (ks : List Key) : Prop :=
  ∃ o es ep t, h.get? a = some o ∧ o.ExactSet ∧ o.data = .set es ep t ∧ Entr P w es ks ∧ es.size < scanBound ∧ t.fits es.size = true ∧ Ris t.place.toList ∧ (w.params.followText "set-order" = true ∨ t.led = true)
end
section
variable {P : Program} {w : World} {A : Around} {E : Value → Shared → Prop} {s : Shared} {a : Addr} {ks : List Key}
theorem keyE_of {e : Int × Value} {k : Key} (h : (mixKind P w).is k e.2 = true) : keyE e = k := by
  obtain ⟨e1, e2⟩ := e
  rcases keyIs_shape (show keyIs k e2 = true from h) with ⟨i, t, rfl, rfl⟩ | ⟨x, t, rfl, rfl⟩ <;> rfl
theorem scan_of {k : Key} {v : Value} (h : (mixKind P w).is k v = true) : v.scannable = true := by
  rcases keyIs_shape (show keyIs k v = true from h) with ⟨i, t, rfl, rfl⟩ | ⟨x, t, rfl, rfl⟩ <;> rfl
theorem Entr.elems {es : Array (Int × Value)} (n : Entr P w es ks) : ElemsOf (mixKind P w) es.toList := fun e he => by
  obtain ⟨k, h1, h2⟩ := n.good e he
  exact ⟨⟨k, h1, h2⟩, scan_of h1⟩
theorem Entr.has {es : Array (Int × Value)} (n : Entr P w es ks) (k : Key) : k ∈ ks ↔ ∃ e ∈ es.toList, (mixKind P w).is k e.2 = true := by
  rw [← n.perm.mem_iff, List.mem_map]
  constructor
  · rintro ⟨e, he, q⟩
    obtain ⟨k2, h1, _⟩ := n.good e he
    rw [keyE_of h1] at q
    subst q
    exact ⟨e, he, h1⟩
  · rintro ⟨e, he, q⟩
    exact ⟨e, he, keyE_of q⟩
theorem Entr.size {es : Array (Int × Value)} (n : Entr P w es ks) : es.size = ks.length := by
  rw [← n.perm.length_eq, List.length_map, Array.length_toList]
theorem Entr.relaid {es es2 : Array (Int × Value)} (n : Entr P w es ks) (pm : es2.toList.Perm es.toList) : Entr P w es2 ks := ⟨fun e he => n.good e (pm.mem_iff.mp he), (pm.map keyE).trans n.perm, n.nd⟩
theorem Entr.laid {es es2 : Array (Int × Value)} (n : Entr P w es ks) {k : Key} {v : Value} (hk : (mixKind P w).is k v = true) (hn : k ∉ ks) (pm : es2.toList.Perm (es.toList ++ [((mixKind P w).hash k, v)])) : Entr P w es2 (addU ks k) := by
  refine ⟨fun e he => ?_, ?_, addU_nodup n.nd⟩
  · rcases List.mem_append.mp (pm.mem_iff.mp he) with m | m
    · exact n.good e m
    · have e2 : e = ((mixKind P w).hash k, v) := by simpa using m
      subst e2
      exact ⟨k, hk, rfl⟩
  · rw [addU_neg hn]
    refine (pm.map keyE).trans ?_
    rw [List.map_append]
    refine n.perm.append ?_
    show List.Perm [keyE ((mixKind P w).hash k, v)] [k]
    rw [keyE_of (P := P) (w := w) (e := ((mixKind P w).hash k, v)) hk]
theorem SetG.at {h h' : Heap} (R : SetG P w h a ks) (k : ∀ o, h.get? a = some o → h'.get? a = some o) : SetG P w h' a ks := by
  obtain ⟨o, es, ep, t, ho, r⟩ := R
  exact ⟨o, es, ep, t, k o ho, r⟩
theorem setG_new {H : Hp} {h : Heap} (R : SetG P w h a ks) : ObjOk P w H h a (.ext fun h => SetG P w h a ks) := by
  have ⟨o, _, _, _, ho, _⟩ := R
  exact ⟨R, ⟨o, ho⟩, fun h1 h2 p k => SetG.at p k⟩
theorem setG_fresh {h : Heap} (w : World) : SetG P w (h.push { cls := .type "set", dict := none, data := .set #[] 0 (.fresh 0 0 (!w.params.followText "set-order")) }) h.objs.size [] :=
  ⟨_, #[], 0, _, Heap.get?_push_size _ rfl, ⟨rfl, rfl, rfl⟩, rfl, ⟨fun e he => by simp at he, .refl _, .nil⟩, by decide, by rfl, List.Pairwise.nil, by
    show _ ∨ (!w.params.followText "set-order") = true
    cases w.params.followText "set-order"
    · exact .inr rfl
    · exact .inl rfl⟩
/-- the end of an add: the table is stored, and laid anew where it is too full -/
theorem setG_tail {g : Bool → Sem Unit} (hg : ∀ (b : Bool) (s₁ : Shared) (Q' : Unit → Shared → Prop), Q' () s₁ → wpAny (model P w) A (g b) Q' E s₁) {o : Obj} {es : Array (Int × Value)} {ep : Nat} {t : SetTable} (ho : s.heap.get? a = some o) (hex : o.ExactSet) (hd : o.data = .set es ep t)
    {es1 : Array (Int × Value)} {t2 : SetTable} (n1 : Entr P w es1 ks) (hb1 : es1.size < scanBound) (hf2 : t2.fits es1.size = true) (hr : Ris t2.place.toList) (hl : w.params.followText "set-order" = true ∨ t2.led = true) {wasDummy : Bool} {R : Option Bool → Shared → Prop}
    (hR : ∀ h', Heap.SameBut a s.heap h' → SetG P w h' a ks → R (some true) { s with heap := h' }) :
    wpAny (model P w) A (do
        storeSet a es1 t2
        if (!wasDummy && t2.tooFull) = true then do
            g (relayAll t2 es1 (SetTable.grown es1.size)).2.2
            storeSet a (relayAll t2 es1 (SetTable.grown es1.size)).1 (relayAll t2 es1 (SetTable.grown es1.size)).2.1
            pure (some true)
          else pure (some true)) R E s := by
  refine wpAny_bind (wpAny_storeSet_of ho hd ?_ (fits_of_scanBound hb1))
  have ho1 := store_at (es' := es1) (t' := t2) ho hd
  have sb1 := Heap.SameBut.update s.heap a (Obj.putSet es1 t2)
  split
  · have pm := relayAll_perm t2 es1 (SetTable.grown es1.size)
    have hf3 := relayAll_fits t2 es1 (SetTable.grown es1.size)
    have hr3 := relayAll_ris t2 es1 (SetTable.grown es1.size)
    have hl3 := relayAll_led t2 es1 (SetTable.grown es1.size)
    generalize relayAll t2 es1 (SetTable.grown es1.size) = Z at pm hf3 hr3 hl3 ⊢
    obtain ⟨es2, t3, gave⟩ := Z
    dsimp only at pm hf3 hr3 hl3 ⊢
    have hb2 : es2.size < scanBound := by rw [(n1.relaid pm).size, ← n1.size]; exact hb1
    refine wpAny_bind (hg _ _ _ (wpAny_bind (wpAny_storeSet_of ho1 rfl ?_ (fits_of_scanBound hb2))))
    have ho2 := store_at (es' := es2) (t' := t3) ho1 rfl
    exact wpAny_pure (hR _ (sb1.trans (Heap.SameBut.update _ a _)) ⟨_, es2, _, t3, ho2, hex, rfl, n1.relaid pm, hb2, hf3, hr3, hl.imp id fun z => by rw [hl3]; exact z⟩)
  · exact wpAny_pure (hR _ sb1 ⟨_, es1, _, t2, ho1, hex, rfl, n1, hb1, hf2, hr, hl⟩)
theorem setG_add_hashed {k : Key} {v : Value} {Q : Bool → Shared → Prop} (R : SetG P w s.heap a ks) (hk : (mixKind P w).is k v = true) (room : ks.length + 1 < scanBound)
    (hQ : ∀ b h', Heap.SameBut a s.heap h' → SetG P w h' a (addU ks k) → Q b { s with heap := h' }) : wpAny (model P w) A (setAddHashed a v ((mixKind P w).hash k)) Q E s := by
  obtain ⟨o, es, ep, t, ho, hex, hd, n, hb, hf, hr, hl⟩ := R
  have hsc := scan_of hk
  have hel := n.elems
  unfold setAddHashed setAddHashedIn
  refine wpAny_holding (wpAny_bind (wpAny_setState_of ho hd hf ?_))
  dsimp only
  rw [byScan_of hsc hb hel]
  simp only [↓reduceIte]
  unfold setAddByScan
  refine wpAny_bind ?_
  refine wpAny_bind (wpAny_rule (wpAny_bind (wpAny_setScan_of hk ho hd hf hel ?_)))
  cases hfi : List.findIdx? (fun e => (mixKind P w).is k e.2) es.toList with
  | some j =>
    obtain ⟨hj, pj, _⟩ := List.findIdx?_eq_some_iff_getElem.mp hfi
    have hin : k ∈ ks := (n.has k).mpr ⟨es.toList[j], List.getElem_mem hj, pj⟩
    have eu : addU ks k = ks := addU_pos hin
    refine wpAny_pure (wpAny_pure (hQ _ s.heap (Heap.SameBut.refl a s.heap) ?_))
    rw [eu]
    exact ⟨o, es, ep, t, ho, hex, hd, n, hb, hf, hr, hl⟩
  | none =>
    have hno : k ∉ ks := fun z => by
      obtain ⟨e, he, q⟩ := (n.has k).mp z
      rw [List.findIdx?_eq_none_iff.mp hfi e he] at q
      cases q
    dsimp only
    have hgw : ∀ (b : Bool) {s₁ : Shared} {Q' : Unit → Shared → Prop}, Q' () s₁ → wpAny (model P w) A (match b with | true => rule "set.scan.the-table-gave-way" | false => pure ()) Q' E s₁ :=
      fun b s₁ Q' q => by cases b <;> first | exact wpAny_pure q | exact wpAny_rule q
    have pm := layNew_perm t es ((mixKind P w).hash k) v
    have hf1 := layNew_fits t es ((mixKind P w).hash k) v
    have hr1 := layNew_ris t es ((mixKind P w).hash k) v hr
    have hl1 := layNew_led t es ((mixKind P w).hash k) v
    generalize layNew t es ((mixKind P w).hash k) v = Z at pm hf1 hr1 hl1 ⊢
    obtain ⟨es1, t1, wasDummy, gave⟩ := Z
    dsimp only at pm hf1 hr1 hl1 ⊢
    rw [Array.toList_push] at pm
    have n1 := n.laid hk hno pm
    have hb1 : es1.size < scanBound := by
      rw [n1.size]
      rw [addU_neg hno, List.length_append, List.length_singleton]
      exact room
    have hled : w.params.followText "set-order" = true ∨ t1.led = true := hl.imp id fun z => by rw [hl1]; exact z
    refine wpAny_bind (hgw _ ?_)
    split
    · refine wpAny_bind ?_
      rw [hashByValue_scannable 8 hsc]
      refine wpAny_pure ?_
      refine setG_tail ?_ ho hex hd n1 hb1 ?_ ?_ ?_ ?_
      · intro b s₁ Q' q; cases b <;> first | exact wpAny_pure q | exact wpAny_rule q
      · first | (split <;> first | exact hf1 | exact SetTable.fits_plain_off hf1) | exact hf1
      · first | (split <;> exact hr1) | exact hr1
      · first | (split <;> exact hled) | exact hled
      · intro h' sb r; dsimp only; exact wpAny_pure (hQ _ h' sb r)
    · refine wpAny_bind (wpAny_pure ?_)
      simp only [↓reduceIte]
      refine setG_tail ?_ ho hex hd n1 hb1 hf1 hr1 hled ?_
      · intro b s₁ Q' q; cases b <;> first | exact wpAny_pure q | exact wpAny_rule q
      · intro h' sb r; dsimp only; exact wpAny_pure (hQ _ h' sb r)
/-- found.add(v) -/
theorem setG_add {k : Key} {v : Value} {Q : Value → Shared → Prop} (R : SetG P w s.heap a ks) (hk : (mixKind P w).is k v = true) (room : ks.length + 1 < scanBound)
    (hQ : ∀ h', Heap.SameBut a s.heap h' → SetG P w h' a (addU ks k) → Q .none { s with heap := h', toks := s.toks + 1 }) : wpAny (model P w) A (call (.builtin "set.add") [.ref a, v]) Q E s := by
  have hT : s.TypeIs (.ref a) "set" := by
    obtain ⟨o, _, _, _, ho, hex, _⟩ := R
    exact ⟨o, ho, hex.1⟩
  refine wpAny_call_entry F.slot_set_add hT F.entry_set_add ?_ (F.args_set_add_2 _ _)
  unfold Builtin.«set.add» Builtin.Frozenset.oneOther
  simp only [List.isEmpty_nil, bind_assoc]
  unfold Builtin.Frozenset.addrOf setAdd
  refine wpAny_bind (wpAny_pure ?_)
  try dsimp only
  refine wpAny_bind (wpAny_pure ?_)
  try dsimp only
  refine wpAny_bind (wpAny_holding (wpAny_bind ((mixKind P w).pyHash hk ?_)))
  refine setG_add_hashed (s := { s with toks := s.toks + 1 }) R hk room fun b h' sb r => ?_
  show wpAny _ _ (ret Value.none) _ _ _
  exact wpAny_pure ⟨_, rfl, hQ h' sb r⟩
end
end Bv
set_option Elab.async false
set_option linter.all false
set_option maxRecDepth 100000
set_option maxHeartbeats 3200000
/-! Bv12: set(list), sorted(set), len(set). -/
namespace Bv
open PySem PySem.Spec PyProof.Rows L2

def keysU (ks : List Key) : List Key := ks.foldl addU []
theorem keysU_snoc (ks : List Key) (k : Key) : keysU (ks ++ [k]) = addU (keysU ks) k := by
  unfold keysU
  rw [List.foldl_append]
  rfl
theorem addU_len (ks : List Key) (k : Key) : (addU ks k).length ≤ ks.length + 1 := by
  unfold addU
  split
  · omega
  · simp
theorem foldU_len : ∀ (ks acc : List Key), (ks.foldl addU acc).length ≤ acc.length + ks.length
  | [], acc => by simp
  | k :: ks, acc => by
    rw [List.foldl_cons, List.length_cons]
    have h1 := foldU_len ks (addU acc k)
    have h2 := addU_len acc k
    omega
theorem keysU_len (ks : List Key) : (keysU ks).length ≤ ks.length := by
  have := foldU_len ks []
  simpa [keysU] using this
section
variable {P : Program} {w : World} {A : Around} {E : Value → Shared → Prop} {s : Shared}
theorem set_upd {I : Addr} {fp wr : List Addr} {G : Array GenState → Array GenState → Prop} {n : Nat} {Pv : Nat → Value → Prop} {St : Nat → Shared → Prop} {R : Result → Shared → Prop} (W : WalksS P w A.in1 I fp wr G n Pv St) (S : Addr) (hSf : S ∉ fp) (ks : List Key) (hn : n = ks.length) (hfew : ks.length + 1 < scanBound)
    (hval : ∀ i v, Pv i v → ∃ k, ks[i]? = some k ∧ (mixKind P w).is k v = true) :
    ∀ (m i : Nat) (s : Shared), n - i = m → i ≤ n → St i s → SetG P w s.heap S (keysU (ks.take i)) → (∀ s', Moved (S :: wr) G s s' → SetG P w s'.heap S (keysU ks) → R (.ok (.ret .none)) s') →
      codeAny (model P w) A (.builtin "set.update.loop" ⟨[.ref S, .ref I], []⟩) R s := by
  have hSw : S ∉ wr := fun h => hSf (W.sub _ h)
  have hsub : ∀ b ∈ wr, b ∈ S :: wr := fun b hb => List.mem_cons_of_mem _ hb
  intro m
  induction m with
  | zero =>
    intro i s hm hi hst hS hR
    have hin : i = n := by omega
    subst hin
    rw [hn, List.take_length] at hS
    refine codeAny_builtin F.entry_set_update_loop ?_
    rw [Around.under_plainId F.plain_set_update_loop _]
    show wpAny _ A.in1 (pyNext (.ref I) >>= _) _ _ s
    refine wpAny_bind (W.done s _ _ hst fun s' hmv => ?_)
    exact wpAny_pure (hR s' (hmv.mono hsub) (hS.at fun o e => hmv.heap S o hSw e))
  | succ m ih =>
    intro i s hm hi hst hS hR
    have hlt : i < n := by omega
    refine codeAny_builtin F.entry_set_update_loop ?_
    rw [Around.under_plainId F.plain_set_update_loop _]
    show wpAny _ A.in1 (pyNext (.ref I) >>= _) _ _ s
    refine wpAny_bind (W.item i s _ _ hlt hst fun v s' hP hst' hmv => ?_)
    obtain ⟨k, hk, hv⟩ := hval i v hP
    have hS' : SetG P w s'.heap S (keysU (ks.take i)) := hS.at fun o e => hmv.heap S o hSw e
    show wpAny _ A.in1 (holding [v] (setAdd S v) >>= _) _ _ s'
    refine wpAny_bind (wpAny_holding ?_)
    unfold setAdd
    refine wpAny_holding (wpAny_bind ((mixKind P w).pyHash hv ?_))
    have hl : (keysU (ks.take i)).length + 1 < scanBound := by
      have h1 := keysU_len (ks.take i)
      have h2 : (ks.take i).length ≤ ks.length := by rw [List.length_take]; omega
      omega
    refine setG_add_hashed (s := { s' with toks := s'.toks + 1 }) hS' hv hl fun b h' sb r => ?_
    have e1 : addU (keysU (ks.take i)) k = keysU (ks.take (i + 1)) := by
      rw [← keysU_snoc, List.take_add_one, hk]
      rfl
    rw [e1] at r
    refine wpAny_pure ⟨plainId_quiet F.plain_set_update_loop _, ih (i + 1) _ (by omega) hlt (W.frame _ s' _ _ hst' (Nat.le_succ _) fun b hb o e => ?_) r fun s'' hmv2 r2 => ?_⟩
    · rw [sb.2 b (fun h : b = S => hSf (by rw [← h]; exact hb))]; exact e
    · refine hR s'' (Moved.trans W.gtrans ((hmv.mono hsub).then_heap (Nat.le_succ _) fun b o hb e => ?_) hmv2) r2
      rw [sb.2 b (fun h : b = S => hb (by rw [h]; exact List.mem_cons_self))]; exact e
/-- set(xs), xs a list -/
theorem setG_call {l : Addr} {items : Array Value} (ks : List Key) {Q : Value → Shared → Prop} (hh : A.handled = none) (hl : s.heap.IsList l items) (hit : ∀ (i : Nat) (v : Value), items[i]? = some v → ∃ k, ks[i]? = some k ∧ (mixKind P w).is k v = true) (hisz : items.size = ks.length) (hfew : ks.length + 1 < scanBound)
    (h : ∀ (h' : Heap) (tk : Nat), SetG P w h' s.heap.objs.size (keysU ks) → (∀ b o, s.heap.get? b = some o → h'.get? b = some o) → Q (.ref s.heap.objs.size) { s with heap := h', toks := tk }) :
    wpAny (model P w) A (call (.type "set") [.ref l]) Q E s := by
  obtain ⟨c, tl, hmro⟩ := F.called_set.mro
  have hmade := F.called_set.made
  have hsub := F.called_set.sub
  refine wpAny_call (codeAny_of_tree ?_)
  show wpAny _ _ (callAny (.type "set") _) _ _ _
  refine wpAny_pure ⟨Code.quiet_builtin _ (by decide +kernel), codeAny_builtin F.entry_type_call ?_⟩
  rw [Around.under_plain (weight_type_call_type "set" [.ref l] []) rfl]
  have h1 := F.called_set.notType
  have h2 := F.called_set.canCreate
  have hct := F.typeCall_set_1 (.ref l)
  repeat (any_goals (first | assumption | wp_step))
  refine codeAny_mono (code_set_led1 (.ref l) (E := E) (Q₁ := fun obj s₁ => obj = .ref s.heap.objs.size ∧ s₁ = { s with heap := s.heap.push { cls := .type "set", dict := none, data := .set #[] 0 (.fresh 0 0 (!w.params.followText "set-order")) } }) ⟨rfl, rfl⟩) fun r s₁ hr => ?_
  cases r with
  | error e => exact hr
  | ok fl =>
    cases fl with
    | ret obj =>
      obtain ⟨rfl, rfl⟩ := hr
      have hS0 : SetG P w (s.heap.push { cls := .type "set", dict := none, data := .set #[] 0 (.fresh 0 0 (!w.params.followText "set-order")) }) s.heap.objs.size [] := setG_fresh w
      have hS : (s.heap.push { cls := .type "set", dict := none, data := .set #[] 0 (.fresh 0 0 (!w.params.followText "set-order")) }).get? s.heap.objs.size = some { cls := .type "set", dict := none, data := .set #[] 0 (.fresh 0 0 (!w.params.followText "set-order")) } := Heap.get?_push_size _ rfl
      have old : ∀ b o, s.heap.get? b = some o → (s.heap.push { cls := .type "set", dict := none, data := .set #[] 0 (.fresh 0 0 (!w.params.followText "set-order")) }).get? b = some o := fun b o e => Heap.get?_push_of_some _ e
      have hz1 : (s.heap.push { cls := .type "set", dict := none, data := .set #[] 0 (.fresh 0 0 (!w.params.followText "set-order")) }).objs.size = s.heap.objs.size + 1 := Heap.size_push ..
      generalize s.heap.push { cls := .type "set", dict := none, data := .set #[] 0 (.fresh 0 0 (!w.params.followText "set-order")) } = hp at hS0 hS old hz1 ⊢
      have hT : Shared.TypeIs { s with heap := hp } (.ref s.heap.objs.size) "set" := ⟨_, hS, rfl⟩
      have hli := F.called_set.init.lookup
      have hbi := F.called_set.init.bind (.ref s.heap.objs.size)
      repeat (any_goals (first | assumption | wp_step))
      refine codeAny_mono (codeAny_call_builtin (R := wants (fun r s₂ => r = .none ∧ ∃ h' tk, s₂ = { s with heap := h', toks := tk } ∧ SetG P w h' s.heap.objs.size (keysU ks) ∧ (∀ b o, s.heap.get? b = some o → h'.get? b = some o)) E) F.called_set.init.plain F.entry_set_init (check_set_init_1 hT ?_)) fun r₂ s₂ hr₂ => ?_
      · obtain ⟨ol, hol, hcl, nl, hdl⟩ := hl
        obtain ⟨ocls, odict, odata, oslots⟩ := ol
        simp only at hcl hdl
        subst hcl; subst hdl
        have hol' := old _ _ hol
        have hsls := F.sub_list_set
        have hslf := F.sub_list_frozenset
        have hne : (Value.type "list" == Value.type "dict") = false := by decide
        have hl1 : hp.IsList l items := ⟨_, hol', rfl, nl, rfl⟩
        unfold Builtin.«set.__init__» noKeywords Builtin.Frozenset.updateFrom
        generalize hPI : pyIter = PI
        wp_walk
        subst hPI
        refine wpAny_pyIter_list hl1 (wpAny_bind (wpAny_runValue ?_))
        have hlS : l < s.heap.objs.size := Heap.lt_size hol
        have hh3 : A.in1.in1.in1.handled = none := by simp [hh]
        have hneI : l ≠ hp.objs.size := by rw [hz1]; exact Nat.ne_of_lt (Nat.lt_succ_of_lt hlS)
        have hSf : s.heap.objs.size ∉ [hp.objs.size, l] := by
          rw [hz1]; simp only [List.mem_cons, List.mem_singleton, List.not_mem_nil, or_false, not_or]
          exact ⟨Nat.ne_of_lt (Nat.lt_succ_self _), Nat.ne_of_gt hlS⟩
        refine set_upd ((Walks.list hh3 _ l hneI items).toS) s.heap.objs.size hSf ks hisz hfew hit (items.size - 0) 0 _ (by omega) (Nat.zero_le _)
          ⟨⟨_, Heap.get?_push_size _ rfl, rfl, rfl⟩, (hl1.push _)⟩ (hS0.at fun o e => Heap.get?_push_of_some _ e) fun s' hm r => ?_
        obtain ⟨h', g2, d', tk', os'⟩ := s'
        have eg : g2 = s.gens := hm.gens
        have ed : d' = s.drawn := hm.drawn
        have eo : os' = s.os := hm.os
        subst eg; subst ed; subst eo
        show wpAny _ _ _ _ _ _
        refine wpAny_pure ?_
        show wpAny _ _ (ret Value.none) _ _ _
        refine wpAny_pure ⟨rfl, h', tk', rfl, r, fun b o e => ?_⟩
        have hb : b < s.heap.objs.size := Heap.lt_size e
        exact hm.heap b o (by rw [hz1]; simp only [List.mem_cons, List.mem_singleton, List.not_mem_nil, or_false, not_or]; exact ⟨Nat.ne_of_lt hb, Nat.ne_of_lt (Nat.lt_succ_of_lt hb)⟩) (Heap.get?_push_of_some _ (old _ _ e))
      · cases r₂ with
        | error e => exact hr₂
        | ok fl₂ =>
          cases fl₂ with
          | ret r =>
            obtain ⟨rfl, h', tk, rfl, hS', hk'⟩ := hr₂
            repeat (any_goals (first | assumption | wp_step))
            exact h _ _ hS' hk'
          | _ => exact hr₂.elim
    | _ => exact hr.elim
/-- sorted(found), texts alone -/
def strK : Key → Option Str
  | .inr x => some x
  | _ => none
def leS (x y : Str) : Bool := decide (x.cps.toList ≤ y.cps.toList)
def sortS (xs : List Str) : List Str := xs.mergeSort leS
theorem leS_trans (a b c : Str) (h1 : leS a b = true) (h2 : leS b c = true) : leS a c = true := decide_eq_true (List.le_trans (of_decide_eq_true h1) (of_decide_eq_true h2))
theorem leS_total (a b : Str) : (leS a b || leS b a) = true := by
  rcases List.le_total a.cps.toList b.cps.toList with h | h
  · rw [Bool.or_eq_true]; exact .inl (decide_eq_true h)
  · rw [Bool.or_eq_true]; exact .inr (decide_eq_true h)
theorem leS_anti (a b : Str) (h1 : leS a b = true) (h2 : leS b a = true) : a = b := by
  have h := List.le_antisymm (of_decide_eq_true h1) (of_decide_eq_true h2)
  obtain ⟨x⟩ := a
  obtain ⟨y⟩ := b
  have h : x = y := Array.toList_inj.mp h
  rw [h]
theorem sortS_perm {xs ys : List Str} (h : xs.Perm ys) : sortS xs = sortS ys :=
  List.Perm.eq_of_pairwise (fun a b _ _ h1 h2 => leS_anti a b h1 h2) (List.pairwise_mergeSort leS_trans leS_total xs) (List.pairwise_mergeSort leS_trans leS_total ys) (((List.mergeSort_perm xs leS).trans h).trans (List.mergeSort_perm ys leS).symm)
theorem setG_sorted {a : Addr} {xs : List Str} {Q : Value → Shared → Prop} (R : SetG P w s.heap a (xs.map Sum.inr)) (hh : A.handled = none) (hu : A.units + 4 < cLine)
    (hQ : ∀ s' p (out : List Value) (c : Nat), (∀ b o, s.heap.get? b = some o → s'.heap.get? b = some o) → s'.gens = s.gens → s'.os = s.os → s.heap.objs.size ≤ p →
      s'.heap.get? p = some (seqObj "list" out.toArray c) → Vals ((sortS xs).map V.str) out → Q (.ref p) s') :
    wpAny (model P w) A (call (.builtin "sorted") [.ref a]) Q E s := by
  obtain ⟨o, es, ep, t, ho, hex, hd, n, hb, hf, hr, hl⟩ := R
  refine Calls.call_function_entry kind_sorted plain_sorted entry_sorted (args_sorted1 _) ?_
  unfold Builtin.«sorted»
  refine wpAny_bind (m := checkCount "sorted" 1 1 _) (wpAny_pure ?_)
  refine wpAny_bind (collect_set (A := A.in1) hh ⟨o, ho, hex.1, hd⟩ hf hb hr hl fun s1 vs k1 hz g1 o1 pm => ?_)
  -- the texts, in the order they were met
  have each : ∀ (l : List Value), (∀ v ∈ l, ∃ x t, v = Value.str x t) → ∃ bs : List Str, PySem.W.EachIs (fun v x => ∃ t, v = Value.str x t) l bs := by
    intro l
    induction l with
    | nil => intro _; exact ⟨[], .nil⟩
    | cons v l ih =>
      intro hv
      obtain ⟨x, t, e⟩ := hv v List.mem_cons_self
      obtain ⟨bs, r⟩ := ih fun u m => hv u (List.mem_cons_of_mem _ m)
      exact ⟨x :: bs, .cons ⟨t, e⟩ r⟩
  have good : ∀ e ∈ es.toList, ∃ x t, e.2 = Value.str x t := fun e he => by
    obtain ⟨k, h1, _⟩ := n.good e he
    have hm : k ∈ xs.map Sum.inr := (n.has k).mpr ⟨e, he, h1⟩
    obtain ⟨x, _, rfl⟩ := List.mem_map.mp hm
    rcases keyIs_shape (show keyIs (Sum.inr x) e.2 = true from h1) with ⟨i, t, e1, _⟩ | ⟨y, t, _, e2⟩
    · cases e1
    · exact ⟨y, t, e2⟩
  obtain ⟨bs, eb⟩ := each vs fun v hv => by
    obtain ⟨e, he, q⟩ := List.mem_map.mp (pm.mem_iff.mp hv)
    obtain ⟨x, t, q2⟩ := good e he
    exact ⟨x, t, by rw [← q, q2]⟩
  have valK : ∀ {l : List Value} {bs : List Str}, PySem.W.EachIs (fun v x => ∃ t, v = Value.str x t) l bs → l.map (fun v => keyE (0, v)) = bs.map Sum.inr := by
    intro l bs r
    induction r with
    | nil => rfl
    | cons h _ ih =>
      obtain ⟨t, rfl⟩ := h
      rw [List.map_cons, List.map_cons, ih]
      rfl
  have pb : (bs.map Sum.inr : List Key).Perm (xs.map Sum.inr) := by
    rw [← valK eb]
    have q := pm.map (fun v => keyE (0, v))
    rw [List.map_map] at q
    exact q.trans n.perm
  have pbx : bs.Perm xs := by
    have q := pb.filterMap strK
    have e : ∀ l : List Str, (l.map (Sum.inr : Str → Key)).filterMap strK = l := fun l => by
      induction l with
      | nil => rfl
      | cons x l ih =>
        show (x :: (l.map (Sum.inr : Str → Key)).filterMap strK) = _
        rw [ih]
    rw [e, e] at q
    exact q
  have hvl : vs.length < scanBound := by rw [pm.length_eq, List.length_map, Array.length_toList]; exact hb
  have hbl : bs.length = vs.length := eb.length.symm
  refine wpAny_bind (wpAny_newList ?_ (fits_of_scanBound hvl))
  have hoL : (s1.heap.push (seqObj "list" vs.toArray 0)).get? s1.heap.objs.size = some (seqObj "list" vs.toArray 0) := Heap.get?_push_size _ rfl
  refine wpAny_bind (wpAny_holding (PySem.W.list_sort_data (s := { s1 with heap := s1.heap.push (seqObj "list" vs.toArray 0) }) (enc := fun x : Str => PyData.str x) (R := fun v x => ∃ t, v = Value.str x t) hoL eb (eb.mono fun v x ⟨t, e⟩ => by subst e; exact ⟨[], Reads.str x t, by simp⟩)
    (PySem.W.AllAlike.of fun b b' => by simp [PySem.W.alike]) (PySem.W.Sortable.others fun b => ⟨nofun, fun xs => nofun⟩) (by rw [hbl]; exact fits_of_scanBound hvl) (fun b _ => by show A.in1.units + 1 + 0 < cLine; have : A.in1.units = A.units + 1 := rfl; omega) fun out h1 h2 => ?_))
  obtain ⟨c, hc⟩ := sortedHeap_at (vs := vs) (out := out.toArray) hoL
  refine wpAny_pure ⟨_, rfl, hQ _ s1.heap.objs.size out c (fun b u e => ?_) g1 o1 hz hc ?_⟩
  · have q := k1 b u e
    have hlt := Heap.lt_size q
    show (sortedHeap (s1.heap.push (seqObj "list" vs.toArray 0)) s1.heap.objs.size vs out.toArray).get? b = some u
    rw [sortedHeap_old (Nat.ne_of_lt hlt) (by rw [size_push']; exact Nat.lt_succ_of_lt hlt)]
    exact Heap.get?_push_of_some _ q
  · have es : bs.mergeSort (PySem.W.dataLe false fun x : Str => PyData.str x) = sortS xs := by
      rw [PySem.W.dataLe_str fun x => x]
      exact sortS_perm pbx
    rw [es] at h2
    have conv : ∀ {l : List Value} {bs : List Str}, PySem.W.EachIs (fun v x => ∃ t, v = Value.str x t) l bs → Vals (bs.map V.str) l := by
      intro l bs r
      induction r with
      | nil => exact .nil
      | cons h _ ih =>
        obtain ⟨t, rfl⟩ := h
        exact .cons ⟨t, rfl⟩ ih
    exact conv h2
end
end Bv
set_option Elab.async false
set_option linter.all false
set_option maxRecDepth 100000
set_option maxHeartbeats 2000000
/-! Bv13: sets made and used within one expression. -/
namespace Bv
open PySem PySem.Spec PyProof.Rows L2

def SetHO (P : Program) (w : World) (a : Addr) (ks : List Key) : HO := .ext fun h => SetG P w h a ks
section
variable {X : Cx}
theorem setHO_get {pins : List (Addr × Obj)} {σ : Sl} {H : Hp} {s : Shared} {a : Addr} {ks : List Key} (I : Inv X pins σ H s) (ha : H a = some (SetHO X.prog X.w a ks)) : SetG X.prog X.w s.heap a ks := (I.hok a _ ha).1
def rSetOfK (K : PySem.W.Frag) (P : Program) (w : World) : List V → Hp → VK → Prop := fun xs H Q => ∃ (l : Addr) (ks : List Key), xs = [V.ref l] ∧ SqL K H l (ks.map kV) ∧ ks.length + 1 < scanBound ∧ ∀ D, H D = none → Q (.ref D) (upd H D (SetHO P w D (keysU ks)))
theorem cr_setK (hc : X.calm = true) : CallR X (.type "set") (rSetOfK X.K X.prog X.w) := by
  intro pins s σ H xs us Q I r h
  obtain ⟨l, ks, rfl, hl, hf, q⟩ := h
  rw [Vals.ref1 r]
  obtain ⟨its, rv, pl, hz⟩ := I.list hl
  have hn : H s.heap.objs.size = none := I.hok.fresh (Nat.le_refl _)
  have hl1 := rv.length
  rw [List.length_map] at hl1
  refine setG_call (P := X.prog) (w := X.w) ks (I.ok.hd hc) pl.isList (fun i v hv => ?_) (by rw [List.size_toArray]; exact hl1.symm) hf fun h' tk R k => ?_
  · have hi : i < its.length := by
      have := Array.getElem?_eq_some_iff.mp hv
      simpa using this.1
    have hk : i < ks.length := by omega
    have ev : its[i]? = some v := by simpa using hv
    obtain ⟨u, h1, h2⟩ := rv.get (i := i) (x := kV ks[i]) (by rw [List.getElem?_map, List.getElem?_eq_getElem hk]; rfl)
    rw [ev] at h1
    cases h1
    exact ⟨ks[i], List.getElem?_eq_getElem hk, kV_is h2⟩
  · exact ⟨.ref s.heap.objs.size, upd H s.heap.objs.size (SetHO X.prog X.w s.heap.objs.size (keysU ks)), I.laid (t' := tk) k (Nat.le_refl _) (setG_new R), rfl, q _ hn⟩
def rSortedK (P : Program) (w : World) : List V → Hp → VK → Prop := fun xs H Q => ∃ (D : Addr) (ys : List Str), xs = [V.ref D] ∧ H D = some (SetHO P w D (ys.map Sum.inr)) ∧ ∀ p, H p = none → Q (.ref p) (upd H p (.lst ((sortS ys).map V.str)))
theorem cr_sortedK (hc : X.calm = true) (hu : X.A.units + 4 < cLine) : CallR X (.builtin "sorted") (rSortedK X.prog X.w) := by
  intro pins s σ H xs us Q I r h
  obtain ⟨a, ys, rfl, ha, q⟩ := h
  have R := setHO_get I ha
  rw [Vals.ref1 r]
  refine setG_sorted R (I.ok.hd hc) hu fun s' p out c k g o hp hg hv => ?_
  have hn : H p = none := I.hok.fresh hp
  have hlen : ((sortS ys).map V.str).length ≤ sizeLine := by
    obtain ⟨_, es, _, _, _, _, _, n, hb, _⟩ := R
    have e := n.size
    rw [List.length_map] at e
    rw [List.length_map]
    have e2 : (sortS ys).length = ys.length := (List.mergeSort_perm ys leS).length_eq
    have e3 := fits_of_scanBound hb
    omega
  have J : Inv X pins σ (upd H p (.lst ((sortS ys).map V.str))) s' :=
    I.call' (ch := []) o (Un.laid k hp hn) (I.hok.laid k hp ⟨hlen, out, c, hv, hg⟩) (by rw [g]; exact I.bare) (fun _ z => nomatch z)
  exact ⟨.ref p, _, J, rfl, q p hn⟩

/-! ### the comprehension -/
def tScG (P : Program) (w : World) (wi : TI) (g : TG) (tt : TT) (te : TE) (vs : List Nat) : TE := fun σ H Q => wi σ H fun J H1 => ∀ D, H1 D = none → ∃ W : Nat → Nat → Hp → Prop, (∃ m, W 0 m (upd H1 D (SetHO P w D []))) ∧ ∀ i m H, W i m H →
  (J.stop i H ∧ Q (.ref D) H) ∨ (J.go i H ∧ ∃ Nx : Hp → Prop, (∀ H', Nx H' → ∃ m', m' < m ∧ W (i + 1) m' H') ∧ ∀ x H', J.yld i H x H' → g x (wipe σ vs) H' fun σ2 H2 => wipe σ2 vs = wipe σ vs ∧ tt σ2 H2 fun b H3 =>
    if b = true then te σ2 H3 fun y H4 => ∃ (k : Key) (ks : List Key), y = kV k ∧ H4 D = some (SetHO P w D ks) ∧ ks.length + 1 < scanBound ∧ Nx (upd H4 D (SetHO P w D (addU ks k))) else Nx H3)
theorem addK_ok {pins : List (Addr × Obj)} {σ : Sl} {H : Hp} {s : Shared} {E : Value → Shared → Prop} {D : Addr} {ks : List Key} {k : Key} {u : Value} {Q : Value → Shared → Prop} (I : Inv X pins σ H s) (hD : H D = some (SetHO X.prog X.w D ks)) (ru : RelV (kV k) u) (room : ks.length + 1 < scanBound)
    (h : ∀ s', Inv X pins σ (upd H D (SetHO X.prog X.w D (addU ks k))) s' → Q .none s') : wpAny (model X.prog X.w) X.A (call (.builtin "set.add") [.ref D, u]) Q E s := by
  refine setG_add (setHO_get I hD) (kV_is ru) room fun h' sb new => ?_
  have he : ∃ o, h'.get? D = some o := by
    have ⟨o, _, _, _, ho, _⟩ := new
    exact ⟨o, ho⟩
  exact h _ (I.write (e := D) (t' := s.toks + 1) (by rw [hD]; trivial) (.inl rfl) (fun b o hb ho => (sb.2 b hb).trans ho) he (setG_new new))
theorem scG_core {pins : List (Addr × Obj)} {s : Shared} {σ : Sl} {H : Hp} {Q : VK} {elt tg iter : Expr} {ifs : List Expr} {scope : Scope} {own : List (Str × Nat)} {pos pos' : Pos} {wi : TI} {g : TG} {tt : TT} {te : TE} {use : Option (Value → Sem Unit)} {Qf : Value → Shared → Prop}
    (hc : X.calm = true) (hN : X.N.Nodup) (I : Inv X pins σ H s) (hi : PI X tg iter wi) (ok : BlkOk X.N X.env.scope scope own)
    (hg : ∀ (s : Shared) (H : Hp) (C : Addr) (cl : List (Str × Addr)) (fp : List Addr), PG (X.blk s H scope (compEnvC scope cl C X.env) fp) tg g) (ht : ∀ (s : Shared) (H : Hp) (C : Addr) (cl : List (Str × Addr)) (fp : List Addr), PTs (X.blk s H scope (compEnvC scope cl C X.env) fp) ifs tt)
    (he : ∀ (s : Shared) (H : Hp) (C : Addr) (cl : List (Str × Addr)) (fp : List Addr), PE (X.blk s H scope (compEnvC scope cl C X.env) fp) elt te) (hs : ∀ x, foldedSetIterable iter X.env x = pure x)
    (h : tScG X.prog X.w wi g tt te (own.map (·.2)) σ H Q)
    (hRR : ∀ D C s' m H', Inv X pins σ H' s' → Q (.ref D) H' → s'.heap.Ns C m → FpOk X pins H' C → compPost (model X.prog X.w) X.A X.xe use Qf (.ref D) C (.ok .next) s') :
    wpAny (model X.prog X.w) X.A (comprehension (.SetComp elt [⟨tg, iter, ifs, 0⟩] scope pos) scope X.env pos' (newSet (.type "set")) false (eval iter X.env) use) Qf X.xe s := by
  have hfree : ∀ y ∈ scope.names, y.2 = .free → ∃ c, X.env.cells.lookup y.1 = some c := fun y hy e => by
    rcases ok.free y hy e with k | k
    · exact I.ok.has _ (.inl k)
    · exact I.ok.has _ (.inr k)
  refine wpAny_comprehension_free (use := use) rfl hs (closure_ok hfree) ok.kind (fun y hy e => by rw [ok.uniq y hy, e])
    (thn (hi.run pins s σ H _ I h) fun xv s1 hx => thn hx fun itv s2 h2 => ?_)
  obtain ⟨it, fp, tn, J, H2, e, I2, T, st2, f2, q⟩ := h2
  subst e
  refine PpSet.newSet_ok (newEnv_comp ?_)
  generalize hD : s2.heap.objs.size = D
  have hDn : H2 D = none := I2.hok.fresh (Nat.le_of_eq hD)
  obtain ⟨W, ⟨m0, w0⟩, turn⟩ := q D hDn
  generalize hs3 : ({ s2 with heap := s2.heap.push { cls := .type "set", dict := none, data := .set #[] 0 (.fresh 0 0 (!X.w.params.followText "set-order")) } } : Shared) = s3
  have I3 : Inv X pins σ (upd H2 D (SetHO X.prog X.w D [])) s3 := by
    rw [← hs3]
    refine I2.laid (t' := s2.toks) (fun b o e => Heap.get?_push_of_some _ e) (Nat.le_of_eq hD) ?_
    rw [← hD]
    exact setG_new (setG_fresh X.w)
  have h3 : s3.heap = s2.heap.push { cls := .type "set", dict := none, data := .set #[] 0 (.fresh 0 0 (!X.w.params.followText "set-order")) } := by rw [← hs3]
  have sz : ∀ b ∈ fp, b < s2.heap.objs.size := fun b hb => by
    obtain ⟨o, e, _⟩ := T.obj _ _ st2 b hb
    exact Heap.lt_size e
  have f3 : ∀ b ∈ fp, FpOk X pins (upd H2 D (SetHO X.prog X.w D [])) b ∧ b < s3.heap.objs.size := fun b hb => by
    have hlt := sz b hb
    refine ⟨⟨?_, (f2 b hb).2⟩, by rw [h3, Heap.size_push]; exact Nat.lt_succ_of_lt hlt⟩
    rw [upd_ne (by rw [← hD]; exact Nat.ne_of_lt hlt)]
    exact (f2 b hb).1
  have st3 : tn 0 s3.heap := T.keep _ _ _ st2 fun b _ o e => by rw [h3]; exact Heap.get?_push_of_some _ e
  have I4 := block_start I3 ok hN f3
  have pg := hg s3 (upd H2 D (SetHO X.prog X.w D [])) s3.heap.objs.size (cellsFrom (s3.heap.objs.size + 1) scope.names (cloFrom X.env.cells scope.names [])) fp
  have pt := ht s3 (upd H2 D (SetHO X.prog X.w D [])) s3.heap.objs.size (cellsFrom (s3.heap.objs.size + 1) scope.names (cloFrom X.env.cells scope.names [])) fp
  have pe := he s3 (upd H2 D (SetHO X.prog X.w D [])) s3.heap.objs.size (cellsFrom (s3.heap.objs.size + 1) scope.names (cloFrom X.env.cells scope.names [])) fp
  show codeAny _ _ (.compStart (.SetComp elt [⟨tg, iter, ifs, 0⟩] scope pos) 0 (.ref it) (.ref D) (compEnvC scope (cellsFrom (s3.heap.objs.size + 1) scope.names (cloFrom X.env.cells scope.names [])) s3.heap.objs.size X.env)) (compPost (model X.prog X.w) X.A X.xe use Qf (.ref D) s3.heap.objs.size) { s3 with heap := pushCells (s3.heap.push { cls := .type "dict", data := .dict #[] }) scope.names }
  have nfp : ∀ b ∈ fp, (upd H2 D (SetHO X.prog X.w D [])) b = none := fun b hb => (f3 b hb).1.1
  generalize hce : compEnvC scope (cellsFrom (s3.heap.objs.size + 1) scope.names (cloFrom X.env.cells scope.names [])) s3.heap.objs.size X.env = ce at I4 pg pt pe ⊢
  have cL : ce.locals = s3.heap.objs.size := by subst hce; rfl
  generalize hH3 : upd H2 D (SetHO X.prog X.w D []) = H3 at I3 I4 pg pt pe w0 nfp f3
  generalize hs4 : ({ s3 with heap := pushCells (s3.heap.push { cls := .type "dict", data := .dict #[] }) scope.names } : Shared) = s4 at I4 ⊢
  have st4 : tn 0 s4.heap := T.keep _ _ _ st3 fun b _ o e => by rw [← hs4]; exact pushCells_keeps _ _ _ _ (Heap.get?_push_of_some _ e)
  have stat : ∀ {σ' : Sl} {H' : Hp} {s' : Shared}, Inv (X.blk s3 H3 scope ce fp) [] σ' H' s' → (∀ b ∈ fp, H' b = none) → ∀ b ∈ fp, FpOk (X.blk s3 H3 scope ce fp) [] H' b := fun {σ' H' s'} I' hn b hb =>
    ⟨hn b hb, (I'.ok.exf b hb).1, I'.ok.exfs b hb, .inl hb, fun x c e => (I'.ok.exf b hb).2 x c e, fun p hp => absurd (show p ∈ ([] : List (Addr × Obj)) ++ [] from hp) (by simp)⟩
  have loop : codeAny (model X.prog X.w) X.A (.compLoop (.SetComp elt [⟨tg, iter, ifs, 0⟩] scope pos) 0 (.ref it) (.ref D) ce) (compPost (model X.prog X.w) X.A X.xe use Qf (.ref D) s3.heap.objs.size) s4 := by
    refine PpSet.compLoopS_any (fun n s' => ∃ i H', Inv (X.blk s3 H3 scope ce fp) [] (wipe σ (own.map (·.2))) H' s' ∧ tn i s'.heap ∧ (∀ b ∈ fp, H' b = none) ∧ W i n H') ?_ m0 ⟨0, H3, I4, st4, nfp, w0⟩
    rintro n s5 ⟨i, H5, I5, st5, n5, w5⟩
    rcases turn i n H5 w5 with ⟨stop, qq⟩ | ⟨go, Nx, hNx, step⟩
    · have td := T.done (X.blk s3 H3 scope ce fp) rfl rfl rfl hc i [] s5 _ H5 (fun _ _ => False) I5 (stat I5 n5) st5 stop
      refine thnF td fun r s6 ⟨hr, I6⟩ => ?_
      subst hr
      have I7 : Inv X pins σ H5 s6 := I3.call' (ch := fp) I6.os I6.base I6.hok I6.bare fun b hb => ⟨(f3 b hb).1.2.2.2.1, (f3 b hb).1.2.1, (f3 b hb).1.2.2.2.2.1, (f3 b hb).1.2.2.2.2.2⟩
      have nC : H5 s3.heap.objs.size = none := by
        have z : H5 ce.locals = none := I6.free
        rw [cL] at z
        exact z
      obtain ⟨m, hn, _⟩ := I6.loc
      have hn : s6.heap.Ns ce.locals m := hn
      rw [cL] at hn
      exact hRR D s3.heap.objs.size s6 m H5 I7 qq hn (I3.fpOk (Nat.le_refl _) nC)
    · have ti := T.item (X.blk s3 H3 scope ce fp) rfl rfl rfl hc i [] s5 _ H5 (fun _ _ => False) I5 (stat I5 n5) st5 go
      refine thnF ti fun r s6 ⟨u, hr, h6⟩ => ?_
      subst hr
      refine thnF h6 fun _ s7 ⟨x, H7, I7, r7, y7, st7, n7⟩ => ?_
      have I7' := I7.pinned (stat I7 n7) (T.obj _ _ st7)
      refine thnF (pg.run _ s7 _ H7 x u _ I7' r7 (step x H7 y7)) fun _ s8 ⟨σ8, H8, I8, hw8, q8⟩ => ?_
      refine thnF (pt.run _ s8 σ8 H8 _ I8 q8) fun b s9 ⟨H9, I9, q9⟩ => ?_
      have fin : ∀ {s' : Shared} {H' : Hp}, Inv (X.blk s3 H3 scope ce fp) ([] ++ pinsAt fp s7.heap) σ8 H' s' → Nx H' → ∃ m, m < n ∧ ∃ i H', Inv (X.blk s3 H3 scope ce fp) [] (wipe σ (own.map (·.2))) H' s' ∧ tn i s'.heap ∧ (∀ b ∈ fp, H' b = none) ∧ W i m H' := fun {s' H'} I' nx => by
        obtain ⟨m', hm, w'⟩ := hNx H' nx
        have pin' : ∀ b ∈ fp, ∀ o, s7.heap.get? b = some o → s'.heap.get? b = some o ∧ H' b = none := fun b hb o e =>
          let z := I'.pin (b, o) (List.mem_append_right _ (List.mem_append_right _ (mem_pinsAt hb e)))
          ⟨z.1, z.2.1⟩
        have hl : (wipe σ (own.map (·.2))).length = σ8.length := by rw [← hw8, wipe_length]
        refine ⟨m', hm, i + 1, H', (I'.unpinned (pins := [])).weak hl (fun j v e => ?_), T.keep _ _ _ st7 fun b hb o e => (pin' b hb o e).1, fun b hb => ?_, w'⟩
        · rw [← hw8] at e
          exact (wipe_some e).1
        · obtain ⟨o, e, _⟩ := T.obj _ _ st7 b hb
          exact (pin' b hb o e).2
      cases b with
      | false =>
        simp only [Bool.false_eq_true, if_false] at q9 ⊢
        exact fin I9 q9
      | true =>
        simp only [if_true] at q9 ⊢
        refine thnF (pe.run _ s9 σ8 H9 _ I9 q9) fun z s10 ⟨yv, H10, I10, r10, k0, ks0, ey, hD10, hz10, nx⟩ => ?_
        subst ey
        exact addK_ok (X := X.blk s3 H3 scope ce fp) I10 hD10 r10 hz10 fun s11 I11 => fin I11 nx
  exact PpSet.codeAny_compStart_set loop (T.self X.A 0 _ _ _ st4 loop)
theorem pe_scG {elt tg iter : Expr} {ifs : List Expr} {scope : Scope} {own : List (Str × Nat)} {pos : Pos} {wi : TI} {g : TG} {tt : TT} {te : TE} (hc : X.calm = true) (hN : X.N.Nodup) (hi : PI X tg iter wi) (ok : BlkOk X.N X.env.scope scope own)
    (hg : ∀ (s : Shared) (H : Hp) (C : Addr) (cl : List (Str × Addr)) (fp : List Addr), PG (X.blk s H scope (compEnvC scope cl C X.env) fp) tg g) (ht : ∀ (s : Shared) (H : Hp) (C : Addr) (cl : List (Str × Addr)) (fp : List Addr), PTs (X.blk s H scope (compEnvC scope cl C X.env) fp) ifs tt)
    (he : ∀ (s : Shared) (H : Hp) (C : Addr) (cl : List (Str × Addr)) (fp : List Addr), PE (X.blk s H scope (compEnvC scope cl C X.env) fp) elt te) (hs : ∀ x, foldedSetIterable iter X.env x = pure x := by intro _; rfl) :
    PE X (.SetComp elt [⟨tg, iter, ifs, 0⟩] scope pos) (tScG X.prog X.w wi g tt te (own.map (·.2))) := by
  refine ⟨fun pins s σ H Q I h => ?_⟩
  rw [PpSet.eval_SetComp]
  refine scG_core hc hN I hi ok hg ht he hs h fun D C s' m H' I' q hn f => ⟨m, hn, fun h'' sb => ?_⟩
  obtain ⟨f0, f1, f2, f3, f4, f5⟩ := f
  exact ⟨.ref D, H', I'.turned (t' := s'.toks) (fun b o hb e => (sb.2 b hb).trans e) f0 f1 f3 f4 f5, rfl, q⟩
end

/-! ### by value: a set expression gives its members -/
abbrev Evs := Fr → Option (List Key × Fr)
def EvS (P : Program) (w : World) (K : PySem.W.Frag) (f : Evs) : TE := fun σ H Q => ∃ Z fr fp ks fr', Wd K Z H σ fr fp ∧ f fr = some (ks, fr') ∧
  ∀ Z' H' D fp', Wd K Z' H' σ fr' fp' → Ext Z H fp Z' H' fp' → H' D = some (SetHO P w D ks) → Q (.ref D) H'
def keysD : List PyData → Option (List Key)
  | [] => some []
  | .int i :: ts => (keysD ts).bind fun ks => some (.inl i :: ks)
  | .str x :: ts => (keysD ts).bind fun ks => some (.inr x :: ks)
  | _ => none
theorem keysD_some {K : PySem.W.Frag} {Z : Hp} : ∀ {ts : List PyData} {ks : List Key} {vs : List V}, keysD ts = some ks → Rps K Z vs ts → vs = ks.map kV
  | [], ks, vs, h, r => by
    cases h
    cases r
    rfl
  | t :: ts, ks, vs, h, r => by
    unfold keysD at h
    split at h
    · rename_i e; cases e
    · rename_i i ts' e
      cases e
      cases e2 : keysD ts with
      | none => rw [e2] at h; cases h
      | some us =>
        rw [e2] at h
        cases h
        cases r with
        | cons q r =>
          cases q
          rw [keysD_some e2 r]
          rfl
    · rename_i i ts' e
      cases e
      cases e2 : keysD ts with
      | none => rw [e2] at h; cases h
      | some us =>
        rw [e2] at h
        cases h
        cases r with
        | cons q r =>
          cases q
          rw [keysD_some e2 r]
          rfl
    · cases h
def setE (f : Ev) : Evs := fun fr => (f fr).bind fun x => (asL x.1.o).bind fun ts => (keysD ts).bind fun ks => if ks.length + 1 < scanBound then some (keysU ks, x.2) else none
theorem EvS.call_ {P : Program} {w : World} {K : PySem.W.Frag} {σ : Sl} {H : Hp} {Q : VK} {p : Bool} {f : Ev} (h : EvS P w K (setE f) σ H Q) : tCB (rSetOfK K P w) (tCons (EvR K p f) tNil) σ H Q := by
  obtain ⟨Z, fr, fp, ks, fr', wd, e, k⟩ := h
  unfold setE at e
  cases ef : f fr with
  | none => rw [ef] at e; cases e
  | some x =>
    obtain ⟨r, fr1⟩ := x
    rw [ef] at e
    simp only [Option.bind_some] at e
    cases el : asL r.o with
    | none => rw [el] at e; cases e
    | some ts =>
      rw [el] at e
      simp only [Option.bind_some] at e
      cases ek : keysD ts with
      | none => rw [ek] at e; cases e
      | some js =>
        rw [ek] at e
        simp only [Option.bind_some] at e
        split at e
        · rename_i hz
          simp only [Option.some.injEq, Prod.mk.injEq] at e
          obtain ⟨rfl, rfl⟩ := e
          refine ⟨Z, fr, fp, r, fr1, wd, ef, fun Z1 H1 v fp1 w1 x1 b1 _ => ?_⟩
          have hv : Has K Z1 H1 v r.o := by
            have := rt_prefix (vs := [v]) (rs := [r]) w1.rt (.cons b1 .nil)
            cases this with
            | cons h _ => exact h
          obtain ⟨a, vs, rfl, hp, rp⟩ := has_list w1.zh hv el
          rw [keysD_some ek rp] at hp
          obtain ⟨f2, w2, x2⟩ := w1.tail
          refine ⟨a, js, rfl, SqL.of hp, hz, fun D hD => ?_⟩
          have sm : Same H1 (upd H1 D (SetHO P w D (keysU js))) := fun b o e => by rw [upd_ne (ne_of_none e hD)]; exact e
          have w3 : Wd K Z1 (upd H1 D (SetHO P w D (keysU js))) σ fr1 f2 := ⟨w2.rt.frame (fun b _ u e => sm b u e) fun _ _ e => e, w2.nd, w2.zf, w2.zh.trans sm, fun b m => by rw [upd_ne (fun z : b = D => w2.live b m (z ▸ hD))]; exact w2.live b m⟩
          have x3 : Ext Z1 H1 f2 Z1 (upd H1 D (SetHO P w D (keysU js))) f2 := ⟨fun b u e _ => sm b u e, fun b e => (by
            by_cases hb : b = D
            · rw [hb, upd_same]; exact nofun
            · rw [upd_ne hb]; exact e), fun b m => .inl m, fun _ _ e => e, fun _ e => .inl e⟩
          exact k Z1 _ D f2 w3 (x1.trans (x2.trans x3)) upd_same
        · cases e
def strsK : List Key → Option (List Str)
  | [] => some []
  | .inr x :: ks => (strsK ks).bind fun xs => some (x :: xs)
  | _ => none
theorem strsK_some : ∀ {ks : List Key} {xs : List Str}, strsK ks = some xs → ks = xs.map Sum.inr
  | [], _, h => by cases h; rfl
  | .inl _ :: _, _, h => by cases h
  | .inr x :: ks, xs, h => by
    unfold strsK at h
    cases e : strsK ks with
    | none => rw [e] at h; cases h
    | some us =>
      rw [e] at h
      cases h
      rw [strsK_some e]
      rfl
def srtF (f : Evs) : Ev := fun fr => (f fr).bind fun x => (strsK x.1).bind fun xs => some (.own (.l ((sortS xs).map fun x => .d (.str x))), x.2)
theorem rps_strs {K : PySem.W.Frag} {Z : Hp} (xs : List Str) : Rps K Z (xs.map V.str) (xs.map PyData.str) := by
  induction xs with
  | nil => exact .nil
  | cons x xs ih => exact .cons (.str x) ih
theorem EvR.srt_ {P : Program} {w : World} {K : PySem.W.Frag} {σ : Sl} {H : Hp} {Q : VK} {f : Evs} (h : EvR K false (srtF f) σ H Q) : tCB (rSortedK P w) (tCons (EvS P w K f) tNil) σ H Q := by
  obtain ⟨Z, fr, fp, r, fr', wd, e, k⟩ := h
  unfold srtF at e
  cases ef : f fr with
  | none => rw [ef] at e; cases e
  | some x =>
    obtain ⟨ks, fr1⟩ := x
    rw [ef] at e
    simp only [Option.bind_some] at e
    cases es : strsK ks with
    | none => rw [es] at e; cases e
    | some xs =>
      rw [es] at e
      simp only [Option.bind_some, Option.some.injEq, Prod.mk.injEq] at e
      obtain ⟨rfl, rfl⟩ := e
      refine ⟨Z, fr, fp, ks, fr1, wd, ef, fun Z1 H1 D fp1 w1 x1 hD => ?_⟩
      rw [strsK_some es] at hD
      refine ⟨D, xs, rfl, hD, fun np hn => ?_⟩
      have e2 : ((sortS xs).map fun x => O.d (.str x)) = ((sortS xs).map PyData.str).map O.d := by rw [List.map_map]; rfl
      obtain ⟨w2, x2⟩ := w1.new (New.list w1.zh hn (rps_strs (sortS xs)))
      rw [← e2] at w2
      exact k Z1 _ (.ref np) _ w2 (x1.trans x2) .own fun z => nomatch z
section
variable {X : Cx} {x : Str} {e : Expr} {p pos : Pos} {pa : Bool} {f : Ev} {fs : Evs}
theorem st_call (hc : X.calm = true) (hg : Gl X x) (hm : X.mg x = none) (hv : bootBuiltins x = some (.type "set")) (he : PE X e (EvR X.K pa f)) (hn : x ≠ "__name__" := by decide) (hdb : (x == ("__debug__" : Str)) = false := by decide)
    (hs : starEach [e] X.env = (false, eval e X.env) :: starEach [] X.env := by rfl) (hpl : (backTo pos (starEach [] X.env)).any (·.1) = false := by rfl) : PE X (.Call (.Name x p) [e] [] pos) (EvS X.prog X.w X.K (setE f)) :=
  imp (pe_callTy (cr_setK hc) hg hm hv (pa_cons he pa_nil hs) hn hdb hs hpl) fun _ _ _ h => EvS.call_ h
theorem e_srt (hc : X.calm = true) (hu : X.A.units + 4 < cLine) (hg : Gl X x) (hm : X.mg x = none) (hv : bootBuiltins x = some (.builtin "sorted")) (he : PE X e (EvS X.prog X.w X.K fs)) (hn : x ≠ "__name__" := by decide) (hdb : (x == ("__debug__" : Str)) = false := by decide)
    (hs : starEach [e] X.env = (false, eval e X.env) :: starEach [] X.env := by rfl) (hpl : (backTo pos (starEach [] X.env)).any (·.1) = false := by rfl) : PE X (.Call (.Name x p) [e] [] pos) (EvR X.K false (srtF fs)) :=
  imp (pe_callB (cr_sortedK hc hu) hg hm hv (pa_cons he pa_nil hs) hn hdb hs hpl) fun _ _ _ h => EvR.srt_ h
end
/-! {elt for t in it if c} -/
def scL (tgt : PyData → Fr → Option Fr) (tst : Evt) (elt : Ev) (vs : List Nat) : List PyData → List Key → Fr → Option (List Key × Fr)
  | [], acc, fr => some (acc, fr)
  | t :: ts, acc, fr => (tgt t fr).bind fun fr1 => (tst fr1).bind fun x => if x.1 = true then
      (elt x.2).bind fun y => match y.1 with
        | .own o => (keyO o).bind fun k => if acc.length + 1 < scanBound then scL tgt tst elt vs ts (addU acc k) (wipF y.2 vs) else none
        | _ => none
    else scL tgt tst elt vs ts acc (wipF x.2 vs)
def scF (it : Evi) (tgt : PyData → Fr → Option Fr) (tst : Evt) (elt : Ev) (vs : List Nat) : Evs := fun fr => (it fr).bind fun x => scL tgt tst elt vs x.1 [] (wipF x.2 vs)
theorem Wd.unwipe0 {K : PySem.W.Frag} {Z H : Hp} {σ : Sl} {vs : List Nat} {fr : Fr} {fp : List Addr} (w : Wd K Z H (wipe σ vs) fr fp) : Wd K Z H σ fr fp :=
  ⟨w.rt.congr (wipe_length σ vs).symm fun i o eo => by
    obtain ⟨v, _, _, ev, _⟩ := w.rt.take eo
    exact (wipe_out (wipe_some ev).2).symm, w.nd, w.zf, w.zh, w.live⟩
/-- an object beside the world -/
structure Bes (P : Program) (w : World) (Z H : Hp) (fp : List Addr) (D : Addr) (ks : List Key) : Prop where
  at' : H D = some (SetHO P w D ks)
  nf : D ∉ fp
  nz : Z D = none
theorem Bes.ext {P : Program} {w : World} {Z H Z' H' : Hp} {fp fp' : List Addr} {D : Addr} {ks : List Key} (b : Bes P w Z H fp D ks) (x : Ext Z H fp Z' H' fp') : Bes P w Z' H' fp' D ks := by
  refine ⟨x.keep D _ b.at' b.nf, fun m => ?_, ?_⟩
  · rcases x.foot D m with z | z
    · exact b.nf z
    · rw [b.at'] at z; cases z
  · cases q : Z' D with
    | none => rfl
    | some u =>
      rcases x.zn D (by rw [q]; exact nofun) with z | z | z
      · exact absurd b.nz z
      · exact absurd z b.nf
      · rw [b.at'] at z; cases z
/-- it changes -/
theorem Wd.beside {P : Program} {w : World} {K : PySem.W.Frag} {Z H : Hp} {σ : List (Option V)} {fr : List (Option O)} {fp : List Addr} {D : Addr} {o : HO} (wd : Wd K Z H σ fr fp) (hf : D ∉ fp) (hz : Z D = none) : Wd K Z (upd H D o) σ fr fp ∧ ∀ Z0 H0 fp0, Ext Z0 H0 fp0 Z H fp → H0 D = none → Ext Z0 H0 fp0 Z (upd H D o) fp := by
  have ne : ∀ b ∈ fp, b ≠ D := fun b m z => hf (z ▸ m)
  refine ⟨⟨wd.rt.frame (fun b m u e => by rw [upd_ne (ne b m)]; exact e) fun _ _ e => e, wd.nd, wd.zf, fun b u q => ?_, fun b m => by rw [upd_ne (ne b m)]; exact wd.live b m⟩, fun Z0 H0 fp0 x hn => ⟨fun b u e m => ?_, fun b e => ?_, x.foot, x.zz, x.zn⟩⟩
  · rw [upd_ne (fun z => by rw [z, hz] at q; cases q)]; exact wd.zh _ _ q
  · rw [upd_ne (ne_of_none e hn)]; exact x.keep b u e m
  · by_cases hb : b = D
    · rw [hb, upd_same]; exact nofun
    · rw [upd_ne hb]; exact x.live b e
theorem EvS.sc_ {P : Program} {w : World} {K : PySem.W.Frag} {σ : Sl} {H0 : Hp} {it : Evi} {tgt : PyData → Fr → Option Fr} {tst : Evt} {elt : Ev} {vs : List Nat} {p q : Bool} {Q : VK} (h : EvS P w K (scF it tgt tst elt vs) σ H0 Q) : tScG P w (IvR K it) (TgV K vs tgt) (EvT K p tst) (EvR K q elt) vs σ H0 Q := by
  obtain ⟨Z, fr, fp, ks, fr', wd, e, k⟩ := h
  unfold scF at e
  cases ef : it fr with
  | none => rw [ef] at e; cases e
  | some x =>
    obtain ⟨ts, fr1⟩ := x
    rw [ef] at e
    have el : scL tgt tst elt vs ts [] (wipF fr1 vs) = some (ks, fr') := e
    refine ⟨Z, fr, fp, ts, fr1, wd, ef, fun J Z1 H1 τ θ fp1 hτ w1 x1 jok D hD => ?_⟩
    obtain ⟨f1, f2, e2, wt, glue⟩ := w1.under hτ
    obtain ⟨g2, wb, xb⟩ := wt.blk vs (σ' := wipe σ vs) (wipe_length σ vs) fun i hi => wipe_out hi
    obtain ⟨w2, x2⟩ := glue Z1 H1 _ _ g2 wb xb
    have nf0 : D ∉ f1 ++ g2 := fun m => w2.live D m hD
    have nz0 : Z1 D = none := by
      cases q : Z1 D with
      | none => rfl
      | some u => rw [w2.zh _ _ q] at hD; cases hD
    have h0 : H0 D = none := by
      cases q : H0 D with
      | none => rfl
      | some u => exact absurd hD (x1.live D (by rw [q]; exact nofun))
    obtain ⟨w3, ex3⟩ := Wd.beside (P := P) (w := w) (o := SetHO P w D []) w2 nf0 nz0
    have x3 := ex3 _ _ _ (x1.trans x2) h0
    refine ⟨fun i m H => i + m = ts.length ∧ ∃ Zi fri fpi acc, Wd K Zi H (τ ++ wipe σ vs) (θ ++ fri) fpi ∧ Bes P w Zi H fpi D acc ∧ Ext Z H0 fp Zi H fpi ∧ Same Z1 Zi ∧ scL tgt tst elt vs (ts.drop i) acc fri = some (ks, fr'),
      ⟨ts.length, by omega, Z1, _, _, [], w3, ⟨upd_same, nf0, nz0⟩, x3, fun _ _ e => e, el⟩, ?_⟩
    rintro i m H ⟨him, Zi, fri, fpi, acc, wi, bi, xi, si, ei⟩
    obtain ⟨g1, wp⟩ := wi.pre hτ
    by_cases hi : i < ts.length
    · rw [List.drop_eq_getElem_cons hi] at ei
      refine .inr ⟨jok.go Zi H g1 i wp si hi, fun H' => (i + 1) + (m - 1) = ts.length ∧ ∃ Zi fri fpi acc, Wd K Zi H' (τ ++ wipe σ vs) (θ ++ fri) fpi ∧ Bes P w Zi H' fpi D acc ∧ Ext Z H0 fp Zi H' fpi ∧ Same Z1 Zi ∧ scL tgt tst elt vs (ts.drop (i + 1)) acc fri = some (ks, fr'),
        fun H' q => ⟨m - 1, by omega, q⟩, fun x H' y => ?_⟩
      obtain ⟨t, Z2, et, nw⟩ := jok.yld Zi H g1 i x H' wp si hi y
      rw [List.getElem?_eq_getElem hi] at et
      have et := Option.some.inj et
      subst et
      obtain ⟨w2, x2⟩ := wi.new nw
      obtain ⟨f1, f2, e2, wt, glue⟩ := Wd.under (τ := some x :: τ) (θ := some (.d ts[i]) :: θ) w2 (by simp [hτ])
      have rp : Rp K Z2 x ts[i] := by
        cases nw.ro with
        | d q => exact q
      unfold scL at ei
      cases e3 : tgt ts[i] fri with
      | none => rw [e3] at ei; cases ei
      | some frt =>
        rw [e3] at ei
        simp only [Option.bind_some] at ei
        cases e4 : tst frt with
        | none => rw [e4] at ei; cases ei
        | some yb =>
          obtain ⟨b, fr3⟩ := yb
          rw [e4] at ei
          simp only [Option.bind_some] at ei
          refine ⟨Z2, fri, f2, ts[i], frt, wt, rp, e3, fun σ2 fp2 w3 x3 l3 a3 => ⟨?_, Z2, frt, fp2, b, fr3, w3, e4, fun Z3 H3 fp3 w4 x4 _ => ?_⟩⟩
          · exact wipe_eq (l3.trans (wipe_length σ vs)) fun i hi => (a3 i hi).trans (wipe_out hi)
          have hl2 : (wipe σ vs).length = σ2.length := l3.symm
          have ag2 : ∀ i, i ∉ vs → (wipe σ vs)[i]? = σ2[i]? := fun i hi => (a3 i hi).symm
          dsimp only
          cases b with
          | false =>
            rw [if_neg (by decide)] at ei ⊢
            obtain ⟨g3, w5, x5⟩ := w4.blk vs hl2 ag2
            obtain ⟨w6, x6⟩ := glue Z3 H3 _ _ g3 w5 (x3.trans (x4.trans x5))
            obtain ⟨g4, w7, x7⟩ := w6.tail
            have xx := x2.trans (x6.trans x7)
            exact ⟨by omega, Z3, _, g4, acc, w7, bi.ext xx, xi.trans xx, (si.trans nw.zz).trans x4.zz, ei⟩
          | true =>
            rw [if_pos rfl] at ei ⊢
            cases e5 : elt fr3 with
            | none => rw [e5] at ei; cases ei
            | some ye =>
              obtain ⟨re, fr4⟩ := ye
              rw [e5] at ei
              simp only [Option.bind_some] at ei
              refine ⟨Z3, fr3, fp3, re, fr4, w4, e5, fun Z4 H4 v fp4 w5 x5 b5 pu5 => ?_⟩
              clear b5 pu5
              split at ei
              · rename_i o
                cases ek : keyO o with
                | none => rw [ek] at ei; cases ei
                | some key =>
                  rw [ek] at ei
                  simp only [Option.bind_some] at ei
                  split at ei
                  · rename_i hsz
                    have hv : v = kV key := by
                      have q := w5.rt
                      unfold keyO at ek
                      split at ek
                      · cases ek
                        cases q with
                        | so q _ => exact rd_int q
                      · cases ek
                        cases q with
                        | so q _ =>
                          cases q with
                          | d q => cases q; rfl
                      · cases ek
                    obtain ⟨g0, w6, x6⟩ := w5.tail
                    obtain ⟨g3, w7, x7⟩ := w6.blk vs hl2 ag2
                    obtain ⟨w8, x8⟩ := glue Z4 H4 _ _ g3 w7 (x3.trans (x4.trans (x5.trans (x6.trans x7))))
                    obtain ⟨g5, w9, x9⟩ := w8.tail
                    have xx := x2.trans (x8.trans x9)
                    have b9 := bi.ext xx
                    obtain ⟨wA, exA⟩ := Wd.beside (P := P) (w := w) (o := SetHO P w D (addU acc key)) w9 b9.nf b9.nz
                    exact ⟨key, acc, hv, b9.at', hsz, by omega, Z4, _, g5, addU acc key, wA, ⟨upd_same, b9.nf, b9.nz⟩, exA _ _ _ (xi.trans xx) h0, ((si.trans nw.zz).trans x4.zz).trans x5.zz, ei⟩
                  · cases ei
              · cases ei
    · rw [List.drop_of_length_le (by omega)] at ei
      unfold scL at ei
      obtain ⟨rfl, rfl⟩ := Prod.mk.inj (Option.some.inj ei)
      obtain ⟨h1, h2, e3, r1, r2⟩ := Rt.split hτ wi.rt
      have w5 : Wd K Zi H (wipe σ vs) fri h2 := wi.sub r2 (by rw [e3])
      exact .inl ⟨jok.stop Zi H g1 i wp si (by omega), k Zi H D h2 w5.unwipe0 (xi.trans (Ext.dropped (f1 := h1) (by rw [e3]))) bi.at'⟩
theorem st_sc {X : Cx} {elt tg iter : Expr} {ifs : List Expr} {scope : Scope} {own : List (Str × Nat)} {vs : List Nat} {pos : Pos} {it : Evi} {tgt : PyData → Fr → Option Fr} {t : Evt} {f : Ev} {p q : Bool} (hc : X.calm = true) (hN : X.N.Nodup) (hi : PI X tg iter (IvR X.K it)) (ok : BlkOk X.N X.env.scope scope own) (hv : own.map (·.2) = vs)
    (hg : ∀ (s : Shared) (H : Hp) (C : Addr) (cl : List (Str × Addr)) (fp : List Addr), PG (X.blk s H scope (compEnvC scope cl C X.env) fp) tg (TgV X.K vs tgt)) (ht : ∀ (s : Shared) (H : Hp) (C : Addr) (cl : List (Str × Addr)) (fp : List Addr), PTs (X.blk s H scope (compEnvC scope cl C X.env) fp) ifs (EvT X.K p t))
    (he : ∀ (s : Shared) (H : Hp) (C : Addr) (cl : List (Str × Addr)) (fp : List Addr), PE (X.blk s H scope (compEnvC scope cl C X.env) fp) elt (EvR X.K q f)) (hs : ∀ x, foldedSetIterable iter X.env x = pure x := by intro _; rfl) :
    PE X (.SetComp elt [⟨tg, iter, ifs, 0⟩] scope pos) (EvS X.prog X.w X.K (scF it tgt t f vs)) := by
  subst hv
  exact imp (pe_scG hc hN hi ok hg ht he hs) fun _ _ _ h => h.sc_
end Bv
set_option Elab.async false
set_option linter.all false
set_option maxRecDepth 100000
/-! Bv14: the law's end. -/
namespace Bv
open PySem PySem.Spec PyProof.Rows L2

/-- the script stands, nothing else is tracked: the law's def is called and answers True -/
theorem law_go {P : Program} {w : World} {K : PySem.W.Frag} {mg mb : Str → Option Value} {k : Nat} {fa a : Addr} {fd : FuncData} {x : Str} {G : Gf} {s₁ : Shared} {vs : List Value} {ns : List Int} {os' : List (Option O)}
    (KX : K.In s₁.heap) (hns : s₁.heap.Ns mainGlobals mg) (hb : s₁.heap.Ns builtinsNs mb) (hbb : ∀ x : Str, x ≠ "__name__" → mb x = bootBuiltins x) (hlim : s₁.heap.NoLimit) (hg : s₁.gens = #[])
    (ha : s₁.heap.get? a = some { cls := .type "list", data := .seq vs.toArray }) (hr : Room k callerA)
    (F : ∀ base : Heap, K.In base → base.Ns mainGlobals mg → FnG P w K mg base k fa fd [x] (SpF K 1 G)) (hbind : ∀ (s : Shared) (u : Value), BindsTo s fd ⟨[u], []⟩ [(x, u)]) (hG : G [.sc ns] = some (.d (.bool true), os'))
    (H : Hp) (hO : Only H) (hS : SqL K H a (ns.map V.int)) (hok : HOk P w H s₁.heap) (hA : ∀ b, H b ≠ none → b = a) (hK : H a ≠ none → K.lookup a = none) :
    codeAny (model P w) callerA (.call (.ref fa) ⟨[.ref a], []⟩) (fun r s' => r = .ok (.ret (.bool true)) ∧ OldK s₁.heap s'.heap ∧ s'.os = s₁.os ∧ AllBare s'.gens) s₁ := by
  have only_a : ∀ {b : Addr}, H b ≠ none → b = a ∧ H a ≠ none := fun {b} h => ⟨hA b h, (hA b h) ▸ h⟩
  have noD : ∀ {b : Addr} {o : Obj} {es : Array DictEntry} {ep : Nat}, s₁.heap.get? b = some o → o.data = .dict es ep → H b = none := fun {b o es ep} e d => by
    cases q : H b with
    | none => rfl
    | some u =>
      obtain ⟨e', _⟩ := only_a (b := b) (by rw [q]; exact nofun)
      rw [e', ha] at e
      cases e
      cases (show Data.seq vs.toArray _ = Data.dict es ep from d)
  have nsK : ∀ {b : Addr} {m : Str → Option Value}, s₁.heap.Ns b m → (hidT s₁.heap H).Ns b m := fun {b m} ⟨o, es, ep, e, d, r⟩ => ⟨o, es, ep, hidT_get e (noD e d), d, r⟩
  have inK : K.In (hidT s₁.heap H) := fun b o e => hidT_get (KX b o e) (by
    cases q : H b with
    | none => rfl
    | some u =>
      obtain ⟨e', h'⟩ := only_a (b := b) (by rw [q]; exact nofun)
      rw [e', hK h'] at e; cases e)
  obtain ⟨mc, l1, l2⟩ := hlim
  have e0 : Env0 P w K mg (hidT s₁.heap H) callerA [] s₁ H := ⟨rfl, ⟨inK, nsK hns, ⟨mb, nsK hb, hbb⟩, ⟨mc, nsK l1, l2⟩⟩, fun b o e => of_hidT e, Nat.le_of_eq (hidT_size _ _), trivial, fun b z => absurd (show b ∈ ([] : List Addr) from z) (by simp), hok, .of_eq hg⟩
  have hsp : SpF K 1 G [.ref a] H (fun v _ => v = .bl true) fun _ _ _ => False := by
    have wd : Wd K H H ([V.ref a].map some) ([O.sc ns].map some) [] := ⟨.so (fp := []) (.sc hS) .nil, .nil, (fun _ m => nomatch m), (fun _ _ e => e), (fun _ m => nomatch m)⟩
    refine ⟨H, [.sc ns], [], _, os', wd, rfl, hG, fun Z' H' v fp' w' _ => ?_⟩
    cases w'.rt with
    | so q _ =>
      cases q with
      | d q => cases q; rfl
  refine codeAny_mono ((F _ inK (nsK hns)).run callerA [] s₁ H ⟨[.ref a], []⟩ [.ref a] [.ref a] _ _ hr rfl e0 (hbind s₁ (.ref a)) (.cons rfl .nil) hsp) fun r s' h => ?_
  cases r with
  | error e => exact (show False from h).elim
  | ok fl =>
    cases fl with
    | next => exact False.elim h
    | brk => exact False.elim h
    | cont => exact False.elim h
    | ret u =>
      obtain ⟨v, H', os, bare, un, hok', r', q⟩ := h
      have q' : v = .bl true := q
      subst q'
      obtain rfl : u = Value.bool true := r'
      refine ⟨rfl, OldK.of_keep fun b o e => ?_, os, bare⟩
      cases q : H b with
      | none => exact un.keep b o e q (by intro z; exact absurd (show b ∈ ([] : List Addr) from z) (by simp)) (by simp)
      | some u =>
        rcases hO b with z | ⟨ob, xs, z⟩
        · rw [q] at z; cases z
        · have z2 := un.frzs b ob _ z
          obtain ⟨e1, _⟩ := hok b _ z
          obtain ⟨e2, _⟩ := hok' b _ z2
          rw [e] at e1; cases e1
          exact e2
theorem law_callG {P : Program} {w : World} {K : PySem.W.Frag} {mg mb : Str → Option Value} {k : Nat} {fa a : Addr} {fd : FuncData} {x : Str} {G : Gf} {s₁ : Shared} {vs : List Value} {ns : List Int} {os' : List (Option O)}
    (KX : K.In s₁.heap) (hns : s₁.heap.Ns mainGlobals mg) (hb : s₁.heap.Ns builtinsNs mb) (hbb : ∀ x : Str, x ≠ "__name__" → mb x = bootBuiltins x) (hlim : s₁.heap.NoLimit) (hg : s₁.gens = #[])
    (ha : s₁.heap.get? a = some { cls := .type "list", data := .seq vs.toArray }) (hi : IntsAre vs ns) (hl : ns.length ≤ sizeLine) (hr : Room k callerA)
    (F : ∀ base : Heap, K.In base → base.Ns mainGlobals mg → FnG P w K mg base k fa fd [x] (SpF K 1 G)) (hbind : ∀ (s : Shared) (u : Value), BindsTo s fd ⟨[u], []⟩ [(x, u)]) (hG : G [.sc ns] = some (.d (.bool true), os')) :
    codeAny (model P w) callerA (.call (.ref fa) ⟨[.ref a], []⟩) (fun r s' => r = .ok (.ret (.bool true)) ∧ OldK s₁.heap s'.heap ∧ s'.os = s₁.os ∧ AllBare s'.gens) s₁ := by
  have rv := vals_ints hi
  have lenV := hi.length
  have go := law_go KX hns hb hbb hlim hg ha hr F hbind hG
  cases hk : K.lookup a with
  | some o =>
    have e := KX a o hk
    rw [ha] at e
    cases e
    exact go (fun _ => none) (fun _ => .inl rfl) (.inr ⟨_, vs.toArray, _, hk, rfl, rfl, rfl, by rw [List.size_toArray, lenV]; exact hl, by simpa using rv⟩) (fun b u z => nomatch z) (fun b z => absurd rfl z) fun z => absurd rfl z
  | none =>
    have key : ∀ b (u : HO), (if b = a then some (HO.frz { cls := .type "list", data := .seq vs.toArray } (.lst (ns.map V.int))) else none) = some u → b = a ∧ u = HO.frz { cls := .type "list", data := .seq vs.toArray } (.lst (ns.map V.int)) := fun b u z => by
      split at z
      · rename_i h
        cases z
        exact ⟨h, rfl⟩
      · cases z
    refine go (fun b => if b = a then some (.frz { cls := .type "list", data := .seq vs.toArray } (.lst (ns.map V.int))) else none) (fun b => ?_) (.inl (.inr ⟨{ cls := .type "list", data := .seq vs.toArray }, if_pos rfl⟩)) (fun b u z => ?_) (fun b z => ?_) fun _ => hk
    · cases q : (if b = a then some (HO.frz { cls := .type "list", data := .seq vs.toArray } (.lst (ns.map V.int))) else none) with
      | none => exact .inl q
      | some u =>
        obtain ⟨_, rfl⟩ := key b u q
        exact .inr ⟨_, _, q⟩
    · obtain ⟨rfl, rfl⟩ := key b u z
      exact ⟨ha, by rw [List.length_map]; exact hl, vs, _, rv, ha⟩
    · cases q : (if b = a then some (HO.frz { cls := .type "list", data := .seq vs.toArray } (.lst (ns.map V.int))) else none) with
      | none => exact absurd q z
      | some u => exact (key b u q).1
/-- the goal that the head leaves -/
theorem walk_ofG {l : PySem.W.OpenLaw} {n k : Nat} {q : Program} {loose : List Str} {XP : (Str → Option Value) → Heap → Prop} {YP : World → Heap → Prop} {d : DefRec} {K : Params → PySem.W.Frag} {G : Program → World → Gf} {x : Str}
    (hn : l.most = some n) (hn2 : n ≤ sizeLine) (hdf : d.params.defaults = []) (hr : Room k callerA) (hY : ∀ (w : World) (h : Heap), YP w h → (K w.params).In h)
    (F : ∀ (w : World) (mg : Str → Option Value) (fa : Addr) (h : Heap), (K w.params).In h → h.Ns mainGlobals mg → mg d.name = some (.ref fa) →
      ∃ fd : FuncData, (∀ (s : Shared) (u : Value), BindsTo s fd ⟨[u], []⟩ [(x, u)]) ∧ ∀ base : Heap, (K w.params).In base → base.Ns mainGlobals mg → FnG l.prog w (K w.params) mg base k fa fd [x] (SpF (K w.params) 1 (G l.prog w)))
    (hG : ∀ (w : World) (ns : List Int), ns.length ≤ n → ∃ os', G l.prog w [.sc ns] = some (.d (.bool true), os')) :
    PySem.W.WalkO q loose XP YP l.row.toRowW d [] (fun f vs => PySem.call f vs) := by
  refine Att.attach_call hn hdf fun w s₀ s₁ mg mb fa o pm cd doc a vs ns g Y ho hd hcd hmg hobj hints hlen hg => ?_
  have KX := hY w _ Y
  obtain ⟨fd, hb, hF⟩ := F w mg fa _ KX g.T.g hmg
  obtain ⟨os', e⟩ := hG w ns hlen
  exact law_callG KX g.T.g g.T.b g.T.builtins g.T.nolimit hg hobj hints (Nat.le_trans hlen hn2) hr hF hb e
end Bv
set_option Elab.async false
set_option linter.all false
set_option maxRecDepth 100000
/-! Bv15: rules that choose by the value; short forms for the printer. -/
namespace Bv
open PySem PySem.Spec PyProof.Rows L2

/-! ### in: a sign in a text, a thing in a list or tuple -/
def inA (neg : Bool) (a b : O) : Option O := match b with
  | .d (.str z) => signO neg a (.d (.str z))
  | b => inO neg a b
theorem o_in {X : Cx} (hu : X.A.units + 66 < cLine) : OpR X (compareOp .In) (fun x y H Q => rInG X.K false x y H Q ∨ ∃ (c : Nat) (z : Str), x = .str ⟨#[c]⟩ ∧ y = .str z ∧ Q (.bl (decide (c ∈ z.cps.toList))) H) := OpR.orr (o_inG hu) op_in_sign
theorem o_notIn {X : Cx} (hu : X.A.units + 66 < cLine) : OpR X (compareOp .NotIn) (fun x y H Q => rInG X.K true x y H Q ∨ ∃ (c : Nat) (z : Str), x = .str ⟨#[c]⟩ ∧ y = .str z ∧ Q (.bl (!decide (c ∈ z.cps.toList))) H) := OpR.orr (o_notInG hu) op_notIn_sign
theorem k_inA {K : PySem.W.Frag} : OpOk K (rTwo fun x y H Q => rInG K false x y H Q ∨ ∃ (c : Nat) (z : Str), x = .str ⟨#[c]⟩ ∧ y = .str z ∧ Q (.bl (decide (c ∈ z.cps.toList))) H) (two (inA false)) := ok2 fun Z H x y a b o Q zh ha hb e k => by
  have two_of : ∀ {r : R2} {g : O → O → Option O}, OpOk K (rTwo r) (two g) → g a b = some o → r x y H Q := fun ok e => by
    obtain ⟨x', y', e1, q⟩ := ok Z H [x, y] [a, b] o Q zh (.cons ha (.cons hb .nil)) e k
    cases e1
    exact q
  unfold inA at e
  split at e
  · exact .inr (two_of k_sign e)
  · exact .inl (two_of (k_in false) e)
theorem k_notInA {K : PySem.W.Frag} : OpOk K (rTwo fun x y H Q => rInG K true x y H Q ∨ ∃ (c : Nat) (z : Str), x = .str ⟨#[c]⟩ ∧ y = .str z ∧ Q (.bl (!decide (c ∈ z.cps.toList))) H) (two (inA true)) := ok2 fun Z H x y a b o Q zh ha hb e k => by
  have two_of : ∀ {r : R2} {g : O → O → Option O}, OpOk K (rTwo r) (two g) → g a b = some o → r x y H Q := fun ok e => by
    obtain ⟨x', y', e1, q⟩ := ok Z H [x, y] [a, b] o Q zh (.cons ha (.cons hb .nil)) e k
    cases e1
    exact q
  unfold inA at e
  split at e
  · exact .inr (two_of k_signN e)
  · exact .inl (two_of (k_in true) e)

/-! ### ==: two texts, else data -/
def eqA (neg : Bool) (a b : O) : Option O := match a, b with
  | .d (.str x), .d (.str y) => some (.d (.bool (if neg then !(x == y) else x == y)))
  | a, b => eqO neg a b
def rEqA (K : PySem.W.Frag) (neg : Bool) : R2 := fun x y H Q => rEqG K neg x y H Q ∨ ∃ a b : Str, x = .str a ∧ y = .str b ∧ Q (.bl (if neg then !(a == b) else a == b)) H
theorem o_eqA {X : Cx} (hu : X.A.units + 64 < cLine) : OpR X (compareOp .Eq) (rEqA X.K false) := OpR.orr (o_eq hu) fun pins s σ H x y v u Q I rx ry ⟨a, b, e1, e2, q⟩ => by
  subst e1
  subst e2
  exact op_eq pins s σ H _ _ v u Q I rx ry ⟨rfl, by rw [dec_str]; exact q⟩
theorem o_neA {X : Cx} (hu : X.A.units + 64 < cLine) : OpR X (compareOp .NotEq) (rEqA X.K true) := OpR.orr (o_ne hu) fun pins s σ H x y v u Q I rx ry ⟨a, b, e1, e2, q⟩ => by
  subst e1
  subst e2
  exact op_ne pins s σ H _ _ v u Q I rx ry ⟨rfl, by rw [dec_str]; exact q⟩
theorem k_eqA {K : PySem.W.Frag} (neg : Bool) : OpOk K (rTwo (rEqA K neg)) (two (eqA neg)) := ok2 fun Z H x y a b o Q zh ha hb e k => by
  unfold eqA at e
  split at e
  · cases e
    exact .inr ⟨_, _, has_str ha, has_str hb, k _ _ _ _ (.bool zh)⟩
  · obtain ⟨x', y', e1, q⟩ := k_eq neg Z H [x, y] [a, b] o Q zh (.cons ha (.cons hb .nil)) e k
    cases e1
    exact .inl q

/-! ### walks: a list, a tuple, a text -/
def iAny (K : PySem.W.Frag) (tl : TE) : TI := fun σ H R => tl σ H fun x H1 => (∃ a, x = .ref a ∧ (((∃ xs, SqL K H1 a xs) ∧ R (Itl K a) H1) ∨ ((∃ xs, SqT K H1 a xs) ∧ R (Itt K a) H1))) ∨ ∃ z, x = .str z ∧ R (Its z) H1
theorem pi_any {X : Cx} {tg l : Expr} {tl : TE} (hl : PE X l tl) : PI X tg l (iAny X.K tl) := by
  refine ⟨fun pins s σ H R I h => ?_⟩
  refine thn (hl.run pins s σ H _ I h) fun v s1 ⟨x, H1, I1, r1, q1⟩ => ?_
  rcases q1 with ⟨a, e, q⟩ | ⟨z, e, q⟩
  · subst e
    cases r1
    have fresh : ∀ {it : Addr}, it ∈ [s1.heap.objs.size] → FpOk X pins H1 it := fun hb => by
      rw [List.mem_singleton.mp hb]
      exact I1.fpOk (Nat.le_refl _) (I1.hok.fresh (Nat.le_refl _))
    rcases q with ⟨⟨xs, hq⟩, q⟩ | ⟨⟨xs, hq⟩, q⟩
    · obtain ⟨its, rv, p, hz⟩ := I1.list hq
      exact wpAny_pyIter_list p.isList ⟨_, [s1.heap.objs.size], _, _, H1, rfl, I1.kept (t' := s1.toks) fun b o e => Heap.get?_push_of_some _ e, turn_list a _, ⟨_, Heap.get?_push_size _ rfl, rfl, rfl⟩, fun _ => fresh, q⟩
    · obtain ⟨its, rv, p, hz⟩ := I1.tuple hq
      exact wpAny_pyIter_tuple p ⟨_, [s1.heap.objs.size], _, _, H1, rfl, I1.kept (t' := s1.toks) fun b o e => Heap.get?_push_of_some _ e, turn_tuple a _, ⟨_, Heap.get?_push_size _ rfl, rfl, rfl⟩, fun _ => fresh, q⟩
  · subst e
    obtain ⟨t, rfl⟩ := r1
    cases ha : z.cps.all (· < 128)
    · exact wpAny_pyIter_wide ha (pi_one (tk := s1.toks) I1 _ (turn_str _ z t "str_iterator" (.inr rfl)) ⟨_, Heap.get?_push_size _ rfl, rfl, rfl⟩ q)
    · exact wpAny_pyIter_ascii ha (pi_one (tk := s1.toks) I1 _ (turn_str _ z t "str_ascii_iterator" (.inl rfl)) ⟨_, Heap.get?_push_size _ rfl, rfl, rfl⟩ q)
/-- what is walked: the items of a list or tuple, the signs of a text -/
def itemsA : O → Option (List PyData)
  | .d (.str z) => some (signsD z)
  | o => itemsO o
def anyI (f : Ev) : Evi := fun fr => (f fr).bind fun x => if x.1.stable = true then (itemsA x.1.o).bind fun ts => some (ts, x.2) else none
theorem IvR.any_ {K : PySem.W.Frag} {p : Bool} {f : Ev} {σ : Sl} {H : Hp} {R : It → Hp → Prop} (h : IvR K (anyI f) σ H R) : iAny K (EvR K p f) σ H R := by
  obtain ⟨Z, fr, fp, ts, fr', w, e, k⟩ := h
  unfold anyI at e
  cases ef : f fr with
  | none => rw [ef] at e; cases e
  | some x =>
    obtain ⟨r, fr1⟩ := x
    rw [ef] at e
    simp only [Option.bind_some] at e
    split at e
    · rename_i hst
      cases ei : itemsA r.o with
      | none => rw [ei] at e; cases e
      | some us =>
        rw [ei] at e
        simp only [Option.bind_some, Option.some.injEq, Prod.mk.injEq] at e
        obtain ⟨rfl, rfl⟩ := e
        unfold itemsA at ei
        split at ei
        · rename_i z ez
          cases ei
          have er : r = .own (.d (.str z)) ∨ ∃ j, r = .ref j (.d (.str z)) := by
            cases r with
            | own o => exact .inl (by rw [show o = _ from ez])
            | bor o => exact absurd hst (by simp [Rs.stable])
            | ref j o => exact .inr ⟨j, by rw [show o = _ from ez]⟩
          refine ⟨Z, fr, fp, r, fr1, w, ef, fun Z1 H1 v fp1 w1 x1 b1 _ => ?_⟩
          have hr : r.root = some (.d (.str z)) := by
            rcases er with e | ⟨j, e⟩ <;> subst e <;> rfl
          rw [hr] at w1
          have hv : v = .str z := by
            cases w1.rt with
            | so q _ =>
              cases q with
              | d q => cases q; rfl
          obtain ⟨f2, w2, x2⟩ := w1.tail
          exact .inr ⟨z, hv, k _ Z1 H1 [] [] f2 rfl w2 (x1.trans x2) (.str z)⟩
        · have h2 : IvR K (seqI f) σ H R := by
            refine ⟨Z, fr, fp, us, fr1, w, ?_, k⟩
            unfold seqI
            rw [ef]
            simp only [Option.bind_some]
            rw [if_pos hst, ei]
            rfl
          obtain ⟨Z, fr, fp, r, fr1, w, e, k⟩ := h2.seq_ (p := p)
          exact ⟨Z, fr, fp, r, fr1, w, e, fun Z1 H1 v fp1 w1 x1 b1 pu => .inl (k Z1 H1 v fp1 w1 x1 b1 pu)⟩
    · cases e
theorem i_any {X : Cx} {tg e : Expr} {p : Bool} {f : Ev} (h : PE X e (EvR X.K p f)) : PI X tg e (IvR X.K (anyI f)) := impI (pi_any h) fun _ _ _ q => q.any_

/-! ### room -/
theorem r66 {k : Nat} {A : Around} (r : Room k A) : A.units + 66 < cLine := by have := r.un; omega
theorem r4 {k : Nat} {A : Around} (r : Room k A) : A.units + 4 < cLine := by have := r.un; omega
theorem r1 {k : Nat} {A : Around} (r : Room k A) : A.units + 1 < cLine := by have := r.un; omega
theorem G_len {n m : Nat} {fx : List Nat} {b : Sts} : ∀ os o os', os.length = n → defF n m fx b os = some (o, os') → os.length = n ∧ os'.length = n := fun os o os' hl h => by
  refine ⟨hl, ?_⟩
  unfold defF at h
  cases e : b (os.map some ++ List.replicate (m - n) none) with
  | none => rw [e] at h; cases h
  | some x =>
    obtain ⟨fl, fr⟩ := x
    rw [e] at h
    simp only [Option.bind_some] at h
    cases fl with
    | nx => cases h; exact mskN_len _ _ _ _
    | bk => cases h
    | ct => cases h
    | rt o => cases h; exact mskN_len _ _ _ _
/-- a def called with as many arguments as it has -/
def gOf (n m : Nat) (fx : List Nat) (b : Sts) : Gf := fun os => if os.length = n then defF n m fx b os else none
theorem gOf_len {n m : Nat} {fx : List Nat} {b : Sts} : ∀ os o os', gOf n m fx b os = some (o, os') → os.length = n ∧ os'.length = n := fun os o os' h => by
  unfold gOf at h
  split at h
  · rename_i hl
    exact G_len os o os' hl h
  · cases h
theorem fnG_gOf {P : Program} {w : World} {K : PySem.W.Frag} {mg : Str → Option Value} {base : Heap} {k : Nat} {x qual : Str} {st : Stmt} {f : Addr} {fd : FuncData} {N ps : List Str} {n m : Nat} {fx : List Nat} {body : Sts}
    (F : Fun K x qual st f fd) (S : FnScope N ps (defScope st)) (hn : ps.length = n) (hm : N.length = m) (hnm : n ≤ m)
    (hbody : ∀ (cdv : Value) (A : Around) (outer : List Env) (s : Shared) (H : Hp) (E : XK), Room k (A.deeper (envOfC qual (defScope st) s.heap.objs.size f cdv)) → A.guards = some [] →
      PSs (cxOf CX0 P w K mg base N qual (defScope st) f cdv A outer s H E).nox (defBody st) (StR K fx body)) :
    FnG P w K mg base (k + 1) f fd ps (SpF K n (gOf n m fx body)) := by
  have h := fnG_def F S hn hm hnm hbody
  refine ⟨fun vs H Q E q => ?_, fun A outer s H args us vs Q E hr hgd e0 hb r q => ?_⟩
  · obtain ⟨Z, os, fp, o, os', wd, hl, eg, k⟩ := q
    refine h.len vs H Q E ⟨Z, os, fp, o, os', wd, hl, ?_, k⟩
    unfold gOf at eg
    rw [if_pos hl] at eg
    exact eg
  · obtain ⟨Z, os, fp, o, os', wd, hl, eg, k⟩ := q
    refine h.run A outer s H args us vs Q E hr hgd e0 hb r ⟨Z, os, fp, o, os', wd, hl, ?_, k⟩
    unfold gOf at eg
    rw [if_pos hl] at eg
    exact eg

/-! ### name = [..] on one line -/
section
variable {X : Cx} {elt tg iter tg1 iter1 : Expr} {ifs ifs1 : List Expr} {scope : Scope} {own : List (Str × Nat)} {vs vs1 : List Nat} {pos spos : Pos} {it it1 : Evi} {tgt tgt1 : PyData → Fr → Option Fr} {t t1 : Evt} {f : Ev} {p q p1 : Bool} {fx : List Nat} {y : Str} {py : Pos}
theorem s_lc (hc : X.calm = true) (hN : X.N.Nodup) (i : Nat) (hy : X.N[i]? = some y) (hyl : X.env.scope.names.lookup y = some .local) (hsw : swapsWith (.ListComp elt [⟨tg, iter, ifs, 0⟩] scope pos) (some (.Name y py)) spos.line X.env = pure true)
    (hi : PI X tg iter (IvR X.K it)) (ok : BlkOk X.N X.env.scope scope own) (hv : own.map (·.2) = vs)
    (hg : ∀ (s : Shared) (H : Hp) (C : Addr) (cl : List (Str × Addr)) (fp : List Addr), PG (X.blk s H scope (compEnvC scope cl C X.env) fp) tg (TgV X.K vs tgt)) (ht : ∀ (s : Shared) (H : Hp) (C : Addr) (cl : List (Str × Addr)) (fp : List Addr), PTs (X.blk s H scope (compEnvC scope cl C X.env) fp) ifs (EvT X.K p t))
    (he : ∀ (s : Shared) (H : Hp) (C : Addr) (cl : List (Str × Addr)) (fp : List Addr), PE (X.blk s H scope (compEnvC scope cl C X.env) fp) elt (EvR X.K q f)) (hs : ∀ x, foldedSetIterable iter X.env x = pure x := by intro _; rfl) :
    PS X (.Assign [.Name y py] (.ListComp elt [⟨tg, iter, ifs, 0⟩] scope pos) spos) (StR X.K fx (setF fx i (frzF (lcF it tgt t f vs)))) := by
  subst hv
  exact s_setC (p := false) (ps_setLc hc hN hy hyl hsw hi ok hg ht he hs) fun _ _ _ h => h.frz_.lc_
theorem s_lcO (hc : X.calm = true) (hN : X.N.Nodup) (i : Nat) (hy : X.N[i]? = some y) (hyl : X.env.scope.names.lookup y = some .local) (hsw : swapsWith (.ListComp elt [⟨tg, iter, ifs, 0⟩] scope pos) (some (.Name y py)) spos.line X.env = pure true)
    (hi : PI X tg iter (IvR X.K it)) (ok : BlkOk X.N X.env.scope scope own) (hv : own.map (·.2) = vs)
    (hg : ∀ (s : Shared) (H : Hp) (C : Addr) (cl : List (Str × Addr)) (fp : List Addr), PG (X.blk s H scope (compEnvC scope cl C X.env) fp) tg (TgV X.K vs tgt)) (ht : ∀ (s : Shared) (H : Hp) (C : Addr) (cl : List (Str × Addr)) (fp : List Addr), PTs (X.blk s H scope (compEnvC scope cl C X.env) fp) ifs (EvT X.K p t))
    (he : ∀ (s : Shared) (H : Hp) (C : Addr) (cl : List (Str × Addr)) (fp : List Addr), PE (X.blk s H scope (compEnvC scope cl C X.env) fp) elt (EvR X.K q f)) (hs : ∀ x, foldedSetIterable iter X.env x = pure x := by intro _; rfl) :
    PS X (.Assign [.Name y py] (.ListComp elt [⟨tg, iter, ifs, 0⟩] scope pos) spos) (StR X.K fx (setF fx i (lcF it tgt t f vs))) := by
  subst hv
  exact s_setC (p := false) (ps_setLc hc hN hy hyl hsw hi ok hg ht he hs) fun _ _ _ h => h.lc_
theorem s_lc2 (hc : X.calm = true) (hN : X.N.Nodup) (i : Nat) (hy : X.N[i]? = some y) (hyl : X.env.scope.names.lookup y = some .local) (hsw : swapsWith (.ListComp elt [⟨tg, iter, ifs, 0⟩, ⟨tg1, iter1, ifs1, 0⟩] scope pos) (some (.Name y py)) spos.line X.env = pure true)
    (hi : PI X tg iter (IvR X.K it)) (ok : BlkOk X.N X.env.scope scope own) (hv : own.map (·.2) = vs) (hv1 : ∀ i ∈ vs1, i ∈ vs)
    (hg : ∀ (s : Shared) (H : Hp) (C : Addr) (cl : List (Str × Addr)) (fp : List Addr), PG (X.blk s H scope (compEnvC scope cl C X.env) fp) tg (TgV X.K vs tgt)) (ht : ∀ (s : Shared) (H : Hp) (C : Addr) (cl : List (Str × Addr)) (fp : List Addr), PTs (X.blk s H scope (compEnvC scope cl C X.env) fp) ifs (EvT X.K p t))
    (hi1 : ∀ (s : Shared) (H : Hp) (C : Addr) (cl : List (Str × Addr)) (fp : List Addr), PI (X.blk s H scope (compEnvC scope cl C X.env) fp) tg1 iter1 (IvR X.K it1))
    (hg1 : ∀ (s : Shared) (H : Hp) (C : Addr) (cl : List (Str × Addr)) (fp : List Addr), PG (X.blk s H scope (compEnvC scope cl C X.env) fp) tg1 (TgV X.K vs1 tgt1)) (ht1 : ∀ (s : Shared) (H : Hp) (C : Addr) (cl : List (Str × Addr)) (fp : List Addr), PTs (X.blk s H scope (compEnvC scope cl C X.env) fp) ifs1 (EvT X.K p1 t1))
    (he : ∀ (s : Shared) (H : Hp) (C : Addr) (cl : List (Str × Addr)) (fp : List Addr), PE (X.blk s H scope (compEnvC scope cl C X.env) fp) elt (EvR X.K q f)) (hs : ∀ x, foldedSetIterable iter X.env x = pure x := by intro _; rfl) (hs1 : ∀ env x, foldedSetIterable iter1 env x = pure x := by intro _ _; rfl) :
    PS X (.Assign [.Name y py] (.ListComp elt [⟨tg, iter, ifs, 0⟩, ⟨tg1, iter1, ifs1, 0⟩] scope pos) spos) (StR X.K fx (setF fx i (frzF (lc2F it tgt t it1 tgt1 t1 f vs vs1)))) := by
  subst hv
  exact s_setC (p := false) (ps_setLc2 hc hN hy hyl hsw hi ok hv1 hg ht hi1 hg1 ht1 he hs hs1) fun _ _ _ h => EvR.lc2_ hv1 h.frz_
end
end Bv
namespace Bv
open PySem PySem.Spec PyProof.Rows L2
/-! ### what a body leans on: a global constant, a def -/
structure GC (K : PySem.W.Frag) (mg : Str → Option Value) (x : Str) (t : PyData) : Prop where
  ex : ∃ v u, mg x = some u ∧ RelV v u ∧ ∀ Z, Rp K Z v t
structure Fct (P : Program) (w : World) (K : PySem.W.Frag) (mg : Str → Option Value) (base : Heap) (k : Nat) (x : Str) (ps : List Str) (n : Nat) (G : Gf) : Prop where
  ex : ∃ f fd, mg x = some (.ref f) ∧ PySem.W.keepIn K (.ref f) = true ∧ Binds K fd ps [] ∧ FnG P w K mg base k f fd ps (SpF K n G)
structure FctK (P : Program) (w : World) (K : PySem.W.Frag) (mg : Str → Option Value) (base : Heap) (k : Nat) (x : Str) (ps ks : List Str) (pm : List Nat) (n : Nat) (G : Gf) : Prop where
  ex : ∃ f fd, mg x = some (.ref f) ∧ PySem.W.keepIn K (.ref f) = true ∧ KwB K fd ps ks pm ∧ FnG P w K mg base k f fd ps (SpF K n G)
section
variable {X : Cx} {x : Str} {pos p : Pos} {k : Nat} {ps ks : List Str} {n : Nat} {G : Gf} {e : Expr} {es : List Expr} {fa : Eva} {pa : Bool} {t : PyData} {pm : List Nat} {kws : List Keyword} {q : Bool}
theorem e_gc (h : GC X.K X.mg x t) (hg : Gl X x) (hd : (x == ("__debug__" : Str)) = false := by decide) : PE X (.Name x pos) (EvR X.K true (cF t)) := by
  obtain ⟨v, u, hm, r, hr⟩ := h.ex
  exact e_glob hg hm r hr hd
theorem e_def (C : Fct X.prog X.w X.K X.mg X.base k x ps n G) (hn : ∀ os o os', G os = some (o, os') → os.length = n ∧ os'.length = n) (hr : Room k X.A) (hgd : X.A.guards = some []) (hg : Gl X x) (ha : PA X (e :: es) (EvA X.K pa fa))
    (hdb : (x == ("__debug__" : Str)) = false := by decide) (he : starEach (e :: es) X.env = (false, eval e X.env) :: starEach es X.env := by rfl) (hpl : (backTo pos (starEach es X.env)).any (·.1) = false := by rfl) : PE X (.Call (.Name x p) (e :: es) [] pos) (EvR X.K false (callF G fa)) := by
  obtain ⟨f, fd, hm, hk, hb, F⟩ := C.ex
  exact e_call F hn hr hgd hg hm hk hb ha hdb he hpl
theorem e_defK (C : FctK X.prog X.w X.K X.mg X.base k x ps ks pm n G) (hn : ∀ os o os', G os = some (o, os') → os.length = n ∧ os'.length = n) (hr : Room k X.A) (hgd : X.A.guards = some []) (hg : Gl X x) (hkw : PK X kws (EvA X.K q fa)) (hlen : ∀ fr x, fa fr = some x → x.1.length = ks.length)
    (hall : (backToKw pos (keywordEach kws X.env)).all (·.1.isSome) = true := by rfl) (hks : (backToKw pos (keywordEach kws X.env)).filterMap (·.1) = ks := by rfl) (hdb : (x == ("__debug__" : Str)) = false := by decide) (hpl : ((backToKw pos (keywordEach kws X.env)).any (·.1.isNone)) = false := by rfl) :
    PE X (.Call (.Name x p) [] kws pos) (EvR X.K false (kcF G pm fa)) := by
  obtain ⟨f, fd, hm, hk, hb, F⟩ := C.ex
  exact e_callK F hn hr hgd hg hm hk hb hkw hlen hall hks hdb hpl
end
theorem bo_len : bootBuiltins "len" = some (.builtin "len") := by decide +kernel
theorem bo_repr : bootBuiltins "repr" = some (.builtin "repr") := by decide +kernel
theorem bo_sorted : bootBuiltins "sorted" = some (.builtin "sorted") := by decide +kernel
theorem bo_all : bootBuiltins "all" = some (.builtin "all") := by decide +kernel
theorem bo_any : bootBuiltins "any" = some (.builtin "any") := by decide +kernel
theorem bo_list : bootBuiltins "list" = some (.type "list") := by decide +kernel
theorem bo_tuple : bootBuiltins "tuple" = some (.type "tuple") := by decide +kernel
theorem bo_set : bootBuiltins "set" = some (.type "set") := by decide +kernel
theorem bo_str : bootBuiltins "str" = some (.type "str") := by decide +kernel
theorem bo_int : bootBuiltins "int" = some (.type "int") := by decide +kernel
theorem bo_bool : bootBuiltins "bool" = some (.type "bool") := by decide +kernel
theorem bo_dict : bootBuiltins "dict" = some (.type "dict") := by decide +kernel
end Bv
set_option Elab.async false
set_option linter.all false
set_option maxRecDepth 100000
/-! BvD: the deck of the laws, by value. -/
namespace Bv
open PySem PySem.Spec PyProof.Rows L2

/-! ### small facts about single operations -/
section
variable {a b : O} {i j : Int} {fr : Fr}
theorem mul_ii (h1 : i.natAbs < 2 ^ 200) (h2 : j.natAbs < 2 ^ 200) : mulO (.d (.int i)) (.d (.int j)) = some (.d (.int (i * j))) := by
  have l : ∀ n : Nat, n < 2 ^ 200 → n.log2 < 200 := fun n h => by
    by_cases h0 : n = 0
    · subst h0; decide
    · exact (Nat.log2_lt h0).mpr h
  have a1 := l _ h1
  have a2 := l _ h2
  show (if _ then _ else _) = _
  rw [if_pos (by omega)]
theorem mod_ii (h : 0 < j) : modO (.d (.int i)) (.d (.int j)) = some (.d (.int (i % j))) := by
  show (if _ then _ else _) = _
  rw [if_pos h]
theorem div_ii (h : 0 < j) (h2 : j.natAbs < 2 ^ 200) : divO (.d (.int i)) (.d (.int j)) = some (.d (.int (i / j))) := by
  have l : j.natAbs.log2 < 200 := (Nat.log2_lt (by omega)).mpr h2
  show (if _ then _ else _) = _
  rw [if_pos ⟨h, by omega⟩]
theorem add_ii : addO (.d (.int i)) (.d (.int j)) = some (.d (.int (i + j))) := rfl
theorem bin_dd {pb : Bool} {g : O → O → Option O} {fa fb : Ev} {x y : PyData} {o : O} {fr1 fr2 : Fr} (ha : fa fr = some (.own (.d x), fr1)) (hb : fb fr1 = some (.own (.d y), fr2)) (hg : g (.d x) (.d y) = some o) : bin pb (two g) fa fb fr = some (.own o, fr2) := by
  unfold bin opF consF
  rw [ha]
  simp only [Option.bind_some, consF, nilF, hb, Rs.stable, Bool.or_true, if_true, List.map_cons, List.map_nil, Rs.o, two, hg]
end
def intsO (cells : List Int) : List O := cells.map fun i => .d (.int i)
def deckO (cells : List Int) (mixed count : Int) : O := .l [.l (intsO cells), .d (.int mixed), .d (.int count)]
theorem ints_lay : ∀ cells : List Int, PyData.canLayAll0 (O.datas (intsO cells)) = true
  | [] => rfl
  | c :: cs => by
    show (PyData.canLay0 (.int c) && PyData.canLayAll0 (O.datas (intsO cs))) = true
    rw [ints_lay cs]; simp [PyData.canLay0]
theorem ints_pl : ∀ cells : List Int, O.pls (intsO cells) = true
  | [] => rfl
  | c :: cs => by
    show (true && O.pls (intsO cs)) = true
    rw [ints_pl cs]; rfl
theorem ints_ne (cells : List Int) : eqA true (.l (intsO cells)) (.l []) = some (.d (.bool (!cells.isEmpty))) := by
  show eqO true (.l (intsO cells)) (.l []) = _
  unfold eqO
  rw [if_pos]
  · cases cells with
    | nil => simp [O.data, O.datas, intsO, PyData.eqv, PyData.eqvAll]
    | cons c cs => simp [O.data, O.datas, intsO, PyData.eqv, PyData.eqvAll]
  · refine ⟨ints_pl cells, rfl, ?_, by simp [O.data, O.datas, PyData.canLay0, PyData.canLayAll0], ?_⟩
    · show PyData.canLay0 (.list _) = true
      rw [PyData.canLay0]; exact ints_lay cells
    · simp [O.data, O.datas, PyData.depth, PyData.depthAll]
def numF : Sts → Sts := fun k => (seqF (setF [0] 3 (bin true (two modO) (bin true (two mulO) (bin true (two addO) (bin true (two addO) (bin true (two modO) (datF 2) (cF (.int 2147483629))) (bin true (two mulO) (cF (.int 15485863)) (bpF 0 [2]))) (cF (.int 101))) (cF (.int 48271))) (cF (.int 2147483647))))
  (seqF (setF [0] 3 (bin true (two modO) (bin true (two addO) (bin true (two addO) (bin true (two mulO) (datF 3) (datF 3)) (bin true (two mulO) (cF (.int 40503)) (bpF 0 [2]))) (cF (.int 19))) (cF (.int 2147483587)))) k))
def bDraw : Sts := (seqF (putF 0 [] (cF (.int 2)) (frzF (bin true (two addO) (bpF 0 [2]) (cF (.int 1)))))
  (seqF (setF [0] 2 (bpF 0 [1]))
  (seqF (iffF (tstF (bin true (two (eqA true)) (bpF 0 [0]) (lstF nilF))) (seqF (setF [0] 2 (popF 0 [0]))
  (seqF (iffF (tstF (bin true (two geO) (datF 2) (bin true (two powO) (cF (.int 10)) (cF (.int 18))))) (seqF (drpF (mthF 0 [0] appG (bin true (two divO) (datF 2) (datF 1))))
  (retF (bin true (two modO) (datF 2) (datF 1)))) nxF)
  (setF [0] 2 (frzF (bin true (two addO) (datF 2) (bpF 0 [1])))))) nxF)
  (numF (retF (bin true (two modO) (bin true (two divO) (bin true (two modO) (bin true (two mulO) (datF 3) (bin true (two addO) (bin true (two divO) (datF 3) (cF (.int 5))) (cF (.int 39373)))) (cF (.int 2147483563))) (cF (.int 64))) (datF 1)))))))
def GDraw : Gf := gOf 2 4 [0] bDraw
section
variable {fx : List Nat} {i : Nat} {f : Ev} {g k : Sts} {fr fr1 : Fr} {o : O}
theorem set_ok (h : f fr = some (.own o, fr1)) (hi : i ∉ fx) : setF fx i f fr = some (.nx, fr1.set i (some o)) := by
  unfold setF
  rw [h]
  show (if i ∈ fx then none else some (Fl.nx, fr1.set i (some o))) = _
  rw [if_neg hi]
theorem seq_nx (h : g fr = some (.nx, fr1)) : seqF g k fr = k fr1 := by
  unfold seqF
  rw [h]
  rfl
theorem seq_rt (h : g fr = some (.rt o, fr1)) : seqF g k fr = some (.rt o, fr1) := by
  unfold seqF
  rw [h]
  rfl
theorem ret_ok (h : f fr = some (.own o, fr1)) : retF f fr = some (.rt o, fr1) := by
  unfold retF
  rw [h]
  rfl
theorem frz_ok {t : PyData} (h : f fr = some (.own (.d t), fr1)) : frzF f fr = some (.own (.d t), fr1) := by
  unfold frzF
  rw [h]
  rfl
theorem frz_l {os : List O} (h : f fr = some (.own (.l os), fr1)) (hp : O.pls os = true) : frzF f fr = some (.own (.d (.list (O.datas os))), fr1) := by
  unfold frzF
  rw [h]
  show (if O.pls os = true then _ else _) = _
  rw [if_pos hp]
  rfl
theorem if_true' {c : Evt} (h : c fr = some (true, fr1)) : iffF c g k fr = g fr1 := by
  unfold iffF
  rw [h]
  rfl
theorem if_false' {c : Evt} (h : c fr = some (false, fr1)) : iffF c g k fr = k fr1 := by
  unfold iffF
  rw [h]
  rfl
theorem tst_ok {b : Bool} (h : f fr = some (.own (.d (.bool b)), fr1)) : tstF f fr = some (b, fr1) := by
  unfold tstF
  rw [h]
  rfl
end
theorem natAbs_lt {y : Int} {m : Nat} (h0 : 0 ≤ y) (h : y < 2 ^ m) (hm : m ≤ 200) : y.natAbs < 2 ^ 200 := by
  have h1 : (2 : Nat) ^ m ≤ 2 ^ 200 := Nat.pow_le_pow_right (by decide) hm
  have h2 : (y.natAbs : Int) = y := Int.natAbs_of_nonneg h0
  have h3 : (y.natAbs : Int) < ((2 ^ m : Nat) : Int) := by
    rw [h2, Int.natCast_pow]; exact h
  have h4 : y.natAbs < 2 ^ m := by exact Int.ofNat_lt.mp h3
  omega
theorem num_ok (cells : List Int) (mixed count cell many : Int) (x : Option O) (k : Sts) (hc : 0 ≤ count) (hc2 : count < 2 ^ 60) :
    ∃ n : Int, 0 ≤ n ∧ n < 2147483587 ∧ numF k [some (deckO cells mixed count), some (.d (.int many)), some (.d (.int cell)), x] = k [some (deckO cells mixed count), some (.d (.int many)), some (.d (.int cell)), some (.d (.int n))] := by
  have p1 : 0 ≤ cell % 2147483629 := Int.emod_nonneg _ (by decide)
  have p2 : cell % 2147483629 < 2147483629 := Int.emod_lt_of_pos _ (by decide)
  have b1 : (cell % 2147483629 + 15485863 * count + 101).natAbs < 2 ^ 200 := natAbs_lt (m := 100) (by omega) (by omega) (by decide)
  have b2 : count.natAbs < 2 ^ 200 := natAbs_lt (m := 60) hc hc2 (by decide)
  generalize hn1 : (cell % 2147483629 + 15485863 * count + 101) * 48271 % 2147483647 = n1
  have q1 : 0 ≤ n1 := by rw [← hn1]; exact Int.emod_nonneg _ (by decide)
  have q2 : n1 < 2147483647 := by rw [← hn1]; exact Int.emod_lt_of_pos _ (by decide)
  have b3 : n1.natAbs < 2 ^ 200 := natAbs_lt (m := 31) q1 (by omega) (by decide)
  refine ⟨(n1 * n1 + 40503 * count + 19) % 2147483587, Int.emod_nonneg _ (by decide), Int.emod_lt_of_pos _ (by decide), ?_⟩
  unfold numF
  rw [seq_nx (set_ok (bin_dd (bin_dd (bin_dd (bin_dd (bin_dd rfl rfl (mod_ii (by decide))) (bin_dd rfl rfl (mul_ii (by decide) b2)) add_ii) rfl add_ii) rfl (mul_ii b1 (by decide))) rfl (mod_ii (by decide))) (by decide))]
  rw [hn1]
  rw [seq_nx (set_ok (bin_dd (bin_dd (bin_dd (bin_dd rfl rfl (mul_ii b3 b3)) (bin_dd rfl rfl (mul_ii (by decide) b2)) add_ii) rfl add_ii) rfl (mod_ii (by decide))) (by decide))]
  rfl
theorem bin_ok {pb : Bool} {g : O → O → Option O} {fa fb : Ev} {ra rb : Rs} {o : O} {fr fr1 fr2 : Fr} (ha : fa fr = some (ra, fr1)) (hb : fb fr1 = some (rb, fr2)) (hg : g ra.o rb.o = some o) (hs : (pb || ra.stable) = true := by rfl) : bin pb (two g) fa fb fr = some (.own o, fr2) := by
  unfold bin opF consF
  rw [ha]
  simp only [Option.bind_some, consF, nilF, hb, hs, Bool.true_or, if_true, List.map_cons, List.map_nil, two, hg]
theorem drp_ok {f : Ev} {o : O} {fr fr1 : Fr} (h : f fr = some (.own o, fr1)) : drpF f fr = some (.nx, fr1) := by
  unfold drpF
  rw [h]
  rfl
theorem ints_pop (L : List Int) (c : Int) : (intsO (L ++ [c]))[(intsO (L ++ [c])).length - 1]? = some (.d (.int c)) ∧ (intsO (L ++ [c])).eraseIdx ((intsO (L ++ [c])).length - 1) = intsO L := by
  have e : intsO (L ++ [c]) = intsO L ++ [.d (.int c)] := by unfold intsO; rw [List.map_append]; rfl
  rw [e]
  refine ⟨by simp, ?_⟩
  rw [drop_last]
  simp
theorem deck_pop (L : List Int) (c mixed count : Int) (fr : Fr) : popF 0 [0] (some (deckO (L ++ [c]) mixed count) :: fr) = some (.own (.d (.int c)), some (deckO L mixed count) :: fr) := by
  obtain ⟨e1, e2⟩ := ints_pop L c
  unfold popF deckO
  show ((O.get [0] (.l [.l (intsO (L ++ [c])), .d (.int mixed), .d (.int count)])).bind _) = _
  rw [show O.get [0] (.l [.l (intsO (L ++ [c])), .d (.int mixed), .d (.int count)]) = some (.l (intsO (L ++ [c]))) from rfl]
  simp only [Option.bind_some, e1, e2]
  rfl
theorem deck_app (L : List Int) (c mixed count : Int) (fr fr' : Fr) (f : Ev) (hl : L.length < sizeLine) (hf : f (some (deckO L mixed count) :: fr) = some (.own (.d (.int c)), some (deckO L mixed count) :: fr')) : mthF 0 [0] appG f (some (deckO L mixed count) :: fr) = some (.own (.d .none), some (deckO (L ++ [c]) mixed count) :: fr') := by
  have e : intsO (L ++ [c]) = intsO L ++ [.d (.int c)] := by unfold intsO; rw [List.map_append]; rfl
  unfold mthF
  show ((O.get [0] (deckO L mixed count)).bind _) = _
  rw [show O.get [0] (deckO L mixed count) = some (.l (intsO L)) from rfl]
  simp only [Option.bind_some, hf]
  show ((O.get [0] (deckO L mixed count)).bind _) = _
  rw [show O.get [0] (deckO L mixed count) = some (.l (intsO L)) from rfl]
  simp only [Option.bind_some]
  unfold appG
  rw [if_pos (by unfold intsO; rw [List.length_map]; exact hl)]
  simp only [Option.bind_some]
  rw [← e]
  rfl
theorem g_rt {n m : Nat} {fx : List Nat} {b : Sts} {os : List O} {o : O} {fr : Fr} (hl : os.length = n) (h : b (os.map some ++ List.replicate (m - n) none) = some (.rt o, fr)) : gOf n m fx b os = some (o, mskN fx 0 n fr) := by
  unfold gOf defF
  rw [if_pos hl, h]
  rfl
/-- a deck after at most n draws -/
def Dk (n : Nat) (o : O) : Prop := ∃ cells mixed count, o = deckO cells mixed count ∧ cells.length < 1000 ∧ 0 ≤ count ∧ count ≤ (n : Nat)
theorem draw_ok {n : Nat} {o : O} (d : Dk n o) (hn : n < 2 ^ 50) {many : Int} (h0 : 0 < many) (h1 : many < 2 ^ 60) : ∃ r o', GDraw [o, .d (.int many)] = some (.d (.int r), [some o', none]) ∧ 0 ≤ r ∧ r < many ∧ Dk (n + 1) o' := by
  obtain ⟨cells, mixed, count, rfl, hcl, hc0, hc1⟩ := d
  have hmb : many.natAbs < 2 ^ 200 := natAbs_lt (m := 60) (by omega) h1 (by decide)
  have s1 : putF 0 [] (cF (.int 2)) (frzF (bin true (two addO) (bpF 0 [2]) (cF (.int 1)))) [some (deckO cells mixed count), some (.d (.int many)), none, none] = some (.nx, [some (deckO cells mixed (count + 1)), some (.d (.int many)), none, none]) := rfl
  have s2 : setF [0] 2 (bpF 0 [1]) [some (deckO cells mixed (count + 1)), some (.d (.int many)), none, none] = some (.nx, [some (deckO cells mixed (count + 1)), some (.d (.int many)), some (.d (.int mixed)), none]) := rfl
  have tl : ∀ (cs : List Int) (cell : Int), cs.length < 1000 → ∃ r o', numF (retF (bin true (two modO) (bin true (two divO) (bin true (two modO) (bin true (two mulO) (datF 3) (bin true (two addO) (bin true (two divO) (datF 3) (cF (.int 5))) (cF (.int 39373)))) (cF (.int 2147483563))) (cF (.int 64))) (datF 1)))
      [some (deckO cs mixed (count + 1)), some (.d (.int many)), some (.d (.int cell)), none] = some (.rt (.d (.int r)), o') ∧ 0 ≤ r ∧ r < many ∧ ∃ rest, o' = some (deckO cs mixed (count + 1)) :: rest := fun cs cell _ => by
    obtain ⟨m, m0, m1, e⟩ := num_ok cs mixed (count + 1) cell many none (retF (bin true (two modO) (bin true (two divO) (bin true (two modO) (bin true (two mulO) (datF 3) (bin true (two addO) (bin true (two divO) (datF 3) (cF (.int 5))) (cF (.int 39373)))) (cF (.int 2147483563))) (cF (.int 64))) (datF 1))) (by omega) (by omega)
    have b1 : m.natAbs < 2 ^ 200 := natAbs_lt (m := 31) m0 (by omega) (by decide)
    have b2 : (m / 5 + 39373).natAbs < 2 ^ 200 := natAbs_lt (m := 32) (by omega) (by omega) (by decide)
    refine ⟨m * (m / 5 + 39373) % 2147483563 / 64 % many, [some (deckO cs mixed (count + 1)), some (.d (.int many)), some (.d (.int cell)), some (.d (.int m))], ?_, Int.emod_nonneg _ (by omega), Int.emod_lt_of_pos _ h0, _, rfl⟩
    rw [e]
    exact ret_ok (bin_dd (bin_dd (bin_dd (bin_dd rfl (bin_dd (bin_dd rfl rfl (div_ii (by decide) (by decide))) rfl add_ii) (mul_ii b1 b2)) rfl (mod_ii (by decide))) rfl (div_ii (by decide) (by decide))) rfl (mod_ii h0))
  have fin : ∀ (r : Int) (cs : List Int) (rest : Fr), cs.length < 1000 → 0 ≤ r → r < many → bDraw [some (deckO cells mixed count), some (.d (.int many)), none, none] = some (.rt (.d (.int r)), some (deckO cs mixed (count + 1)) :: rest) →
      ∃ r o', GDraw [deckO cells mixed count, .d (.int many)] = some (.d (.int r), [some o', none]) ∧ 0 ≤ r ∧ r < many ∧ Dk (n + 1) o' := fun r cs rest hl r0 r1 e => by
    refine ⟨r, deckO cs mixed (count + 1), ?_, r0, r1, cs, mixed, count + 1, rfl, hl, by omega, by omega⟩
    exact (g_rt (os := [deckO cells mixed count, .d (.int many)]) rfl e).trans (by cases rest <;> rfl)
  rcases List.eq_nil_or_concat cells with hcs | ⟨L, c, hcs⟩
  · obtain ⟨r, o', e, r0, r1, rest, e2⟩ := tl cells mixed hcl
    subst e2
    refine fin r cells rest hcl r0 r1 ?_
    unfold bDraw
    rw [seq_nx s1, seq_nx s2, seq_nx (if_false' (fr1 := [some (deckO cells mixed (count + 1)), some (.d (.int many)), some (.d (.int mixed)), none]) (tst_ok (bin_ok (ra := .bor (.l (intsO cells))) (rb := .own (.l [])) rfl rfl (by rw [hcs]; exact ints_ne [])))), e]
  · rw [List.concat_eq_append] at hcs
    have hL : L.length < 1000 := by rw [hcs, List.length_append, List.length_singleton] at hcl; omega
    have t1 : tstF (bin true (two (eqA true)) (bpF 0 [0]) (lstF nilF)) [some (deckO cells mixed (count + 1)), some (.d (.int many)), some (.d (.int mixed)), none] = some (true, [some (deckO cells mixed (count + 1)), some (.d (.int many)), some (.d (.int mixed)), none]) :=
      tst_ok (bin_ok (ra := .bor (.l (intsO cells))) (rb := .own (.l [])) rfl rfl ((ints_ne cells).trans (by rw [hcs]; simp)))
    have s3 : setF [0] 2 (popF 0 [0]) [some (deckO cells mixed (count + 1)), some (.d (.int many)), some (.d (.int mixed)), none] = some (.nx, [some (deckO L mixed (count + 1)), some (.d (.int many)), some (.d (.int c)), none]) := by
      rw [hcs]
      exact set_ok (deck_pop L c mixed (count + 1) _) (by decide)
    have t2 : tstF (bin true (two geO) (datF 2) (bin true (two powO) (cF (.int 10)) (cF (.int 18)))) [some (deckO L mixed (count + 1)), some (.d (.int many)), some (.d (.int c)), none] = some (decide ((10 : Int) ^ 18 ≤ c), [some (deckO L mixed (count + 1)), some (.d (.int many)), some (.d (.int c)), none]) :=
      tst_ok (bin_dd rfl (bin_dd rfl rfl rfl) rfl)
    by_cases hc : (10 : Int) ^ 18 ≤ c
    · rw [decide_eq_true hc] at t2
      refine fin (c % many) (L ++ [c / many]) [some (.d (.int many)), some (.d (.int c)), none] (by rw [List.length_append, List.length_singleton]; rw [hcs, List.length_append, List.length_singleton] at hcl; exact hcl) (Int.emod_nonneg _ (by omega)) (Int.emod_lt_of_pos _ h0) ?_
      unfold bDraw
      rw [seq_nx s1, seq_nx s2]
      refine seq_rt ?_
      rw [if_true' t1, seq_nx s3]
      refine seq_rt ?_
      rw [if_true' t2, seq_nx (drp_ok (deck_app L (c / many) mixed (count + 1) _ _ _ (Nat.lt_trans hL (by decide)) (bin_dd rfl rfl (div_ii h0 hmb))))]
      exact ret_ok (bin_dd rfl rfl (mod_ii h0))
    · rw [decide_eq_false hc] at t2
      obtain ⟨r, o', e, r0, r1, rest, e2⟩ := tl L (c + mixed) hL
      subst e2
      refine fin r L rest hL r0 r1 ?_
      unfold bDraw
      have s4 : iffF (tstF (bin true (two (eqA true)) (bpF 0 [0]) (lstF nilF))) (seqF (setF [0] 2 (popF 0 [0]))
          (seqF (iffF (tstF (bin true (two geO) (datF 2) (bin true (two powO) (cF (.int 10)) (cF (.int 18))))) (seqF (drpF (mthF 0 [0] appG (bin true (two divO) (datF 2) (datF 1)))) (retF (bin true (two modO) (datF 2) (datF 1)))) nxF)
          (setF [0] 2 (frzF (bin true (two addO) (datF 2) (bpF 0 [1])))))) nxF [some (deckO cells mixed (count + 1)), some (.d (.int many)), some (.d (.int mixed)), none] = some (.nx, [some (deckO L mixed (count + 1)), some (.d (.int many)), some (.d (.int (c + mixed))), none]) := by
        rw [if_true' t1, seq_nx s3, seq_nx (by rw [if_false' t2]; rfl)]
        rfl
      rw [seq_nx s1, seq_nx s2, seq_nx s4, e]
end Bv
set_option Elab.async false
set_option linter.all false
set_option maxRecDepth 100000
/-! BvL: evaluating bodies: loops, calls, comprehensions; the deck made, a thing drawn. -/
namespace Bv
open PySem PySem.Spec PyProof.Rows L2

section
variable {fr fr1 fr2 : Fr} {f fa fb : Ev} {fs : Eva} {r : Rs} {rs : List Rs} {o y : O} {os : List O} {g : O → Option O} {pb : Bool} {G : Gf} {os' : List (Option O)}
theorem a_ok {rs2 : List Rs} (ha : fa fr = some (r, fr1)) (hb : fs fr1 = some (rs2, fr2)) (hs : (pb || r.stable) = true := by rfl) : consF pb fa fs fr = some (r :: rs2, fr2) := by
  unfold consF
  rw [ha]
  simp only [Option.bind_some, hs, if_true, hb]
theorem n_ok : nilF fr = some ([], fr) := rfl
theorem op1_ok (ha : fa fr = some (r, fr1)) (hg : g r.o = some o) : opF (one g) (consF true fa nilF) fr = some (.own o, fr1) := by
  unfold opF
  rw [a_ok ha n_ok rfl]
  show (Option.bind (g r.o) _) = _
  rw [hg]
  rfl
theorem una_ok (ha : fa fr = some (r, fr1)) (hg : g r.o = some o) : una (one g) fa fr = some (.own o, fr1) := op1_ok ha hg
theorem call_ok (ha : fs fr = some (rs, fr1)) (hG : G (rs.map Rs.o) = some (y, os')) (hs : rs.all Rs.stable = true := by rfl) : callF G fs fr = some (.own y, putB rs os' fr1) := by
  unfold callF
  rw [ha]
  simp only [Option.bind_some, hs, if_true, hG]
theorem tup_ok {ts : List PyData} (ha : fs fr = some (ts.map fun t => .own (.d t), fr1)) (hl : ts.length ≤ sizeLine) : opF tupO fs fr = some (.own (.d (.tuple ts)), fr1) := by
  unfold opF
  rw [ha]
  simp only [Option.bind_some, List.map_map]
  show (Option.bind (tupO (ts.map O.d)) _) = _
  unfold tupO
  rw [allD_map]
  simp only [Option.bind_some, hl, if_true]
theorem lst_ok {os : List O} (ha : fs fr = some (os.map Rs.own, fr1)) (hl : os.length ≤ sizeLine) : lstF fs fr = some (.own (.l os), fr1) := by
  have e : allOwn (os.map Rs.own) = some os := by
    clear ha hl
    induction os with
    | nil => rfl
    | cons o os ih =>
      show ((allOwn (os.map Rs.own)).bind fun us => some (o :: us)) = _
      rw [ih]
      rfl
  unfold lstF
  rw [ha]
  simp only [Option.bind_some, e, hl, if_true]
theorem cutH_ok {j : Int} (ha : fa fr = some (r, fr1)) (hb : fb fr1 = some (.own (.d (.int j)), fr2)) (hg : slO none (some j) r.o = some o) (hs : (pb || r.stable) = true := by rfl) : cutH pb fa fb fr = some (.own o, fr2) := by
  unfold cutH opF
  rw [a_ok ha (a_ok (r := .own (.d (.int j))) (by unfold intF; rw [hb]; rfl) n_ok rfl) hs]
  show (Option.bind (slH [r.o, .d (.int j)]) _) = _
  show (Option.bind (slO none (some j) r.o) _) = _
  rw [hg]
  rfl
theorem cutLH_ok {fc : Ev} {pc : Bool} {fr3 : Fr} {i j : Int} (ha : fa fr = some (r, fr1)) (hb : fb fr1 = some (.own (.d (.int i)), fr2)) (hc : fc fr2 = some (.own (.d (.int j)), fr3)) (hg : slO (some i) (some j) r.o = some o) (hs : ((pb && pc) || r.stable) = true := by rfl) : cutLH pb pc fa fb fc fr = some (.own o, fr3) := by
  unfold cutLH opF
  rw [a_ok ha (a_ok (r := .own (.d (.int i))) (by unfold intF; rw [hb]; rfl) (a_ok (r := .own (.d (.int j))) (by unfold intF; rw [hc]; rfl) n_ok rfl) (by cases pc <;> rfl)) hs]
  show (Option.bind (slO (some i) (some j) r.o) _) = _
  rw [hg]
  rfl
theorem frzO_ok {o : O} (h : f fr = some (.own o, fr1)) (hp : o.pl = true) : frzF f fr = some (.own (.d o.data), fr1) := by
  unfold frzF
  rw [h]
  show (if o.pl = true then _ else _) = _
  rw [if_pos hp]
end
theorem pls_d (ts : List PyData) : O.pls (ts.map O.d) = true := by
  induction ts with
  | nil => rfl
  | cons t ts ih => show (true && O.pls (ts.map O.d)) = true; rw [ih]; rfl
theorem frz_ld {f : Ev} {fr fr1 : Fr} {ts : List PyData} (h : f fr = some (.own (.l (ts.map O.d)), fr1)) : frzF f fr = some (.own (.d (.list ts)), fr1) := by
  have := frzO_ok h (pls_d ts)
  rw [this]
  show some (Rs.own (.d (.list (O.datas (ts.map O.d)))), fr1) = _
  rw [O.datas_d]
/-! ### loops -/
theorem forL_ok {tgt : PyData → Fr → Option Fr} {body : Sts} (P : List PyData → Fr → Prop) (step : ∀ t ts fr, P (t :: ts) fr → ∃ fr1 fr2, tgt t fr = some fr1 ∧ body fr1 = some (.nx, fr2) ∧ P ts fr2) : ∀ ts fr, P ts fr → ∃ fr', forL tgt body ts fr = some (.nx, fr') ∧ P [] fr'
  | [], fr, h => ⟨fr, rfl, h⟩
  | t :: ts, fr, h => by
    obtain ⟨fr1, fr2, e1, e2, h2⟩ := step t ts fr h
    obtain ⟨fr', e3, h3⟩ := forL_ok P step ts fr2 h2
    refine ⟨fr', ?_, h3⟩
    unfold forL
    rw [e1]
    simp only [Option.bind_some, e2]
    exact e3
theorem for_ok {it : Evi} {tgt : PyData → Fr → Option Fr} {body : Sts} {fr fr1 : Fr} {ts : List PyData} (hi : it fr = some (ts, fr1)) (P : List PyData → Fr → Prop) (h0 : P ts fr1) (step : ∀ t ts fr, P (t :: ts) fr → ∃ fr1 fr2, tgt t fr = some fr1 ∧ body fr1 = some (.nx, fr2) ∧ P ts fr2) :
    ∃ fr', forF it tgt body fr = some (.nx, fr') ∧ P [] fr' := by
  obtain ⟨fr', e, h⟩ := forL_ok P step ts fr1 h0
  refine ⟨fr', ?_, h⟩
  unfold forF
  rw [hi]
  exact e
/-- a comprehension whose element and test leave the frame as it was: what it gathers -/
theorem lcL_fm {tgt : PyData → Fr → Option Fr} {tst : Evt} {elt : Ev} {vs : List Nat} {fr0 : Fr} (g : PyData → Option PyData) : ∀ (ts : List PyData) (acc : List O),
    (∀ t ∈ ts, ∃ fr1 fr2, tgt t fr0 = some fr1 ∧ match g t with
      | some d => (∃ fr3, tst fr1 = some (true, fr3) ∧ elt fr3 = some (.own (.d d), fr2)) ∧ wipF fr2 vs = fr0
      | none => tst fr1 = some (false, fr2) ∧ wipF fr2 vs = fr0) →
    acc.length + ts.length ≤ sizeLine → lcL tgt tst elt vs ts acc fr0 = some (acc ++ (ts.filterMap g).map O.d, fr0)
  | [], acc, _, _ => by simp [lcL]
  | t :: ts, acc, h, hl => by
    obtain ⟨fr1, fr2, e1, e2⟩ := h t List.mem_cons_self
    have hl' : acc.length + (ts.length + 1) ≤ sizeLine := hl
    unfold lcL
    rw [e1]
    simp only [Option.bind_some]
    cases eg : g t with
    | none =>
      rw [eg] at e2
      obtain ⟨e2, e3⟩ := e2
      rw [e2]
      simp only [Option.bind_some, if_neg (show ¬ (false = true) by decide), e3]
      rw [lcL_fm g ts acc (fun t m => h t (List.mem_cons_of_mem _ m)) (by omega), List.filterMap_cons, eg]
    | some d =>
      rw [eg] at e2
      obtain ⟨⟨fr3, e2, e4⟩, e3⟩ := e2
      rw [e2]
      simp only [Option.bind_some, if_pos]
      rw [e4]
      simp only [Option.bind_some]
      rw [if_pos (by omega), e3, lcL_fm g ts (acc ++ [O.d d]) (fun t m => h t (List.mem_cons_of_mem _ m)) (by rw [List.length_append, List.length_singleton]; omega), List.filterMap_cons, eg]
      simp
theorem lc_ok {it : Evi} {tgt : PyData → Fr → Option Fr} {tst : Evt} {elt : Ev} {vs : List Nat} {fr fr1 : Fr} {ts : List PyData} (g : PyData → Option PyData) (hi : it fr = some (ts, fr1))
    (h : ∀ t ∈ ts, ∃ fr2 fr3, tgt t (wipF fr1 vs) = some fr2 ∧ match g t with
      | some d => (∃ fr4, tst fr2 = some (true, fr4) ∧ elt fr4 = some (.own (.d d), fr3)) ∧ wipF fr3 vs = wipF fr1 vs
      | none => tst fr2 = some (false, fr3) ∧ wipF fr3 vs = wipF fr1 vs) (hl : ts.length ≤ sizeLine) :
    lcF it tgt tst elt vs fr = some (.own (.l ((ts.filterMap g).map O.d)), wipF fr1 vs) := by
  unfold lcF
  rw [hi]
  simp only [Option.bind_some]
  rw [lcL_fm g ts [] h (by simpa using hl)]
  rfl
/-- .. whose element changes the frame: from one state to the next -/
theorem lcL_st {tgt : PyData → Fr → Option Fr} {elt : Ev} {vs : List Nat} (P : List PyData → List PyData → Fr → Prop) (step : ∀ t ts acc fr, P (t :: ts) acc fr → ∃ fr1 fr2 d, tgt t fr = some fr1 ∧ elt fr1 = some (.own (.d d), fr2) ∧ P ts (acc ++ [d]) (wipF fr2 vs)) : ∀ (ts acc : List PyData) (fr : Fr),
    P ts acc fr → acc.length + ts.length ≤ sizeLine → ∃ acc' fr', lcL tgt yesF elt vs ts (acc.map O.d) fr = some (acc'.map O.d, fr') ∧ P [] acc' fr'
  | [], acc, fr, h, _ => ⟨acc, fr, rfl, h⟩
  | t :: ts, acc, fr, h, hl => by
    have hl' : acc.length + (ts.length + 1) ≤ sizeLine := hl
    obtain ⟨fr1, fr2, d, e1, e2, h2⟩ := step t ts acc fr h
    obtain ⟨acc', fr', e3, h3⟩ := lcL_st P step ts (acc ++ [d]) (wipF fr2 vs) h2 (by rw [List.length_append, List.length_singleton]; omega)
    refine ⟨acc', fr', ?_, h3⟩
    unfold lcL
    rw [e1]
    simp only [Option.bind_some, yesF, if_pos]
    rw [e2]
    simp only [Option.bind_some]
    rw [if_pos (by rw [List.length_map]; omega)]
    rw [List.map_append] at e3
    exact e3
theorem lcS_ok {it : Evi} {tgt : PyData → Fr → Option Fr} {elt : Ev} {vs : List Nat} {fr fr1 : Fr} {ts : List PyData} (hi : it fr = some (ts, fr1)) (P : List PyData → List PyData → Fr → Prop) (h0 : P ts [] (wipF fr1 vs))
    (step : ∀ t ts acc fr, P (t :: ts) acc fr → ∃ fr1 fr2 d, tgt t fr = some fr1 ∧ elt fr1 = some (.own (.d d), fr2) ∧ P ts (acc ++ [d]) (wipF fr2 vs)) (hl : ts.length ≤ sizeLine) :
    ∃ acc fr', lcF it tgt yesF elt vs fr = some (.own (.l (acc.map O.d)), fr') ∧ P [] acc fr' := by
  obtain ⟨acc', fr', e, h⟩ := lcL_st P step ts [] (wipF fr1 vs) h0 (by simpa using hl)
  refine ⟨acc', fr', ?_, h⟩
  unfold lcF
  rw [hi]
  simp only [Option.bind_some]
  have e' : lcL tgt yesF elt vs ts [] (wipF fr1 vs) = some (acc'.map O.d, fr') := e
  rw [e']
  rfl
/-! ### the deck is made -/
def bDeck : Sts := (seqF (parF [0] [1, 2] (consF true (frzF (opF (one listO) (consF true (cutH true (borF 0) (cF (.int 63))) nilF))) (consF true (cF (.int 40503)) nilF)))
  (seqF (forF (anyI (datF 1)) (nmT [0] 3) (setF [0] 2 (bin true (two modO) (bin true (two addO) (bin true (two addO) (bin true (two mulO) (datF 2) (cF (.int 69621))) (bin true (two modO) (datF 3) (cF (.int 2147483629)))) (cF (.int 37))) (cF (.int 2147483587)))))
  (retF (lstF (consF true (una (one revO) (datF 1)) (consF true (datF 2) (consF true (cF (.int 0)) nilF)))))))
def GDeck : Gf := gOf 1 4 [0] bDeck
theorem cut_map {α β : Type} (f : α → β) (xs : List α) (lo hi : Option Int) : cutD (xs.map f) lo hi = (cutD xs lo hi).map f := by
  unfold cutD
  rw [List.length_map, List.map_take, List.map_drop]
theorem cut_len {α : Type} (xs : List α) (lo hi : Option Int) : (cutD xs lo hi).length ≤ xs.length := by
  unfold cutD
  rw [List.length_take, List.length_drop]
  omega
theorem deck_ok (ns : List Int) (h : ns.length ≤ 63) : ∃ o, GDeck [.sc ns] = some (o, [some (.sc ns)]) ∧ Dk 0 o := by
  generalize hc : cutD ns none (some 63) = cs
  have hl : cs.length ≤ 63 := by rw [← hc]; exact Nat.le_trans (cut_len ns none (some 63)) h
  have s1 : parF [0] [1, 2] (consF true (frzF (opF (one listO) (consF true (cutH true (borF 0) (cF (.int 63))) nilF))) (consF true (cF (.int 40503)) nilF)) [some (.sc ns), none, none, none] =
      some (.nx, [some (.sc ns), some (.d (.list (cs.map PyData.int))), some (.d (.int 40503)), none]) := by
    have e1 : cutH true (borF 0) (cF (.int 63)) [some (.sc ns), none, none, none] = some (.own (.l ((cs.map PyData.int).map O.d)), [some (.sc ns), none, none, none]) := by
      refine cutH_ok (r := .bor (.sc ns)) (j := 63) rfl rfl ?_
      show some (O.l ((cutD (ns.map PyData.int) none (some 63)).map O.d)) = _
      rw [cut_map, hc]
    have e2 : opF (one listO) (consF true (cutH true (borF 0) (cF (.int 63))) nilF) [some (.sc ns), none, none, none] = some (.own (.l ((cs.map PyData.int).map O.d)), [some (.sc ns), none, none, none]) := by
      refine op1_ok e1 ?_
      show (Option.bind (allD ((cs.map PyData.int).map O.d)) _) = _
      rw [allD_map]
      rfl
    unfold parF
    rw [a_ok (frz_ld e2) (a_ok (r := .own (.d (.int 40503))) rfl n_ok)]
    rfl
  unfold GDeck
  have s2 := for_ok (it := anyI (datF 1)) (tgt := nmT [0] 3) (body := setF [0] 2 (bin true (two modO) (bin true (two addO) (bin true (two addO) (bin true (two mulO) (datF 2) (cF (.int 69621))) (bin true (two modO) (datF 3) (cF (.int 2147483629)))) (cF (.int 37))) (cF (.int 2147483587))))
    (fr := [some (.sc ns), some (.d (.list (cs.map PyData.int))), some (.d (.int 40503)), none]) (fr1 := [some (.sc ns), some (.d (.list (cs.map PyData.int))), some (.d (.int 40503)), none]) (ts := cs.map PyData.int) rfl
    (fun ts fr => (∀ t ∈ ts, ∃ i, t = .int i) ∧ ∃ (m : Int) (x : Option O), 0 ≤ m ∧ m < 2147483647 ∧ fr = [some (.sc ns), some (.d (.list (cs.map PyData.int))), some (.d (.int m)), x])
    ⟨fun t ht => by obtain ⟨i, _, e⟩ := List.mem_map.mp ht; exact ⟨i, e.symm⟩, 40503, none, by decide, by decide, rfl⟩ (by
      rintro t ts fr ⟨ht, m, x, m0, m1, rfl⟩
      obtain ⟨i, rfl⟩ := ht t List.mem_cons_self
      have b1 : m.natAbs < 2 ^ 200 := natAbs_lt (m := 31) m0 (by omega) (by decide)
      refine ⟨[some (.sc ns), some (.d (.list (cs.map PyData.int))), some (.d (.int m)), some (.d (.int i))], _, rfl, set_ok (bin_dd (bin_dd (bin_dd (bin_dd rfl rfl (mul_ii b1 (by decide))) (bin_dd rfl rfl (mod_ii (by decide))) add_ii) rfl add_ii) rfl (mod_ii (by decide))) (by decide), fun t m => ht t (List.mem_cons_of_mem _ m), _, _, Int.emod_nonneg _ (by decide), ?_, rfl⟩
      exact Int.lt_trans (Int.emod_lt_of_pos _ (by decide)) (by decide))
  obtain ⟨fr', e3, _, m, x, m0, m1, rfl⟩ := s2
  refine ⟨deckO cs.reverse m 0, ?_, cs.reverse, m, 0, rfl, by rw [List.length_reverse]; omega, by decide, by decide⟩
  refine (g_rt (os := [.sc ns]) (o := deckO cs.reverse m 0) (fr := [some (.sc ns), some (.d (.list (cs.map PyData.int))), some (.d (.int m)), x]) rfl ?_).trans rfl
  show bDeck [some (.sc ns), none, none, none] = _
  unfold bDeck
  rw [seq_nx s1, seq_nx e3]
  refine ret_ok (lst_ok (os := [.l (intsO cs.reverse), .d (.int m), .d (.int 0)]) (a_ok (una_ok rfl ?_) (a_ok (r := .own (.d (.int m))) rfl (a_ok (r := .own (.d (.int 0))) rfl n_ok))) (show 3 ≤ sizeLine by decide))
  show some (O.l ((cs.map PyData.int).reverse.map O.d)) = _
  rw [← List.map_reverse, List.map_map]
  rfl
/-! ### one of some -/
def bPick : Sts := (retF (bin false (two ixO) (datF 1) (callF GDraw (consF true (refF 0) (consF true (opF (one lenO) (consF true (datF 1) nilF)) nilF)))))
def GPick : Gf := gOf 2 2 [0] bPick
theorem atI_in {α : Type} {xs : List α} {i : Int} (h0 : 0 ≤ i) (h1 : i < xs.length) : ∃ x, atI xs i = some x ∧ x ∈ xs := by
  have hi : i.toNat < xs.length := by omega
  refine ⟨xs[i.toNat], ?_, List.getElem_mem hi⟩
  unfold atI ixN
  rw [if_pos h0, if_pos h1]
  exact List.getElem?_eq_getElem hi
/-- a draw within a frame: slot 0 the deck -/
theorem draw_in {n : Nat} {o : O} (d : Dk n o) (hn : n < 2 ^ 50) {many : Int} (h0 : 0 < many) (h1 : many < 2 ^ 60) {fm : Ev} {fr : Fr} (hm : fm (none :: fr) = some (.own (.d (.int many)), none :: fr)) :
    ∃ r o', callF GDraw (consF true (refF 0) (consF true fm nilF)) (some o :: fr) = some (.own (.d (.int r)), some o' :: fr) ∧ 0 ≤ r ∧ r < many ∧ Dk (n + 1) o' := by
  obtain ⟨r, o', e, r0, r1, d'⟩ := draw_ok d hn h0 h1
  refine ⟨r, o', ?_, r0, r1, d'⟩
  exact call_ok (rs := [.ref 0 o, .own (.d (.int many))]) (a_ok (r := .ref 0 o) rfl (a_ok hm n_ok)) e
theorem pick_ok {n : Nat} {o : O} (d : Dk n o) (hn : n < 2 ^ 50) {ts : List PyData} (h0 : ts ≠ []) (h1 : ts.length < 2 ^ 60) : ∃ t o', GPick [o, .d (.list ts)] = some (.d t, [some o', none]) ∧ t ∈ ts ∧ Dk (n + 1) o' := by
  have hp : 0 < ts.length := List.length_pos_iff.mpr h0
  obtain ⟨r, o', e, r0, r1, d'⟩ := draw_in (many := (ts.length : Nat)) (fm := opF (one lenO) (consF true (datF 1) nilF)) (fr := [some (.d (.list ts))]) d hn (by omega) (by omega) (op1_ok rfl rfl)
  obtain ⟨t, e1, e2⟩ := atI_in r0 r1
  refine ⟨t, o', ?_, e2, d'⟩
  refine (g_rt (os := [o, .d (.list ts)]) (o := .d t) (fr := [some o', some (.d (.list ts))]) rfl (ret_ok (bin_ok (ra := .own (.d (.list ts))) rfl e ?_))).trans rfl
  show (Option.bind (atI ts r) _) = _
  rw [e1]
  rfl
end Bv
set_option Elab.async false
set_option linter.all false
set_option maxRecDepth 100000
/-! BvM: data that may be shown and compared; sets of texts, double comprehensions, evaluated. -/
namespace Bv
open PySem PySem.Spec L2

mutual
/-- data of texts, truths, small ints, lists, tuples -/
def Sd : PyData → Bool
  | .none => true
  | .bool _ => true
  | .int i => decide ((PyData.shown (.int i)).length ≤ 13) && decide (i.natAbs.log2 < 1920)
  | .str x => PyData.strOk x
  | .list xs => Sds xs
  | .tuple xs => Sds xs
  | .dict _ => false
def Sds : List PyData → Bool
  | [] => true
  | x :: xs => Sd x && Sds xs
end
mutual
theorem sd_lay : ∀ d : PyData, Sd d = true → d.canLay0 = true ∧ d.showable = true ∧ d.intsShort 13 = true
  | .none, _ => ⟨rfl, rfl, rfl⟩
  | .bool _, _ => ⟨rfl, rfl, rfl⟩
  | .int i, h => by
    have h : (decide ((PyData.shown (.int i)).length ≤ 13) && decide (i.natAbs.log2 < 1920)) = true := h
    rw [Bool.and_eq_true] at h
    exact ⟨rfl, h.2, h.1⟩
  | .str x, h => ⟨h, rfl, rfl⟩
  | .list xs, h => by
    obtain ⟨a, b, c⟩ := sds_lay xs h
    exact ⟨by simpa [PyData.canLay0] using a, by simpa [PyData.showable] using b, by simpa [PyData.intsShort] using c⟩
  | .tuple xs, h => by
    obtain ⟨a, b, c⟩ := sds_lay xs h
    exact ⟨by simpa [PyData.canLay0] using a, by simpa [PyData.showable] using b, by simpa [PyData.intsShort] using c⟩
  | .dict _, h => by cases h
theorem sds_lay : ∀ ds : List PyData, Sds ds = true → PyData.canLayAll0 ds = true ∧ PyData.showableAll ds = true ∧ PyData.intsShortAll 13 ds = true
  | [], _ => ⟨rfl, rfl, rfl⟩
  | d :: ds, h => by
    have h : (Sd d && Sds ds) = true := h
    rw [Bool.and_eq_true] at h
    obtain ⟨a, b, c⟩ := sd_lay d h.1
    obtain ⟨a2, b2, c2⟩ := sds_lay ds h.2
    exact ⟨by simp [PyData.canLayAll0, a, a2], by simp [PyData.showableAll, b, b2], by simp [PyData.intsShortAll, c, c2]⟩
end
theorem mayShow_of {d : PyData} (h : Sd d = true) (hd : d.depth ≤ 64) (hw : d.weight ≤ 2 ^ 20) : mayShow d = true := by
  obtain ⟨a, b, c⟩ := sd_lay d h
  have e := PyData.shown_fits (B := 13) (by decide) (by decide) (PyData.leavesShort_of_canLay0 13 d a c) hw
  unfold mayShow
  simp only [a, b, Bool.true_and, Bool.and_eq_true, decide_eq_true_eq]
  exact ⟨e, hd⟩
theorem sds_of {ds : List PyData} (h : ∀ d ∈ ds, Sd d = true) : Sds ds = true := by
  induction ds with
  | nil => rfl
  | cons d ds ih =>
    show (Sd d && Sds ds) = true
    rw [h d List.mem_cons_self, ih fun d m => h d (List.mem_cons_of_mem _ m)]
    rfl
theorem weight_le {ds : List PyData} {B : Nat} (h : ∀ d ∈ ds, d.weight ≤ B) : PyData.weightAll ds ≤ ds.length * (B + 1) := by
  induction ds with
  | nil => simp [PyData.weightAll]
  | cons d ds ih =>
    have h1 := h d List.mem_cons_self
    have h2 := ih fun d m => h d (List.mem_cons_of_mem _ m)
    simp only [PyData.weightAll, List.length_cons, Nat.add_mul]
    omega
theorem depth_le {ds : List PyData} {B : Nat} (h : ∀ d ∈ ds, d.depth ≤ B) : PyData.depthAll ds ≤ B := by
  induction ds with
  | nil => simp [PyData.depthAll]
  | cons d ds ih =>
    have h1 := h d List.mem_cons_self
    have h2 := ih fun d m => h d (List.mem_cons_of_mem _ m)
    simp only [PyData.depthAll]
    omega
/-- repr of data -/
theorem repr_ok {f : Ev} {fr fr1 : Fr} {r : Rs} {d : PyData} (hf : f fr = some (r, fr1)) (hr : r.o.pl = true) (hd : r.o.data = d) (h : mayShow d = true) : opF (one reprO) (consF true f nilF) fr = some (.own (.d (.str d.shown)), fr1) := by
  refine op1_ok hf ?_
  unfold reprO
  rw [hd, if_pos ⟨hr, h⟩]
/-- two texts that are the same -/
theorem ne_same {x : Str} : eqA true (.d (.str x)) (.d (.str x)) = some (.d (.bool false)) := by
  show some (O.d (.bool (!(x == x)))) = _
  rw [beq_self_eq_true]
  rfl
/-- compared data -/
theorem eq_dd {neg : Bool} {d e : PyData} (hd : Sd d = true) (he : Sd e = true) (hb : min d.depth e.depth ≤ 64) : eqA neg (.d d) (.d e) = some (.d (.bool (if neg then !(PyData.eqv d e) else PyData.eqv d e))) := by
  have h : eqO neg (.d d) (.d e) = some (.d (.bool (if neg then !(PyData.eqv d e) else PyData.eqv d e))) := by
    unfold eqO
    rw [if_pos ⟨rfl, rfl, (sd_lay d hd).1, (sd_lay e he).1, hb⟩]
    rfl
  unfold eqA
  split
  · rename_i x y e1 e2
    cases e1
    cases e2
    simp [PyData.eqv]
  · exact h
/-! ### sets of texts -/
def uniqS (xs : List Str) : List Str := (keysU (xs.map Sum.inr)).filterMap strK
def srtU (xs : List Str) : List Str := sortS (uniqS xs)
theorem fold_inr : ∀ (xs : List Str) (acc : List Key), (∃ ys : List Str, acc = ys.map Sum.inr) → ∃ ys : List Str, (xs.map (Sum.inr : Str → Key)).foldl addU acc = ys.map Sum.inr
  | [], _, h => h
  | x :: xs, acc, ⟨ys, e⟩ => by
    refine fold_inr xs (addU acc (.inr x)) ?_
    subst e
    unfold addU
    split
    · exact ⟨ys, rfl⟩
    · exact ⟨ys ++ [x], by rw [List.map_append]; rfl⟩
theorem fm_inr (ys : List Str) : (ys.map (Sum.inr : Str → Key)).filterMap strK = ys := by
  induction ys with
  | nil => rfl
  | cons y ys ih => show y :: (ys.map (Sum.inr : Str → Key)).filterMap strK = _; rw [ih]
theorem keysU_uniq (xs : List Str) : keysU (xs.map Sum.inr) = (uniqS xs).map Sum.inr := by
  obtain ⟨ys, e⟩ := fold_inr xs [] ⟨[], rfl⟩
  have e : keysU (xs.map Sum.inr) = ys.map Sum.inr := e
  unfold uniqS
  rw [e, fm_inr]
theorem strsK_inr (ys : List Str) : strsK (ys.map Sum.inr) = some ys := by
  induction ys with
  | nil => rfl
  | cons y ys ih =>
    show ((strsK (ys.map Sum.inr)).bind fun xs => some (y :: xs)) = _
    rw [ih]
    rfl
theorem mem_addU {acc : List Key} {k j : Key} : j ∈ addU acc k ↔ j ∈ acc ∨ j = k := by
  by_cases h : k ∈ acc
  · rw [addU_pos h]
    exact ⟨.inl, fun z => z.elim id fun e => e ▸ h⟩
  · rw [addU_neg h]
    simp
theorem mem_foldU {j : Key} : ∀ (ks acc : List Key), j ∈ ks.foldl addU acc ↔ j ∈ acc ∨ j ∈ ks
  | [], acc => by simp
  | k :: ks, acc => by
    rw [List.foldl_cons, mem_foldU ks, mem_addU, List.mem_cons]
    constructor
    · rintro ((h | h) | h)
      · exact .inl h
      · exact .inr (.inl h)
      · exact .inr (.inr h)
    · rintro (h | h | h)
      · exact .inl (.inl h)
      · exact .inl (.inr h)
      · exact .inr h
theorem mem_uniq {xs : List Str} {x : Str} : x ∈ uniqS xs ↔ x ∈ xs := by
  have h := mem_foldU (j := .inr x) (xs.map (Sum.inr : Str → Key)) []
  have e : (xs.map (Sum.inr : Str → Key)).foldl addU [] = (uniqS xs).map Sum.inr := keysU_uniq xs
  rw [e] at h
  have inj : ∀ ys : List Str, ((Sum.inr x : Key) ∈ ys.map Sum.inr) ↔ x ∈ ys := fun ys => by
    rw [List.mem_map]
    exact ⟨fun ⟨y, m, e⟩ => by injection e with e; exact e ▸ m, fun m => ⟨x, m, rfl⟩⟩
  rw [inj, inj] at h
  simpa using h
theorem uniq_len (xs : List Str) : (uniqS xs).length ≤ xs.length := by
  have h := keysU_len (xs.map (Sum.inr : Str → Key))
  rw [keysU_uniq, List.length_map, List.length_map] at h
  exact h
theorem mem_srtU {xs : List Str} {x : Str} : x ∈ srtU xs ↔ x ∈ xs := by
  unfold srtU sortS
  rw [(List.mergeSort_perm (uniqS xs) leS).mem_iff]
  exact mem_uniq
theorem srtU_len (xs : List Str) : (srtU xs).length ≤ xs.length := by
  unfold srtU sortS
  rw [(List.mergeSort_perm (uniqS xs) leS).length_eq]
  exact uniq_len xs
theorem keysD_strs (xs : List Str) : keysD (xs.map PyData.str) = some (xs.map Sum.inr) := by
  induction xs with
  | nil => rfl
  | cons x xs ih =>
    show ((keysD (xs.map PyData.str)).bind fun ks => some (.inr x :: ks)) = _
    rw [ih]
    rfl
/-- sorted(set(texts)) -/
theorem srt_set {f : Ev} {fr fr1 : Fr} {r : Rs} {xs : List Str} (hf : f fr = some (r, fr1)) (ha : asL r.o = some (xs.map PyData.str)) (hl : xs.length + 1 < scanBound) : srtF (setE f) fr = some (.own (.l (((srtU xs).map PyData.str).map O.d)), fr1) := by
  unfold srtF setE
  rw [hf]
  simp only [Option.bind_some, ha, keysD_strs]
  rw [if_pos (by rw [List.length_map]; exact hl)]
  simp only [Option.bind_some]
  rw [keysU_uniq, strsK_inr]
  simp only [Option.bind_some]
  rw [List.map_map]
  rfl
/-- {e for t in ts if ..}, texts, the frame as it was -/
theorem scL_fm {tgt : PyData → Fr → Option Fr} {tst : Evt} {elt : Ev} {vs : List Nat} {fr0 : Fr} (g : PyData → Option Str) : ∀ (ts : List PyData) (acc : List Key),
    (∀ t ∈ ts, ∃ fr1 fr2, tgt t fr0 = some fr1 ∧ match g t with
      | some x => (∃ fr3, tst fr1 = some (true, fr3) ∧ elt fr3 = some (.own (.d (.str x)), fr2)) ∧ wipF fr2 vs = fr0
      | none => tst fr1 = some (false, fr2) ∧ wipF fr2 vs = fr0) →
    acc.length + ts.length + 1 < scanBound → scL tgt tst elt vs ts acc fr0 = some (((ts.filterMap g).map Sum.inr).foldl addU acc, fr0)
  | [], acc, _, _ => by simp [scL]
  | t :: ts, acc, h, hl => by
    obtain ⟨fr1, fr2, e1, e2⟩ := h t List.mem_cons_self
    have hl' : acc.length + (ts.length + 1) + 1 < scanBound := hl
    unfold scL
    rw [e1]
    simp only [Option.bind_some]
    cases eg : g t with
    | none =>
      rw [eg] at e2
      obtain ⟨e2, e3⟩ := e2
      rw [e2]
      simp only [Option.bind_some, if_neg (show ¬ (false = true) by decide), e3]
      rw [scL_fm g ts acc (fun t m => h t (List.mem_cons_of_mem _ m)) (by omega), List.filterMap_cons, eg]
    | some x =>
      rw [eg] at e2
      obtain ⟨⟨fr3, e2, e4⟩, e3⟩ := e2
      rw [e2]
      simp only [Option.bind_some, if_pos]
      rw [e4]
      simp only [Option.bind_some, keyO]
      have := addU_len acc (.inr x)
      rw [if_pos (by omega), e3, scL_fm g ts (addU acc (.inr x)) (fun t m => h t (List.mem_cons_of_mem _ m)) (by omega), List.filterMap_cons, eg]
      rfl
theorem srt_sc {it : Evi} {tgt : PyData → Fr → Option Fr} {tst : Evt} {elt : Ev} {vs : List Nat} {fr fr1 : Fr} {ts : List PyData} (g : PyData → Option Str) (hi : it fr = some (ts, fr1))
    (h : ∀ t ∈ ts, ∃ fr2 fr3, tgt t (wipF fr1 vs) = some fr2 ∧ match g t with
      | some x => (∃ fr4, tst fr2 = some (true, fr4) ∧ elt fr4 = some (.own (.d (.str x)), fr3)) ∧ wipF fr3 vs = wipF fr1 vs
      | none => tst fr2 = some (false, fr3) ∧ wipF fr3 vs = wipF fr1 vs) (hl : ts.length + 1 < scanBound) :
    srtF (scF it tgt tst elt vs) fr = some (.own (.l (((srtU (ts.filterMap g)).map PyData.str).map O.d)), wipF fr1 vs) := by
  unfold srtF scF
  rw [hi]
  simp only [Option.bind_some]
  rw [scL_fm g ts [] h (by simpa using hl)]
  simp only [Option.bind_some]
  have e : ((ts.filterMap g).map (Sum.inr : Str → Key)).foldl addU [] = (uniqS (ts.filterMap g)).map Sum.inr := keysU_uniq _
  rw [e, strsK_inr]
  simp only [Option.bind_some]
  rw [List.map_map]
  rfl
/-! ### [e for t in ts for u in us(t) if ..] -/
theorem lc2L_fm {tgt tgt1 : PyData → Fr → Option Fr} {tst tst1 : Evt} {it1 : Evi} {elt : Ev} {vs vs1 : List Nat} {fr0 : Fr} (ds : PyData → List PyData) (L : Nat) : ∀ (ts : List PyData) (acc : List O),
    (∀ t ∈ ts, ∃ fr1 fr2 fr3 ts1, tgt t fr0 = some fr1 ∧ tst fr1 = some (true, fr1) ∧ it1 fr1 = some (ts1, fr2) ∧ (ds t).length ≤ L ∧
      (∀ acc : List O, acc.length + L ≤ sizeLine → lcL tgt1 tst1 elt vs1 ts1 acc (wipF fr2 vs1) = some (acc ++ (ds t).map O.d, fr3)) ∧ wipF fr3 vs = fr0) →
    acc.length + ts.length * L ≤ sizeLine → lc2L tgt tst it1 tgt1 tst1 elt vs vs1 ts acc fr0 = some (acc ++ (ts.flatMap ds).map O.d, fr0)
  | [], acc, _, _ => by simp [lc2L]
  | t :: ts, acc, h, hl => by
    obtain ⟨fr1, fr2, fr3, ts1, e1, e2, e3, hd, e4, e5⟩ := h t List.mem_cons_self
    have hl' : acc.length + (ts.length + 1) * L ≤ sizeLine := hl
    rw [Nat.add_mul, Nat.one_mul] at hl'
    unfold lc2L
    rw [e1]
    simp only [Option.bind_some, e2, if_pos, e3]
    rw [e4 acc (by omega)]
    simp only [Option.bind_some, e5]
    rw [lc2L_fm ds L ts (acc ++ (ds t).map O.d) (fun t m => h t (List.mem_cons_of_mem _ m)) (by rw [List.length_append, List.length_map]; omega)]
    simp
theorem lc2_ok {it it1 : Evi} {tgt tgt1 : PyData → Fr → Option Fr} {tst tst1 : Evt} {elt : Ev} {vs vs1 : List Nat} {fr fr1 : Fr} {ts : List PyData} (ds : PyData → List PyData) (L : Nat) (hi : it fr = some (ts, fr1))
    (h : ∀ t ∈ ts, ∃ fr2 fr3 fr4 ts1, tgt t (wipF fr1 vs) = some fr2 ∧ tst fr2 = some (true, fr2) ∧ it1 fr2 = some (ts1, fr3) ∧ (ds t).length ≤ L ∧
      (∀ acc : List O, acc.length + L ≤ sizeLine → lcL tgt1 tst1 elt vs1 ts1 acc (wipF fr3 vs1) = some (acc ++ (ds t).map O.d, fr4)) ∧ wipF fr4 vs = wipF fr1 vs) (hl : ts.length * L ≤ sizeLine) :
    lc2F it tgt tst it1 tgt1 tst1 elt vs vs1 fr = some (.own (.l ((ts.flatMap ds).map O.d)), wipF fr1 vs) := by
  unfold lc2F
  rw [hi]
  simp only [Option.bind_some]
  rw [lc2L_fm ds L ts [] h (by simpa using hl)]
  rfl
end Bv
set_option Elab.async false
set_option linter.all false
set_option maxRecDepth 100000
/-! what the defs compute -/
namespace K12
open PySem PySem.Spec PyProof.Rows L2 Bv
abbrev t_LETTERS : PyData := (.str "abcdefghijklmnopqrstuvwxyz")
abbrev t_LONGEST : PyData := (.int 6)
abbrev t_WORD_rules : PyData := (.str "word")
abbrev t_LEAD : PyData := (.str "lead")
abbrev t_PART : PyData := (.str "part")
abbrev t_AFTER : PyData := (.str "after")
abbrev t_WORD_terminals : PyData := (.str "word")
abbrev t_NAME : PyData := (.tuple [(.str "name")])
def b_is_of : Sts := (seqF (iffF (orF (notF (tstF (una (one (isiO "str")) (datF 0)))) (notF (tstF (chF (fun i j => decide (i ≤ j)) (fun i j => decide (i ≤ j)) (cF (.int 1)) (opF (one lenO) (consF true (datF 0) nilF)) (datF 2))))) (retF (cF (.bool false))) nxF)
  (retF (opF (one allO) (consF true (lcF (anyI (datF 0)) (nmT [] 3) yesF (bin true (two (inA false)) (datF 3) (datF 1)) [3]) nilF))))
def G_is_of : Gf := gOf 3 4 [] b_is_of
def b_is_name : Sts := (retF (callF G_is_of (consF true (datF 0) (consF true (cF t_LETTERS) (consF true (cF t_LONGEST) nilF)))))
def G_is_name : Gf := gOf 1 1 [] b_is_name
def b_words_told : Sts := (retF (frzF (lc2F (anyI (datF 0)) (nmT [] 1) yesF (anyI (bin true (two ixO) (datF 1) (cF (.int 1)))) (nmT [] 2) (tstF (bin true (two (eqA false)) (bin true (two ixO) (datF 2) (cF (.int 0))) (cF t_WORD_rules))) (bin true (two ixO) (datF 2) (cF (.int 1))) [1, 2] [2])))
def G_words_told : Gf := gOf 1 3 [] b_words_told
def b_kept_words : Sts := (retF (opF (one tupleO) (consF true (srtF (scF (anyI (callF G_words_told (consF true (bin true (two ixO) (datF 0) (cF (.int 2))) nilF))) (nmT [] 1) (tstF (callF G_is_name (consF true (datF 1) nilF))) (datF 1) [1])) nilF)))
def G_kept_words : Gf := gOf 1 2 [] b_kept_words
def b_parts_of : Sts := (retF (opF (one tupleO) (consF true (srtF (scF (anyI (bin true (two ixO) (datF 0) (cF (.int 2)))) (nmT [] 1) yesF (bin true (two ixO) (datF 1) (cF (.int 0))) [1])) nilF)))
def G_parts_of : Gf := gOf 1 2 [] b_parts_of
def b_phantom : Sts := (retF (opF (one tupleO) (consF true (lcF (anyI (callF G_parts_of (consF true (datF 0) nilF))) (nmT [] 1) yesF (opF tupO (consF true (datF 1) (consF true (opF tupO (consF true (opF tupO (consF true (cF t_LEAD) (consF true (datF 1) nilF))) (consF true (opF tupO (consF true (cF t_PART) (consF true (datF 1) nilF))) (consF true (opF tupO (consF true (cF t_AFTER) (consF true (datF 1) nilF))) nilF)))) nilF))) [1]) nilF)))
def G_phantom : Gf := gOf 1 2 [] b_phantom
def b_is_free : Sts := (retF (andV (bin true (two (eqA false)) (bin true (two ixO) (datF 1) (cF (.int 0))) (cF t_WORD_terminals)) (andV (callF G_is_name (consF true (bin true (two ixO) (datF 1) (cF (.int 1))) nilF)) (bin true (two (inA true)) (bin true (two ixO) (datF 1) (cF (.int 1))) (datF 0)))))
def G_is_free : Gf := gOf 2 2 [] b_is_free
def b_do_meet : Sts := (seqF (iffF (tstF (bin true (two (eqA false)) (datF 1) (datF 2))) (retF (cF (.bool true))) nxF)
  (retF (orV (andV (bin true (two (eqA false)) (datF 1) (cF t_NAME)) (callF G_is_free (consF true (datF 0) (consF true (datF 2) nilF)))) (andV (bin true (two (eqA false)) (datF 2) (cF t_NAME)) (callF G_is_free (consF true (datF 0) (consF true (datF 1) nilF)))))))
def G_do_meet : Gf := gOf 3 3 [] b_do_meet
def b__law_deck : Sts := (seqF (parF [0] [1, 2] (consF true (frzF (opF (one listO) (consF true (cutH true (borF 0) (cF (.int 63))) nilF))) (consF true (cF (.int 40503)) nilF)))
  (seqF (forF (anyI (datF 1)) (nmT [0] 3) (setF [0] 2 (bin true (two modO) (bin true (two addO) (bin true (two addO) (bin true (two mulO) (datF 2) (cF (.int 69621))) (bin true (two modO) (datF 3) (cF (.int 2147483629)))) (cF (.int 37))) (cF (.int 2147483587)))))
  (retF (lstF (consF true (una (one revO) (datF 1)) (consF true (datF 2) (consF true (cF (.int 0)) nilF)))))))
def G__law_deck : Gf := gOf 1 4 [0] b__law_deck
def b__law_draw : Sts := (seqF (putF 0 [] (cF (.int 2)) (frzF (bin true (two addO) (bpF 0 [2]) (cF (.int 1)))))
  (seqF (setF [0] 2 (bpF 0 [1]))
  (seqF (iffF (tstF (bin true (two (eqA true)) (bpF 0 [0]) (lstF nilF))) (seqF (setF [0] 2 (popF 0 [0]))
  (seqF (iffF (tstF (bin true (two geO) (datF 2) (bin true (two powO) (cF (.int 10)) (cF (.int 18))))) (seqF (drpF (mthF 0 [0] appG (bin true (two divO) (datF 2) (datF 1))))
  (retF (bin true (two modO) (datF 2) (datF 1)))) nxF)
  (setF [0] 2 (frzF (bin true (two addO) (datF 2) (bpF 0 [1])))))) nxF)
  (seqF (setF [0] 3 (bin true (two modO) (bin true (two mulO) (bin true (two addO) (bin true (two addO) (bin true (two modO) (datF 2) (cF (.int 2147483629))) (bin true (two mulO) (cF (.int 15485863)) (bpF 0 [2]))) (cF (.int 101))) (cF (.int 48271))) (cF (.int 2147483647))))
  (seqF (setF [0] 3 (bin true (two modO) (bin true (two addO) (bin true (two addO) (bin true (two mulO) (datF 3) (datF 3)) (bin true (two mulO) (cF (.int 40503)) (bpF 0 [2]))) (cF (.int 19))) (cF (.int 2147483587))))
  (retF (bin true (two modO) (bin true (two divO) (bin true (two modO) (bin true (two mulO) (datF 3) (bin true (two addO) (bin true (two divO) (datF 3) (cF (.int 5))) (cF (.int 39373)))) (cF (.int 2147483563))) (cF (.int 64))) (datF 1))))))))
def G__law_draw : Gf := gOf 2 4 [0] b__law_draw
def b__law_pick : Sts := (retF (bin false (two ixO) (datF 1) (callF G__law_draw (consF true (refF 0) (consF true (opF (one lenO) (consF true (datF 1) nilF)) nilF)))))
def G__law_pick : Gf := gOf 2 2 [0] b__law_pick
def b__law_called : Sts := (seqF (parF [0] [2, 3, 4] (consF false (cF (.str "abcdefghijklmnopqrstuvwxyz")) (consF false (callF G__law_draw (consF true (refF 0) (consF true (cF (.int 4)) nilF))) (consF true (callF G__law_draw (consF true (refF 0) (consF true (cF (.int 26)) nilF))) nilF))))
  (seqF (setF [0] 5 (frzF (lcF (rng1 (consF true (cF (.int 26)) nilF)) (nmT [] 6) yesF (frzF (bin true (two addO) (bin true (two ixO) (lstF (consF true (cF (.str "")) (consF true (cF (.str "q")) (consF true (cF (.str "abcde")) (consF true (cF (.str "")) nilF))))) (datF 3)) (bin true (two ixO) (datF 2) (bin true (two modO) (bin true (two addO) (datF 4) (bin true (two mulO) (cF (.int 5)) (datF 6))) (cF (.int 26)))))) [6])))
  (seqF (iffF (tstF (bin true (two (eqA false)) (datF 3) (cF (.int 3)))) (setF [0] 5 (frzF (bin true (two addO) (lstF (consF true (cF (.str "name")) (consF true (cF (.str "figure")) (consF true (cF (.str "end")) (consF true (cF (.str "lead")) (consF true (cF (.str "after")) (consF true (cF (.str "word")) (consF true (cF (.str "part")) nilF)))))))) (datF 5)))) nxF)
  (retF (frzF (cutH true (datF 5) (datF 1)))))))
def G__law_called : Gf := gOf 2 7 [0] b__law_called
def b__law_rule : Sts := (seqF (setF [] 2 (frzF (disF (consF true (cF (.str "name")) (consF true (opF tupO (consF true (cF (.str "use")) (consF true (opF tupO (consF true (cF (.str "num")) nilF)) nilF))) (consF true (cF (.str "figure")) (consF true (opF tupO (consF true (cF (.str "figure")) nilF)) (consF true (cF (.str "part")) (consF true (opF tupO (consF true (cF (.str "part")) (consF true (opF tupO (consF true (cF (.str "num")) nilF)) (consF true (opF tupO nilF) nilF)))) nilF)))))))))
  (seqF (setF [] 3 (frzF (lcF (anyI (datF 1)) (nmT [] 4) (tstF (bin true (two (eqA true)) (bin true (two ixO) (datF 4) (cF (.int 0))) (cF (.str "word")))) (bin true (two ixO) (datF 4) (cF (.int 0))) [4])))
  (retF (opF tupO (consF false (datF 0) (consF false (opF (one tupleO) (consF true (datF 1) nilF)) (consF true (opF (one tupleO) (consF true (lcF (anyI (datF 3)) (nmT [] 5) yesF (bin true (two dgO) (datF 2) (datF 5)) [5]) nilF)) (consF true (opF tupO (consF true (cF (.str "num")) nilF)) (consF true (opF tupO (consF true (cF (.str "num")) (consF true (cF (.int 0)) nilF))) nilF)))))))))
def G__law_rule : Gf := gOf 2 6 [] b__law_rule
def b__law_base : Sts := (seqF (parF [0] [2, 3, 4] (consF true (cutH false (datF 1) (bin false (two addO) (cF (.int 1)) (callF G__law_draw (consF true (refF 0) (consF true (cF (.int 6)) nilF))))) (consF true (lstF nilF) (consF true (cF .none) nilF))))
  (seqF (setF [0] 5 (frzF (bin true (two addO) (cutLH true true (datF 1) (cF (.int 6)) (cF (.int 10))) (lstF (consF true (cF (.str "(")) (consF true (cF (.str "=")) (consF true (cF (.str "->")) (consF true (cF (.str "|")) nilF))))))))
  (seqF (whF 100 (tstF (bin true (two (eqA true)) (borF 2) (lstF nilF))) (seqF (setF [0] 6 (mthF 2 [] popG (callF G__law_draw (consF true (refF 0) (consF true (opF (one lenO) (consF true (borF 2) nilF)) nilF)))))
  (seqF (setF [0] 4 (ifV (tstF (bin true (two (isNo false)) (datF 4) (cF .none))) (datF 6) (datF 4)))
  (forF (rng1 (consF true (bin false (two addO) (cF (.int 1)) (callF G__law_draw (consF true (refF 0) (consF true (cF (.int 2)) nilF)))) nilF)) (nmT [0] 7) (seqF (setF [0] 8 (frzF (lstF (consF true (opF tupO (consF false (cF (.str "word")) (consF true (callF G__law_pick (consF true (refF 0) (consF true (datF 5) nilF))) nilF))) (consF true (opF tupO (consF true (cF (.str "name")) nilF)) (consF true (opF tupO (consF true (cF (.str "figure")) nilF)) (consF true (opF tupO (consF true (cF (.str "part")) (consF true (datF 6) nilF))) nilF)))))))
  (seqF (setF [0] 9 (frzF (lcF (rng1 (consF true (callF G__law_draw (consF true (refF 0) (consF true (cF (.int 4)) nilF))) nilF)) (nmT [] 10) yesF (bin false (two ixO) (datF 8) (callF G__law_draw (consF true (refF 0) (consF true (cF (.int 4)) nilF)))) [10])))
  (drpF (mthF 3 [] appG (callF G__law_rule (consF true (datF 6) (consF true (frzF (bin true (two addO) (datF 9) (lstF (consF true (opF tupO (consF true (cF (.str "word")) (consF true (frzF (bin true (two mulO) (cF (.str "[")) (bin true (two addO) (datF 7) (cF (.int 1))))) nilF))) nilF)))) nilF)))))))))))
  (retF (opF tupO (consF true (cF (.str "base")) (consF true (datF 4) (consF true (opF (one tupleO) (consF true (borF 3) nilF)) nilF))))))))
def G__law_base : Gf := gOf 2 11 [0] b__law_base
def b__law_is_open : Sts := (seqF (setF [] 2 (cF (.str "abcdefghijklmnopqrstuvwxyz")))
  (seqF (iffF (orF (tstF (bin true (two (eqA true)) (bin true (two ixO) (datF 1) (cF (.int 0))) (cF (.str "word")))) (tstF (bin true (two (eqA true)) (lcF (anyI (bin true (two ixO) (datF 1) (cF (.int 1)))) (nmT [] 4) (tstF (bin true (two (inA true)) (datF 4) (datF 2))) (datF 4) [4]) (lstF nilF)))) (retF (cF (.bool false))) nxF)
  (retF (bin true (two (eqA false)) (lcF (anyI (datF 0)) (nmT [] 3) (tstF (bin true (two (eqA false)) (datF 3) (bin true (two ixO) (datF 1) (cF (.int 1))))) (datF 3) [3]) (lstF nilF)))))
def G__law_is_open : Gf := gOf 2 5 [] b__law_is_open
def b__law_meets : Sts := (seqF (iffF (tstF (bin true (two (eqA false)) (datF 1) (datF 2))) (retF (cF (.bool true))) nxF)
  (retF (andV (bin true (two (inA false)) (opF tupO (consF true (cF (.str "name")) nilF)) (opF tupO (consF true (datF 1) (consF true (datF 2) nilF)))) (orV (callF G__law_is_open (consF true (datF 0) (consF true (datF 1) nilF))) (callF G__law_is_open (consF true (datF 0) (consF true (datF 2) nilF)))))))
def G__law_meets : Gf := gOf 3 3 [] b__law_meets
def b__law_terminals : Sts := (seqF (setF [0] 3 (lstF (consF true (opF tupO (consF true (cF (.str "name")) nilF)) (consF true (opF tupO (consF true (cF (.str "figure")) nilF)) (consF true (opF tupO (consF true (cF (.str "end")) nilF)) nilF)))))
  (seqF (forF (anyI (bin true (two addO) (datF 2) (lstF (consF true (cF (.str "name")) (consF true (cF (.str "figure")) (consF true (cF (.str "end")) (consF true (cF (.str "(")) (consF true (cF (.str "=")) (consF true (cF (.str "->")) (consF true (cF (.str "|")) (consF true (cF (.str "#a.b")) (consF true (cF (.str "#b.a")) (consF true (cF (.str "#name.name")) nilF))))))))))))) (nmT [0] 4) (drpF (mthF 3 [] appG (opF tupO (consF true (cF (.str "word")) (consF true (datF 4) nilF))))))
  (seqF (forF (anyI (datF 1)) (nmT [0] 5) (setF [0] 3 (bin true (two addO) (borF 3) (lstF (consF true (opF tupO (consF true (cF (.str "lead")) (consF true (datF 5) nilF))) (consF true (opF tupO (consF true (cF (.str "after")) (consF true (datF 5) nilF))) (consF true (opF tupO (consF true (cF (.str "word")) (consF true (datF 5) nilF))) nilF)))))))
  (retF (frzF (bin true (two addO) (bin true (two addO) (lcF (rng1 (consF true (cF (.int 30)) nilF)) (nmT [] 6) yesF (callF G__law_pick (consF false (refF 0) (consF true (shrF 3) nilF))) [6]) (cutH true (borF 3) (cF (.int 3)))) (lstF (consF true (opF tupO (consF true (cF (.str "word")) (consF true (bin true (two ixO) (datF 1) (cF (.int 0))) nilF))) nilF))))))))
def G__law_terminals : Gf := gOf 3 7 [0] b__law_terminals
def b__law_all_meet : Sts := (seqF (forF (anyI (datF 1)) (nmT [] 2) (forF (anyI (datF 1)) (nmT [] 3) (seqF (setF [] 4 (opF (one reprO) (consF true (callF G__law_meets (consF true (datF 0) (consF true (datF 2) (consF true (datF 3) nilF)))) nilF)))
  (iffF (orF (tstF (bin true (two (eqA true)) (opF (one reprO) (consF true (callF G_do_meet (consF true (datF 0) (consF true (datF 2) (consF true (datF 3) nilF)))) nilF)) (datF 4))) (tstF (bin true (two (eqA true)) (opF (one reprO) (consF true (kcF G_do_meet [2, 1, 0] (consF true (datF 3) (consF true (datF 2) (consF true (datF 0) nilF)))) nilF)) (datF 4)))) (retF (cF (.bool false))) nxF))))
  (retF (cF (.bool true))))
def G__law_all_meet : Gf := gOf 2 5 [] b__law_all_meet
def b_law : Sts := (seqF (setF [0] 1 (callF G__law_deck (consF true (refF 0) nilF)))
  (seqF (forF (rng1 (consF true (cF (.int 4)) nilF)) (nmT [0] 2) (seqF (setF [0] 3 (callF G__law_called (consF true (refF 1) (consF true (cF (.int 12)) nilF))))
  (seqF (setF [0] 4 (callF G__law_base (consF true (refF 1) (consF true (datF 3) nilF))))
  (seqF (setF [0] 5 (opF (one reprO) (consF true (datF 4) nilF)))
  (seqF (setF [0] 6 (frzF (srtF (setE (lcF (anyI (bin true (two ixO) (datF 4) (cF (.int 2)))) (nmT [] 12) yesF (bin true (two ixO) (datF 12) (cF (.int 0))) [12])))))
  (seqF (setF [0] 7 (opF (one tupleO) (consF true (lcF (anyI (datF 6)) (nmT [] 11) yesF (opF tupO (consF true (datF 11) (consF true (opF tupO (consF true (opF tupO (consF true (cF (.str "lead")) (consF true (datF 11) nilF))) (consF true (opF tupO (consF true (cF (.str "part")) (consF true (datF 11) nilF))) (consF true (opF tupO (consF true (cF (.str "after")) (consF true (datF 11) nilF))) nilF)))) nilF))) [11]) nilF)))
  (seqF (iffF (orF (tstF (bin true (two (eqA true)) (opF (one reprO) (consF true (lstF (consF false (callF G_phantom (consF true (datF 4) nilF)) (consF true (kcF G_phantom [0] (consF true (datF 4) nilF)) nilF))) nilF)) (opF (one reprO) (consF true (lstF (consF true (datF 7) (consF true (datF 7) nilF))) nilF)))) (tstF (bin true (two (eqA true)) (opF (one reprO) (consF true (datF 4) nilF)) (datF 5)))) (retF (cF (.bool false))) nxF)
  (seqF (setF [0] 8 (callF G__law_terminals (consF true (refF 1) (consF true (datF 6) (consF true (datF 3) nilF)))))
  (seqF (setF [0] 9 (opF (one tupleO) (consF true (srtF (setE (lcF (anyI (bin true (two addO) (datF 3) (lstF (consF true (cF (.str "name")) nilF)))) (nmT [] 13) (tstF (bin true (two (eqA false)) (callF G__law_draw (consF true (refF 1) (consF true (cF (.int 3)) nilF))) (cF (.int 0)))) (datF 13) [13]))) nilF)))
  (seqF (forF (anyI (opF tupO (consF true (callF G_kept_words (consF true (datF 4) nilF)) (consF true (datF 9) (consF true (opF tupO nilF) nilF))))) (nmT [0] 10) (iffF (notF (tstF (callF G__law_all_meet (consF true (datF 10) (consF true (datF 8) nilF))))) (retF (cF (.bool false))) nxF))
  (iffF (tstF (bin true (two (eqA true)) (opF (one reprO) (consF true (callF G_phantom (consF true (datF 4) nilF)) nilF)) (opF (one reprO) (consF true (datF 7) nilF)))) (retF (cF (.bool false))) nxF)))))))))))
  (retF (cF (.bool true)))))
def G_law : Gf := gOf 1 14 [0] b_law
end K12
set_option Elab.async false
set_option linter.all false
set_option maxRecDepth 100000
set_option maxHeartbeats 16000000
namespace K12
open PySem PySem.Spec PyProof.Rows L2 Bv
def topS (i : Nat) : Stmt := PySem.Challenge.pw_strangerwords_k12_phantoms_and_what_meet.main.body.getD i (.Pass ⟨0, 0, 0, 0⟩)
/-! ### is_of -/
abbrev st_is_of : Stmt := topS 3
abbrev N_is_of : List Str := ["thing", "signs", "most", "sign"]
theorem sc_is_of : FnScope N_is_of ["thing", "signs", "most"] (defScope st_is_of) := ⟨rfl, rfl, rfl, by decide +kernel, rfl, by decide +kernel, by decide +kernel⟩
theorem p_is_of {P : Program} {w : World} {K : PySem.W.Frag} {mg : Str → Option Value} {base : Heap} {f : Addr} {fd : FuncData} (F : Fun K "is_of" "is_of" st_is_of f fd) (mF : mg "is_of" = some (.ref f)) (z_isinstance : mg "isinstance" = none) (z_str : mg "str" = none) (z_len : mg "len" = none) (z_all : mg "all" = none) :
    FnG P w K mg base 1 f fd ["thing", "signs", "most"] (SpF K 3 G_is_of) :=
  fnG_gOf F sc_is_of rfl rfl (by decide) fun cdv A outer s H E hr hgd => by
    have nd := sc_is_of.nd
    unfold b_is_of
    exact (ss_cons (s_if (PW.pt (w_or (t_not (t_val (e_isi (by decide) (by rfl) z_isinstance (by rfl) z_str bo_str (v_dat 0)))) (w_or1 (t_not (t_ch op_le op_le e_int (e_fn call_len k_len (by rfl) z_len bo_len (a_cons (pa := true) (pb := true) (v_dat 0) a_nil)) (v_dat 2)))))) (ss_one (s_ret e_bl)) ss_nil)
    (ss_one (s_ret (e_fn (cr_all rfl) k_all (by rfl) z_all bo_all (a_cons (pa := false) (pb := true) (e_lc rfl nd (i_any (v_dat 0)) (blkOk_by (own := [("sign", 3)]) (N := N_is_of) (sc := defScope st_is_of) (by decide +kernel)) rfl (fun _ _ _ _ _ => (gv_name (by decide) nd (i := 3) rfl (.inl rfl))) (fun _ _ _ _ _ => tts_nil) (fun _ _ _ _ _ => (e_cmp (o_in (r66 hr)) k_inA (v_dat 3) (v_dat 1) (by with_unfolding_all rfl)))) a_nil)))))
theorem ok_is_of {P : Program} {w : World} {K : PySem.W.Frag} {mg : Str → Option Value} {base : Heap} {f : Addr} {fd : FuncData} (F : Fun K "is_of" "is_of" st_is_of f fd) (mF : mg "is_of" = some (.ref f)) (z_isinstance : mg "isinstance" = none) (z_str : mg "str" = none) (z_len : mg "len" = none) (z_all : mg "all" = none) :
    Fct P w K mg base 1 "is_of" ["thing", "signs", "most"] 3 G_is_of :=
  ⟨f, fd, mF, F.kp, F.binds fun _ _ _ _ _ _ us hl => match us, hl with | [_, _, _], _ => rfl, p_is_of F mF z_isinstance z_str z_len z_all⟩
/-! ### is_name -/
abbrev st_is_name : Stmt := topS 4
abbrev N_is_name : List Str := ["thing"]
theorem sc_is_name : FnScope N_is_name ["thing"] (defScope st_is_name) := ⟨rfl, rfl, rfl, by decide +kernel, rfl, by decide +kernel, by decide +kernel⟩
theorem p_is_name {P : Program} {w : World} {K : PySem.W.Frag} {mg : Str → Option Value} {base : Heap} {f : Addr} {fd : FuncData} (F : Fun K "is_name" "is_name" st_is_name f fd) (mF : mg "is_name" = some (.ref f)) (c_LETTERS : GC K mg "LETTERS" t_LETTERS) (c_LONGEST : GC K mg "LONGEST" t_LONGEST) (d_is_of : Fct P w K mg base 1 "is_of" ["thing", "signs", "most"] 3 G_is_of) :
    FnG P w K mg base 2 f fd ["thing"] (SpF K 1 G_is_name) :=
  fnG_gOf F sc_is_name rfl rfl (by decide) fun cdv A outer s H E hr hgd => by
    have nd := sc_is_name.nd
    unfold b_is_name
    exact (ss_one (s_ret (e_def d_is_of gOf_len (hr.mono (by decide)) hgd (by rfl) (a_cons (pa := true) (pb := true) (v_dat 0) (a_cons (pa := true) (pb := true) (e_gc c_LETTERS (by rfl)) (a_cons (pa := true) (pb := true) (e_gc c_LONGEST (by rfl)) a_nil))))))
theorem ok_is_name {P : Program} {w : World} {K : PySem.W.Frag} {mg : Str → Option Value} {base : Heap} {f : Addr} {fd : FuncData} (F : Fun K "is_name" "is_name" st_is_name f fd) (mF : mg "is_name" = some (.ref f)) (c_LETTERS : GC K mg "LETTERS" t_LETTERS) (c_LONGEST : GC K mg "LONGEST" t_LONGEST) (d_is_of : Fct P w K mg base 1 "is_of" ["thing", "signs", "most"] 3 G_is_of) :
    Fct P w K mg base 2 "is_name" ["thing"] 1 G_is_name :=
  ⟨f, fd, mF, F.kp, F.binds fun _ _ _ _ _ _ us hl => match us, hl with | [_], _ => rfl, p_is_name F mF c_LETTERS c_LONGEST d_is_of⟩
/-! ### words_told -/
abbrev st_words_told : Stmt := topS 7
abbrev N_words_told : List Str := ["rules", "rule", "symbol"]
theorem sc_words_told : FnScope N_words_told ["rules"] (defScope st_words_told) := ⟨rfl, rfl, rfl, by decide +kernel, rfl, by decide +kernel, by decide +kernel⟩
theorem p_words_told {P : Program} {w : World} {K : PySem.W.Frag} {mg : Str → Option Value} {base : Heap} {f : Addr} {fd : FuncData} (F : Fun K "words_told" "words_told" st_words_told f fd) (mF : mg "words_told" = some (.ref f)) (c_WORD_rules : GC K mg "WORD_rules" t_WORD_rules) :
    FnG P w K mg base 1 f fd ["rules"] (SpF K 1 G_words_told) :=
  fnG_gOf F sc_words_told rfl rfl (by decide) fun cdv A outer s H E hr hgd => by
    have nd := sc_words_told.nd
    unfold b_words_told
    exact (ss_one (s_ret (e_frz (e_lc2 rfl nd (i_any (v_dat 0)) (blkOk_by (own := [("rule", 1), ("symbol", 2)]) (N := N_words_told) (sc := defScope st_words_told) (by decide +kernel)) rfl (by decide) (fun _ _ _ _ _ => (gv_name (by decide) nd (i := 1) rfl (.inl rfl))) (fun _ _ _ _ _ => tts_nil) (fun _ _ _ _ _ => (i_any (e_ix ix_any k_ix (v_dat 1) e_int (fun _ _ => rfl)))) (fun _ _ _ _ _ => (gv_name (by decide) nd (i := 2) rfl (.inl rfl))) (fun _ _ _ _ _ => (tts_one (t_cmp (o_eqA hr.units) (k_eqA false) (e_ix ix_any k_ix (v_dat 2) e_int (fun _ _ => rfl)) (e_gc c_WORD_rules (by rfl)) (nomark _)))) (fun _ _ _ _ _ => (e_ix ix_any k_ix (v_dat 2) e_int (fun _ _ => rfl)))))))
theorem ok_words_told {P : Program} {w : World} {K : PySem.W.Frag} {mg : Str → Option Value} {base : Heap} {f : Addr} {fd : FuncData} (F : Fun K "words_told" "words_told" st_words_told f fd) (mF : mg "words_told" = some (.ref f)) (c_WORD_rules : GC K mg "WORD_rules" t_WORD_rules) :
    Fct P w K mg base 1 "words_told" ["rules"] 1 G_words_told :=
  ⟨f, fd, mF, F.kp, F.binds fun _ _ _ _ _ _ us hl => match us, hl with | [_], _ => rfl, p_words_told F mF c_WORD_rules⟩
/-! ### kept_words -/
abbrev st_kept_words : Stmt := topS 8
abbrev N_kept_words : List Str := ["base", "one"]
theorem sc_kept_words : FnScope N_kept_words ["base"] (defScope st_kept_words) := ⟨rfl, rfl, rfl, by decide +kernel, rfl, by decide +kernel, by decide +kernel⟩
theorem p_kept_words {P : Program} {w : World} {K : PySem.W.Frag} {mg : Str → Option Value} {base : Heap} {f : Addr} {fd : FuncData} (F : Fun K "kept_words" "kept_words" st_kept_words f fd) (mF : mg "kept_words" = some (.ref f)) (z_tuple : mg "tuple" = none) (z_sorted : mg "sorted" = none) (d_words_told : Fct P w K mg base 1 "words_told" ["rules"] 1 G_words_told) (d_is_name : Fct P w K mg base 2 "is_name" ["thing"] 1 G_is_name) :
    FnG P w K mg base 3 f fd ["base"] (SpF K 1 G_kept_words) :=
  fnG_gOf F sc_kept_words rfl rfl (by decide) fun cdv A outer s H E hr hgd => by
    have nd := sc_kept_words.nd
    unfold b_kept_words
    exact (ss_one (s_ret (e_ty call_tuple_of k_tuple (by rfl) z_tuple bo_tuple (a_cons (pa := false) (pb := true) (e_srt rfl (r4 hr) (by rfl) z_sorted bo_sorted (st_sc rfl nd (i_any (e_def d_words_told gOf_len (hr.mono (by decide)) hgd (by rfl) (a_cons (pa := true) (pb := true) (e_ix ix_any k_ix (v_dat 0) e_int (fun _ _ => rfl)) a_nil))) (blkOk_by (own := [("one", 1)]) (N := N_kept_words) (sc := defScope st_kept_words) (by decide +kernel)) rfl (fun _ _ _ _ _ => (gv_name (by decide) nd (i := 1) rfl (.inl rfl))) (fun _ _ _ _ _ => (tts_one (t_val (e_def d_is_name gOf_len (hr.mono (by decide)) hgd (by rfl) (a_cons (pa := true) (pb := true) (v_dat 1) a_nil))))) (fun _ _ _ _ _ => (v_dat 1)))) a_nil))))
theorem ok_kept_words {P : Program} {w : World} {K : PySem.W.Frag} {mg : Str → Option Value} {base : Heap} {f : Addr} {fd : FuncData} (F : Fun K "kept_words" "kept_words" st_kept_words f fd) (mF : mg "kept_words" = some (.ref f)) (z_tuple : mg "tuple" = none) (z_sorted : mg "sorted" = none) (d_words_told : Fct P w K mg base 1 "words_told" ["rules"] 1 G_words_told) (d_is_name : Fct P w K mg base 2 "is_name" ["thing"] 1 G_is_name) :
    Fct P w K mg base 3 "kept_words" ["base"] 1 G_kept_words :=
  ⟨f, fd, mF, F.kp, F.binds fun _ _ _ _ _ _ us hl => match us, hl with | [_], _ => rfl, p_kept_words F mF z_tuple z_sorted d_words_told d_is_name⟩
/-! ### parts_of -/
abbrev st_parts_of : Stmt := topS 9
abbrev N_parts_of : List Str := ["base", "rule"]
theorem sc_parts_of : FnScope N_parts_of ["base"] (defScope st_parts_of) := ⟨rfl, rfl, rfl, by decide +kernel, rfl, by decide +kernel, by decide +kernel⟩
theorem p_parts_of {P : Program} {w : World} {K : PySem.W.Frag} {mg : Str → Option Value} {base : Heap} {f : Addr} {fd : FuncData} (F : Fun K "parts_of" "parts_of" st_parts_of f fd) (mF : mg "parts_of" = some (.ref f)) (z_tuple : mg "tuple" = none) (z_sorted : mg "sorted" = none) :
    FnG P w K mg base 1 f fd ["base"] (SpF K 1 G_parts_of) :=
  fnG_gOf F sc_parts_of rfl rfl (by decide) fun cdv A outer s H E hr hgd => by
    have nd := sc_parts_of.nd
    unfold b_parts_of
    exact (ss_one (s_ret (e_ty call_tuple_of k_tuple (by rfl) z_tuple bo_tuple (a_cons (pa := false) (pb := true) (e_srt rfl (r4 hr) (by rfl) z_sorted bo_sorted (st_sc rfl nd (i_any (e_ix ix_any k_ix (v_dat 0) e_int (fun _ _ => rfl))) (blkOk_by (own := [("rule", 1)]) (N := N_parts_of) (sc := defScope st_parts_of) (by decide +kernel)) rfl (fun _ _ _ _ _ => (gv_name (by decide) nd (i := 1) rfl (.inl rfl))) (fun _ _ _ _ _ => tts_nil) (fun _ _ _ _ _ => (e_ix ix_any k_ix (v_dat 1) e_int (fun _ _ => rfl))))) a_nil))))
theorem ok_parts_of {P : Program} {w : World} {K : PySem.W.Frag} {mg : Str → Option Value} {base : Heap} {f : Addr} {fd : FuncData} (F : Fun K "parts_of" "parts_of" st_parts_of f fd) (mF : mg "parts_of" = some (.ref f)) (z_tuple : mg "tuple" = none) (z_sorted : mg "sorted" = none) :
    Fct P w K mg base 1 "parts_of" ["base"] 1 G_parts_of :=
  ⟨f, fd, mF, F.kp, F.binds fun _ _ _ _ _ _ us hl => match us, hl with | [_], _ => rfl, p_parts_of F mF z_tuple z_sorted⟩
/-! ### phantom -/
abbrev st_phantom : Stmt := topS 16
abbrev N_phantom : List Str := ["base", "part"]
theorem sc_phantom : FnScope N_phantom ["base"] (defScope st_phantom) := ⟨rfl, rfl, rfl, by decide +kernel, rfl, by decide +kernel, by decide +kernel⟩
theorem p_phantom {P : Program} {w : World} {K : PySem.W.Frag} {mg : Str → Option Value} {base : Heap} {f : Addr} {fd : FuncData} (F : Fun K "phantom" "phantom" st_phantom f fd) (mF : mg "phantom" = some (.ref f)) (z_tuple : mg "tuple" = none) (c_LEAD : GC K mg "LEAD" t_LEAD) (c_PART : GC K mg "PART" t_PART) (c_AFTER : GC K mg "AFTER" t_AFTER) (d_parts_of : Fct P w K mg base 1 "parts_of" ["base"] 1 G_parts_of) :
    FnG P w K mg base 2 f fd ["base"] (SpF K 1 G_phantom) :=
  fnG_gOf F sc_phantom rfl rfl (by decide) fun cdv A outer s H E hr hgd => by
    have nd := sc_phantom.nd
    unfold b_phantom
    exact (ss_one (s_ret (e_ty call_tuple_of k_tuple (by rfl) z_tuple bo_tuple (a_cons (pa := false) (pb := true) (e_lc rfl nd (i_any (e_def d_parts_of gOf_len (hr.mono (by decide)) hgd (by rfl) (a_cons (pa := true) (pb := true) (v_dat 0) a_nil))) (blkOk_by (own := [("part", 1)]) (N := N_phantom) (sc := defScope st_phantom) (by decide +kernel)) rfl (fun _ _ _ _ _ => (gv_name (by decide) nd (i := 1) rfl (.inl rfl))) (fun _ _ _ _ _ => tts_nil) (fun _ _ _ _ _ => (e_tup (a_cons (pa := true) (pb := true) (v_dat 1) (a_cons (pa := true) (pb := true) (e_tup (a_cons (pa := true) (pb := true) (e_tup (a_cons (pa := true) (pb := true) (e_gc c_LEAD (by rfl)) (a_cons (pa := true) (pb := true) (v_dat 1) a_nil))) (a_cons (pa := true) (pb := true) (e_tup (a_cons (pa := true) (pb := true) (e_gc c_PART (by rfl)) (a_cons (pa := true) (pb := true) (v_dat 1) a_nil))) (a_cons (pa := true) (pb := true) (e_tup (a_cons (pa := true) (pb := true) (e_gc c_AFTER (by rfl)) (a_cons (pa := true) (pb := true) (v_dat 1) a_nil))) a_nil)))) a_nil))))) a_nil))))
theorem ok_phantom {P : Program} {w : World} {K : PySem.W.Frag} {mg : Str → Option Value} {base : Heap} {f : Addr} {fd : FuncData} (F : Fun K "phantom" "phantom" st_phantom f fd) (mF : mg "phantom" = some (.ref f)) (z_tuple : mg "tuple" = none) (c_LEAD : GC K mg "LEAD" t_LEAD) (c_PART : GC K mg "PART" t_PART) (c_AFTER : GC K mg "AFTER" t_AFTER) (d_parts_of : Fct P w K mg base 1 "parts_of" ["base"] 1 G_parts_of) :
    Fct P w K mg base 2 "phantom" ["base"] 1 G_phantom :=
  ⟨f, fd, mF, F.kp, F.binds fun _ _ _ _ _ _ us hl => match us, hl with | [_], _ => rfl, p_phantom F mF z_tuple c_LEAD c_PART c_AFTER d_parts_of⟩
/-! ### is_free -/
abbrev st_is_free : Stmt := topS 17
abbrev N_is_free : List Str := ["kept", "terminal"]
theorem sc_is_free : FnScope N_is_free ["kept", "terminal"] (defScope st_is_free) := ⟨rfl, rfl, rfl, by decide +kernel, rfl, by decide +kernel, by decide +kernel⟩
theorem p_is_free {P : Program} {w : World} {K : PySem.W.Frag} {mg : Str → Option Value} {base : Heap} {f : Addr} {fd : FuncData} (F : Fun K "is_free" "is_free" st_is_free f fd) (mF : mg "is_free" = some (.ref f)) (c_WORD_terminals : GC K mg "WORD_terminals" t_WORD_terminals) (d_is_name : Fct P w K mg base 2 "is_name" ["thing"] 1 G_is_name) :
    FnG P w K mg base 3 f fd ["kept", "terminal"] (SpF K 2 G_is_free) :=
  fnG_gOf F sc_is_free rfl rfl (by decide) fun cdv A outer s H E hr hgd => by
    have nd := sc_is_free.nd
    unfold b_is_free
    exact (ss_one (s_ret (e_and (e_cmp (o_eqA hr.units) (k_eqA false) (e_ix ix_any k_ix (v_dat 1) e_int (fun _ _ => rfl)) (e_gc c_WORD_terminals (by rfl)) (nomark _)) (e_and (e_def d_is_name gOf_len (hr.mono (by decide)) hgd (by rfl) (a_cons (pa := true) (pb := true) (e_ix ix_any k_ix (v_dat 1) e_int (fun _ _ => rfl)) a_nil)) (e_one (e_cmp (o_notIn (r66 hr)) k_notInA (e_ix ix_any k_ix (v_dat 1) e_int (fun _ _ => rfl)) (v_dat 0) (by with_unfolding_all rfl)))))))
theorem ok_is_free {P : Program} {w : World} {K : PySem.W.Frag} {mg : Str → Option Value} {base : Heap} {f : Addr} {fd : FuncData} (F : Fun K "is_free" "is_free" st_is_free f fd) (mF : mg "is_free" = some (.ref f)) (c_WORD_terminals : GC K mg "WORD_terminals" t_WORD_terminals) (d_is_name : Fct P w K mg base 2 "is_name" ["thing"] 1 G_is_name) :
    Fct P w K mg base 3 "is_free" ["kept", "terminal"] 2 G_is_free :=
  ⟨f, fd, mF, F.kp, F.binds fun _ _ _ _ _ _ us hl => match us, hl with | [_, _], _ => rfl, p_is_free F mF c_WORD_terminals d_is_name⟩
/-! ### do_meet -/
abbrev st_do_meet : Stmt := topS 18
abbrev N_do_meet : List Str := ["kept", "one", "other"]
theorem sc_do_meet : FnScope N_do_meet ["kept", "one", "other"] (defScope st_do_meet) := ⟨rfl, rfl, rfl, by decide +kernel, rfl, by decide +kernel, by decide +kernel⟩
theorem p_do_meet {P : Program} {w : World} {K : PySem.W.Frag} {mg : Str → Option Value} {base : Heap} {f : Addr} {fd : FuncData} (F : Fun K "do_meet" "do_meet" st_do_meet f fd) (mF : mg "do_meet" = some (.ref f)) (c_NAME : GC K mg "NAME" t_NAME) (d_is_free : Fct P w K mg base 3 "is_free" ["kept", "terminal"] 2 G_is_free) :
    FnG P w K mg base 4 f fd ["kept", "one", "other"] (SpF K 3 G_do_meet) :=
  fnG_gOf F sc_do_meet rfl rfl (by decide) fun cdv A outer s H E hr hgd => by
    have nd := sc_do_meet.nd
    unfold b_do_meet
    exact (ss_cons (s_if (t_cmp (o_eqA hr.units) (k_eqA false) (v_dat 1) (v_dat 2) (nomark _)) (ss_one (s_ret e_bl)) ss_nil)
    (ss_one (s_ret (e_or (e_and (e_cmp (o_eqA hr.units) (k_eqA false) (v_dat 1) (e_gc c_NAME (by rfl)) (nomark _)) (e_one (e_def d_is_free gOf_len (hr.mono (by decide)) hgd (by rfl) (a_cons (pa := true) (pb := true) (v_dat 0) (a_cons (pa := true) (pb := true) (v_dat 2) a_nil))))) (e_one (e_and (e_cmp (o_eqA hr.units) (k_eqA false) (v_dat 2) (e_gc c_NAME (by rfl)) (nomark _)) (e_one (e_def d_is_free gOf_len (hr.mono (by decide)) hgd (by rfl) (a_cons (pa := true) (pb := true) (v_dat 0) (a_cons (pa := true) (pb := true) (v_dat 1) a_nil))))))))))
theorem ok_do_meet {P : Program} {w : World} {K : PySem.W.Frag} {mg : Str → Option Value} {base : Heap} {f : Addr} {fd : FuncData} (F : Fun K "do_meet" "do_meet" st_do_meet f fd) (mF : mg "do_meet" = some (.ref f)) (c_NAME : GC K mg "NAME" t_NAME) (d_is_free : Fct P w K mg base 3 "is_free" ["kept", "terminal"] 2 G_is_free) :
    Fct P w K mg base 4 "do_meet" ["kept", "one", "other"] 3 G_do_meet :=
  ⟨f, fd, mF, F.kp, F.binds fun _ _ _ _ _ _ us hl => match us, hl with | [_, _, _], _ => rfl, p_do_meet F mF c_NAME d_is_free⟩
/-! ### _law_deck -/
abbrev st__law_deck : Stmt := topS 20
abbrev N__law_deck : List Str := ["_law_script", "_law_cells", "_law_mixed", "_law_cell"]
theorem sc__law_deck : FnScope N__law_deck ["_law_script"] (defScope st__law_deck) := ⟨rfl, rfl, rfl, by decide +kernel, rfl, by decide +kernel, by decide +kernel⟩
theorem p__law_deck {P : Program} {w : World} {K : PySem.W.Frag} {mg : Str → Option Value} {base : Heap} {f : Addr} {fd : FuncData} (F : Fun K "_law_deck" "_law_deck" st__law_deck f fd) (mF : mg "_law_deck" = some (.ref f)) (z_list : mg "list" = none) :
    FnG P w K mg base 1 f fd ["_law_script"] (SpF K 1 G__law_deck) :=
  fnG_gOf F sc__law_deck rfl rfl (by decide) fun cdv A outer s H E hr hgd => by
    have nd := sc__law_deck.nd
    unfold b__law_deck
    exact (ss_cons (s_par2 rfl nd 1 2 rfl rfl (by decide) rfl rfl (a_cons (pa := true) (pb := true) (e_frz (e_ty call_list_of k_list (by rfl) z_list bo_list (a_cons (pa := true) (pb := true) (e_slH (v_bor 0) e_int) a_nil))) (a_cons (pa := true) (pb := true) e_int a_nil)) (by with_unfolding_all rfl))
    (ss_cons (s_for rfl PassesOwn.never (i_any (v_dat 1)) (g_name nd (i := 3) rfl (.inl rfl)) (ss_one (s_set nd (i := 2) rfl (.inl rfl) (e_bin op_mod k_mod (e_bin o_add k_add (e_bin o_add k_add (e_bin o_mul k_mul (v_dat 2) e_int) (e_bin op_mod k_mod (v_dat 3) e_int)) e_int) e_int))))
    (ss_one (s_ret (e_lst (a_cons (pa := true) (pb := true) (e_rev (v_dat 1)) (a_cons (pa := true) (pb := true) (v_dat 2) (a_cons (pa := true) (pb := true) e_int a_nil))))))))
theorem ok__law_deck {P : Program} {w : World} {K : PySem.W.Frag} {mg : Str → Option Value} {base : Heap} {f : Addr} {fd : FuncData} (F : Fun K "_law_deck" "_law_deck" st__law_deck f fd) (mF : mg "_law_deck" = some (.ref f)) (z_list : mg "list" = none) :
    Fct P w K mg base 1 "_law_deck" ["_law_script"] 1 G__law_deck :=
  ⟨f, fd, mF, F.kp, F.binds fun _ _ _ _ _ _ us hl => match us, hl with | [_], _ => rfl, p__law_deck F mF z_list⟩
/-! ### _law_draw -/
abbrev st__law_draw : Stmt := topS 21
abbrev N__law_draw : List Str := ["_law_deck_here", "_law_many", "_law_cell", "_law_number"]
theorem sc__law_draw : FnScope N__law_draw ["_law_deck_here", "_law_many"] (defScope st__law_draw) := ⟨rfl, rfl, rfl, by decide +kernel, rfl, by decide +kernel, by decide +kernel⟩
theorem p__law_draw {P : Program} {w : World} {K : PySem.W.Frag} {mg : Str → Option Value} {base : Heap} {f : Addr} {fd : FuncData} (F : Fun K "_law_draw" "_law_draw" st__law_draw f fd) (mF : mg "_law_draw" = some (.ref f)) :
    FnG P w K mg base 1 f fd ["_law_deck_here", "_law_many"] (SpF K 2 G__law_draw) :=
  fnG_gOf F sc__law_draw rfl rfl (by decide) fun cdv A outer s H E hr hgd => by
    have nd := sc__law_draw.nd
    unfold b__law_draw
    exact (ss_cons (s_put (e_frz (e_bin o_add k_add (v_bp (p_ix (p_name 0))) e_int)) (p_name 0) e_int)
    (ss_cons (s_set nd (i := 2) rfl (.inl rfl) (v_bp (p_ix (p_name 0))))
    (ss_cons (s_if (t_cmp (o_neA hr.units) (k_eqA true) (v_bp (p_ix (p_name 0))) (e_lst a_nil) (nomark _)) (ss_cons (s_set nd (i := 2) rfl (.inl rfl) (e_pop (p_ix (p_name 0))))
    (ss_cons (s_if (t_cmp op_ge (k_cmp _) (v_dat 2) (e_bin op_pow k_pow e_int e_int) (nomark _)) (ss_cons (s_expr (e_app (p_ix (p_name 0)) (e_bin op_fdivW k_div (v_dat 2) (v_dat 1))))
    (ss_one (s_ret (e_bin op_mod k_mod (v_dat 2) (v_dat 1))))) ss_nil)
    (ss_one (s_set nd (i := 2) rfl (.inl rfl) (e_frz (e_bin o_add k_add (v_dat 2) (v_bp (p_ix (p_name 0))))))))) ss_nil)
    (ss_cons (s_set nd (i := 3) rfl (.inl rfl) (e_bin op_mod k_mod (e_bin o_mul k_mul (e_bin o_add k_add (e_bin o_add k_add (e_bin op_mod k_mod (v_dat 2) e_int) (e_bin o_mul k_mul e_int (v_bp (p_ix (p_name 0))))) e_int) e_int) e_int))
    (ss_cons (s_set nd (i := 3) rfl (.inl rfl) (e_bin op_mod k_mod (e_bin o_add k_add (e_bin o_add k_add (e_bin o_mul k_mul (v_dat 3) (v_dat 3)) (e_bin o_mul k_mul e_int (v_bp (p_ix (p_name 0))))) e_int) e_int))
    (ss_one (s_ret (e_bin op_mod k_mod (e_bin op_fdivW k_div (e_bin op_mod k_mod (e_bin o_mul k_mul (v_dat 3) (e_bin o_add k_add (e_bin op_fdivW k_div (v_dat 3) e_int) e_int)) e_int) e_int) (v_dat 1)))))))))
theorem ok__law_draw {P : Program} {w : World} {K : PySem.W.Frag} {mg : Str → Option Value} {base : Heap} {f : Addr} {fd : FuncData} (F : Fun K "_law_draw" "_law_draw" st__law_draw f fd) (mF : mg "_law_draw" = some (.ref f)) :
    Fct P w K mg base 1 "_law_draw" ["_law_deck_here", "_law_many"] 2 G__law_draw :=
  ⟨f, fd, mF, F.kp, F.binds fun _ _ _ _ _ _ us hl => match us, hl with | [_, _], _ => rfl, p__law_draw F mF⟩
/-! ### _law_pick -/
abbrev st__law_pick : Stmt := topS 22
abbrev N__law_pick : List Str := ["_law_deck_here", "_law_some"]
theorem sc__law_pick : FnScope N__law_pick ["_law_deck_here", "_law_some"] (defScope st__law_pick) := ⟨rfl, rfl, rfl, by decide +kernel, rfl, by decide +kernel, by decide +kernel⟩
theorem p__law_pick {P : Program} {w : World} {K : PySem.W.Frag} {mg : Str → Option Value} {base : Heap} {f : Addr} {fd : FuncData} (F : Fun K "_law_pick" "_law_pick" st__law_pick f fd) (mF : mg "_law_pick" = some (.ref f)) (z_len : mg "len" = none) (d__law_draw : Fct P w K mg base 1 "_law_draw" ["_law_deck_here", "_law_many"] 2 G__law_draw) :
    FnG P w K mg base 2 f fd ["_law_deck_here", "_law_some"] (SpF K 2 G__law_pick) :=
  fnG_gOf F sc__law_pick rfl rfl (by decide) fun cdv A outer s H E hr hgd => by
    have nd := sc__law_pick.nd
    unfold b__law_pick
    exact (ss_one (s_ret (e_ix ix_any k_ix (v_dat 1) (e_def d__law_draw gOf_len (hr.mono (by decide)) hgd (by rfl) (a_cons (pa := false) (pb := true) (v_ref 0) (a_cons (pa := true) (pb := true) (e_fn call_len k_len (by rfl) z_len bo_len (a_cons (pa := true) (pb := true) (v_dat 1) a_nil)) a_nil))) (fun _ _ => rfl))))
theorem ok__law_pick {P : Program} {w : World} {K : PySem.W.Frag} {mg : Str → Option Value} {base : Heap} {f : Addr} {fd : FuncData} (F : Fun K "_law_pick" "_law_pick" st__law_pick f fd) (mF : mg "_law_pick" = some (.ref f)) (z_len : mg "len" = none) (d__law_draw : Fct P w K mg base 1 "_law_draw" ["_law_deck_here", "_law_many"] 2 G__law_draw) :
    Fct P w K mg base 2 "_law_pick" ["_law_deck_here", "_law_some"] 2 G__law_pick :=
  ⟨f, fd, mF, F.kp, F.binds fun _ _ _ _ _ _ us hl => match us, hl with | [_, _], _ => rfl, p__law_pick F mF z_len d__law_draw⟩
/-! ### _law_called -/
abbrev st__law_called : Stmt := topS 23
abbrev N__law_called : List Str := ["_law_deck_here", "_law_many", "_law_abc", "_law_way", "_law_first", "_law_found", "_law_k"]
theorem sc__law_called : FnScope N__law_called ["_law_deck_here", "_law_many"] (defScope st__law_called) := ⟨rfl, rfl, rfl, by decide +kernel, rfl, by decide +kernel, by decide +kernel⟩
theorem p__law_called {P : Program} {w : World} {K : PySem.W.Frag} {mg : Str → Option Value} {base : Heap} {f : Addr} {fd : FuncData} (F : Fun K "_law_called" "_law_called" st__law_called f fd) (mF : mg "_law_called" = some (.ref f)) (z_range : mg "range" = none) (d__law_draw : Fct P w K mg base 1 "_law_draw" ["_law_deck_here", "_law_many"] 2 G__law_draw) :
    FnG P w K mg base 2 f fd ["_law_deck_here", "_law_many"] (SpF K 2 G__law_called) :=
  fnG_gOf F sc__law_called rfl rfl (by decide) fun cdv A outer s H E hr hgd => by
    have nd := sc__law_called.nd
    unfold b__law_called
    exact (ss_cons (s_parT rfl [2, 3, 4] (a_cons (pa := true) (pb := false) e_str (a_cons (pa := false) (pb := false) (e_def d__law_draw gOf_len (hr.mono (by decide)) hgd (by rfl) (a_cons (pa := false) (pb := true) (v_ref 0) (a_cons (pa := true) (pb := true) e_int a_nil))) (a_cons (pa := false) (pb := true) (e_def d__law_draw gOf_len (hr.mono (by decide)) hgd (by rfl) (a_cons (pa := false) (pb := true) (v_ref 0) (a_cons (pa := true) (pb := true) e_int a_nil))) a_nil))) (pgs_cons (pg_name nd (i := 2) rfl (.inr rfl)) (pgs_cons (pg_name nd (i := 3) rfl (.inr rfl)) (pgs_cons (pg_name nd (i := 4) rfl (.inr rfl)) pgs_nil))))
    (ss_cons (s_lc rfl nd 5 rfl rfl (sw_true rfl rfl rfl (by decide +kernel)) (i_rng1 (by rfl) z_range (a_cons (pa := true) (pb := true) e_int a_nil)) (blkOk_by (own := [("_law_k", 6)]) (N := N__law_called) (sc := defScope st__law_called) (by decide +kernel)) rfl (fun _ _ _ _ _ => (gv_name (by decide) nd (i := 6) rfl (.inl rfl))) (fun _ _ _ _ _ => tts_nil) (fun _ _ _ _ _ => (e_frz (e_bin o_add k_add (e_ix ix_any k_ix (e_lst (a_cons (pa := true) (pb := true) e_str (a_cons (pa := true) (pb := true) e_str (a_cons (pa := true) (pb := true) e_str (a_cons (pa := true) (pb := true) e_str a_nil))))) (v_dat 3) (fun _ _ => rfl)) (e_ix ix_any k_ix (v_dat 2) (e_bin op_mod k_mod (e_bin o_add k_add (v_dat 4) (e_bin o_mul k_mul e_int (v_dat 6))) e_int) (fun _ _ => rfl))))))
    (ss_cons (s_if (t_cmp (o_eqA hr.units) (k_eqA false) (v_dat 3) e_int (nomark _)) (ss_one (s_set nd (i := 5) rfl (.inl rfl) (e_frz (e_bin o_add k_add (e_lst (a_cons (pa := true) (pb := true) e_str (a_cons (pa := true) (pb := true) e_str (a_cons (pa := true) (pb := true) e_str (a_cons (pa := true) (pb := true) e_str (a_cons (pa := true) (pb := true) e_str (a_cons (pa := true) (pb := true) e_str (a_cons (pa := true) (pb := true) e_str a_nil)))))))) (v_dat 5))))) ss_nil)
    (ss_one (s_ret (e_frz (e_slH (v_dat 5) (v_dat 1))))))))
theorem ok__law_called {P : Program} {w : World} {K : PySem.W.Frag} {mg : Str → Option Value} {base : Heap} {f : Addr} {fd : FuncData} (F : Fun K "_law_called" "_law_called" st__law_called f fd) (mF : mg "_law_called" = some (.ref f)) (z_range : mg "range" = none) (d__law_draw : Fct P w K mg base 1 "_law_draw" ["_law_deck_here", "_law_many"] 2 G__law_draw) :
    Fct P w K mg base 2 "_law_called" ["_law_deck_here", "_law_many"] 2 G__law_called :=
  ⟨f, fd, mF, F.kp, F.binds fun _ _ _ _ _ _ us hl => match us, hl with | [_, _], _ => rfl, p__law_called F mF z_range d__law_draw⟩
/-! ### _law_rule -/
abbrev st__law_rule : Stmt := topS 24
abbrev N__law_rule : List Str := ["_law_head", "_law_body", "_law_roles", "_law_sorts", "_law_symbol", "_law_sort"]
theorem sc__law_rule : FnScope N__law_rule ["_law_head", "_law_body"] (defScope st__law_rule) := ⟨rfl, rfl, rfl, by decide +kernel, rfl, by decide +kernel, by decide +kernel⟩
theorem p__law_rule {P : Program} {w : World} {K : PySem.W.Frag} {mg : Str → Option Value} {base : Heap} {f : Addr} {fd : FuncData} (F : Fun K "_law_rule" "_law_rule" st__law_rule f fd) (mF : mg "_law_rule" = some (.ref f)) (z_tuple : mg "tuple" = none) :
    FnG P w K mg base 1 f fd ["_law_head", "_law_body"] (SpF K 2 G__law_rule) :=
  fnG_gOf F sc__law_rule rfl rfl (by decide) fun cdv A outer s H E hr hgd => by
    have nd := sc__law_rule.nd
    unfold b__law_rule
    exact (ss_cons (s_set nd (i := 2) rfl (.inr rfl) (e_frz (e_dis (pps_cons e_str (e_tup (a_cons (pa := true) (pb := true) e_str (a_cons (pa := true) (pb := true) (e_tup (a_cons (pa := true) (pb := true) e_str a_nil)) a_nil))) (pps_cons e_str (e_tup (a_cons (pa := true) (pb := true) e_str a_nil)) (pps_cons e_str (e_tup (a_cons (pa := true) (pb := true) e_str (a_cons (pa := true) (pb := true) (e_tup (a_cons (pa := true) (pb := true) e_str a_nil)) (a_cons (pa := true) (pb := true) (e_tup a_nil) a_nil)))) pps_nil))) (.cons (.cons (.cons .nil))))))
    (ss_cons (s_lc rfl nd 3 rfl rfl (sw_true rfl rfl rfl (by decide +kernel)) (i_any (v_dat 1)) (blkOk_by (own := [("_law_symbol", 4)]) (N := N__law_rule) (sc := defScope st__law_rule) (by decide +kernel)) rfl (fun _ _ _ _ _ => (gv_name (by decide) nd (i := 4) rfl (.inl rfl))) (fun _ _ _ _ _ => (tts_one (t_cmp (o_neA hr.units) (k_eqA true) (e_ix ix_any k_ix (v_dat 4) e_int (fun _ _ => rfl)) e_str (nomark _)))) (fun _ _ _ _ _ => (e_ix ix_any k_ix (v_dat 4) e_int (fun _ _ => rfl))))
    (ss_one (s_ret (e_tup (a_cons (pa := true) (pb := false) (v_dat 0) (a_cons (pa := true) (pb := false) (e_ty call_tuple_of k_tuple (by rfl) z_tuple bo_tuple (a_cons (pa := true) (pb := true) (v_dat 1) a_nil)) (a_cons (pa := false) (pb := true) (e_ty call_tuple_of k_tuple (by rfl) z_tuple bo_tuple (a_cons (pa := false) (pb := true) (e_lc rfl nd (i_any (v_dat 3)) (blkOk_by (own := [("_law_sort", 5)]) (N := N__law_rule) (sc := defScope st__law_rule) (by decide +kernel)) rfl (fun _ _ _ _ _ => (gv_name (by decide) nd (i := 5) rfl (.inl rfl))) (fun _ _ _ _ _ => tts_nil) (fun _ _ _ _ _ => (e_dg (r1 hr) (v_dat 2) (v_dat 5) (fun _ _ => rfl)))) a_nil)) (a_cons (pa := true) (pb := true) (e_tup (a_cons (pa := true) (pb := true) e_str a_nil)) (a_cons (pa := true) (pb := true) (e_tup (a_cons (pa := true) (pb := true) e_str (a_cons (pa := true) (pb := true) e_int a_nil))) a_nil))))))))))
theorem ok__law_rule {P : Program} {w : World} {K : PySem.W.Frag} {mg : Str → Option Value} {base : Heap} {f : Addr} {fd : FuncData} (F : Fun K "_law_rule" "_law_rule" st__law_rule f fd) (mF : mg "_law_rule" = some (.ref f)) (z_tuple : mg "tuple" = none) :
    Fct P w K mg base 1 "_law_rule" ["_law_head", "_law_body"] 2 G__law_rule :=
  ⟨f, fd, mF, F.kp, F.binds fun _ _ _ _ _ _ us hl => match us, hl with | [_, _], _ => rfl, p__law_rule F mF z_tuple⟩
/-! ### _law_base -/
abbrev st__law_base : Stmt := topS 25
abbrev N__law_base : List Str := ["_law_deck_here", "_law_called_here", "_law_left", "_law_rules", "_law_start", "_law_words", "_law_head", "_law_k", "_law_some", "_law_body", "_law_j"]
theorem sc__law_base : FnScope N__law_base ["_law_deck_here", "_law_called_here"] (defScope st__law_base) := ⟨rfl, rfl, rfl, by decide +kernel, rfl, by decide +kernel, by decide +kernel⟩
theorem p__law_base {P : Program} {w : World} {K : PySem.W.Frag} {mg : Str → Option Value} {base : Heap} {f : Addr} {fd : FuncData} (F : Fun K "_law_base" "_law_base" st__law_base f fd) (mF : mg "_law_base" = some (.ref f)) (z_len : mg "len" = none) (z_range : mg "range" = none) (z_tuple : mg "tuple" = none) (d__law_draw : Fct P w K mg base 1 "_law_draw" ["_law_deck_here", "_law_many"] 2 G__law_draw) (d__law_pick : Fct P w K mg base 2 "_law_pick" ["_law_deck_here", "_law_some"] 2 G__law_pick) (d__law_rule : Fct P w K mg base 1 "_law_rule" ["_law_head", "_law_body"] 2 G__law_rule) :
    FnG P w K mg base 3 f fd ["_law_deck_here", "_law_called_here"] (SpF K 2 G__law_base) :=
  fnG_gOf F sc__law_base rfl rfl (by decide) fun cdv A outer s H E hr hgd => by
    have nd := sc__law_base.nd
    unfold b__law_base
    exact (ss_cons (s_par3 rfl nd 2 3 4 rfl rfl rfl (by decide) (by decide) (by decide) rfl rfl rfl (a_cons (pa := false) (pb := true) (e_slH (v_dat 1) (e_bin o_add k_add e_int (e_def d__law_draw gOf_len (hr.mono (by decide)) hgd (by rfl) (a_cons (pa := false) (pb := true) (v_ref 0) (a_cons (pa := true) (pb := true) e_int a_nil))))) (a_cons (pa := true) (pb := true) (e_lst a_nil) (a_cons (pa := true) (pb := true) e_non a_nil))) (by with_unfolding_all rfl))
    (ss_cons (s_set nd (i := 5) rfl (.inl rfl) (e_frz (e_bin o_add k_add (e_slLH (v_dat 1) e_int e_int) (e_lst (a_cons (pa := true) (pb := true) e_str (a_cons (pa := true) (pb := true) e_str (a_cons (pa := true) (pb := true) e_str (a_cons (pa := true) (pb := true) e_str a_nil))))))))
    (ss_cons (s_while 100 PassesOwn.never (t_cmp (o_neA hr.units) (k_eqA true) (v_bor 2) (e_lst a_nil) (nomark _)) (ss_cons (s_set nd (i := 6) rfl (.inl rfl) (e_popAt (p_name 2) (e_def d__law_draw gOf_len (hr.mono (by decide)) hgd (by rfl) (a_cons (pa := false) (pb := true) (v_ref 0) (a_cons (pa := true) (pb := true) (e_fn call_len k_len (by rfl) z_len bo_len (a_cons (pa := true) (pb := true) (v_bor 2) a_nil)) a_nil)))))
    (ss_cons (s_set nd (i := 4) rfl (.inl rfl) (e_if (t_cmp op_isN k_isN (v_dat 4) e_non (nomark _)) (v_dat 6) (v_dat 4)))
    (ss_one (s_for rfl PassesOwn.never (i_rng1 (by rfl) z_range (a_cons (pa := false) (pb := true) (e_bin o_add k_add e_int (e_def d__law_draw gOf_len (hr.mono (by decide)) hgd (by rfl) (a_cons (pa := false) (pb := true) (v_ref 0) (a_cons (pa := true) (pb := true) e_int a_nil)))) a_nil)) (g_name nd (i := 7) rfl (.inl rfl)) (ss_cons (s_set nd (i := 8) rfl (.inr rfl) (e_frz (e_lst (a_cons (pa := false) (pb := true) (e_tup (a_cons (pa := true) (pb := false) e_str (a_cons (pa := false) (pb := true) (e_def d__law_pick gOf_len (hr.mono (by decide)) hgd (by rfl) (a_cons (pa := false) (pb := true) (v_ref 0) (a_cons (pa := true) (pb := true) (v_dat 5) a_nil))) a_nil))) (a_cons (pa := true) (pb := true) (e_tup (a_cons (pa := true) (pb := true) e_str a_nil)) (a_cons (pa := true) (pb := true) (e_tup (a_cons (pa := true) (pb := true) e_str a_nil)) (a_cons (pa := true) (pb := true) (e_tup (a_cons (pa := true) (pb := true) e_str (a_cons (pa := true) (pb := true) (v_dat 6) a_nil))) a_nil)))))))
    (ss_cons (s_lc rfl nd 9 rfl rfl (sw_true rfl rfl rfl (by decide +kernel)) (i_rng1 (by rfl) z_range (a_cons (pa := false) (pb := true) (e_def d__law_draw gOf_len (hr.mono (by decide)) hgd (by rfl) (a_cons (pa := false) (pb := true) (v_ref 0) (a_cons (pa := true) (pb := true) e_int a_nil))) a_nil)) (blkOk_by (own := [("_law_j", 10)]) (N := N__law_base) (sc := defScope st__law_base) (by decide +kernel)) rfl (fun _ _ _ _ _ => (gv_name (by decide) nd (i := 10) rfl (.inl rfl))) (fun _ _ _ _ _ => tts_nil) (fun _ _ _ _ _ => (e_ix ix_any k_ix (v_dat 8) (e_def d__law_draw gOf_len (hr.mono (by decide)) hgd (by rfl) (a_cons (pa := false) (pb := true) (v_ref 0) (a_cons (pa := true) (pb := true) e_int a_nil))) (fun _ _ => rfl))))
    (ss_one (s_expr (e_app (p_name 3) (e_def d__law_rule gOf_len (hr.mono (by decide)) hgd (by rfl) (a_cons (pa := true) (pb := true) (v_dat 6) (a_cons (pa := true) (pb := true) (e_frz (e_bin o_add k_add (v_dat 9) (e_lst (a_cons (pa := true) (pb := true) (e_tup (a_cons (pa := true) (pb := true) e_str (a_cons (pa := true) (pb := true) (e_frz (e_bin o_mul k_mul e_str (e_bin o_add k_add (v_dat 7) e_int))) a_nil))) a_nil)))) a_nil)))))))))))))
    (ss_one (s_ret (e_tup (a_cons (pa := true) (pb := true) e_str (a_cons (pa := true) (pb := true) (v_dat 4) (a_cons (pa := true) (pb := true) (e_ty call_tuple_of k_tuple (by rfl) z_tuple bo_tuple (a_cons (pa := true) (pb := true) (v_bor 3) a_nil)) a_nil)))))))))
theorem ok__law_base {P : Program} {w : World} {K : PySem.W.Frag} {mg : Str → Option Value} {base : Heap} {f : Addr} {fd : FuncData} (F : Fun K "_law_base" "_law_base" st__law_base f fd) (mF : mg "_law_base" = some (.ref f)) (z_len : mg "len" = none) (z_range : mg "range" = none) (z_tuple : mg "tuple" = none) (d__law_draw : Fct P w K mg base 1 "_law_draw" ["_law_deck_here", "_law_many"] 2 G__law_draw) (d__law_pick : Fct P w K mg base 2 "_law_pick" ["_law_deck_here", "_law_some"] 2 G__law_pick) (d__law_rule : Fct P w K mg base 1 "_law_rule" ["_law_head", "_law_body"] 2 G__law_rule) :
    Fct P w K mg base 3 "_law_base" ["_law_deck_here", "_law_called_here"] 2 G__law_base :=
  ⟨f, fd, mF, F.kp, F.binds fun _ _ _ _ _ _ us hl => match us, hl with | [_, _], _ => rfl, p__law_base F mF z_len z_range z_tuple d__law_draw d__law_pick d__law_rule⟩
/-! ### _law_is_open -/
abbrev st__law_is_open : Stmt := topS 26
abbrev N__law_is_open : List Str := ["_law_held", "_law_terminal", "_law_letters", "_law_word", "_law_sign"]
theorem sc__law_is_open : FnScope N__law_is_open ["_law_held", "_law_terminal"] (defScope st__law_is_open) := ⟨rfl, rfl, rfl, by decide +kernel, rfl, by decide +kernel, by decide +kernel⟩
theorem p__law_is_open {P : Program} {w : World} {K : PySem.W.Frag} {mg : Str → Option Value} {base : Heap} {f : Addr} {fd : FuncData} (F : Fun K "_law_is_open" "_law_is_open" st__law_is_open f fd) (mF : mg "_law_is_open" = some (.ref f)) :
    FnG P w K mg base 1 f fd ["_law_held", "_law_terminal"] (SpF K 2 G__law_is_open) :=
  fnG_gOf F sc__law_is_open rfl rfl (by decide) fun cdv A outer s H E hr hgd => by
    have nd := sc__law_is_open.nd
    unfold b__law_is_open
    exact (ss_cons (s_set nd (i := 2) rfl (.inr rfl) e_str)
    (ss_cons (s_if (PW.pt (w_or (t_cmp (o_neA hr.units) (k_eqA true) (e_ix ix_any k_ix (v_dat 1) e_int (fun _ _ => rfl)) e_str (nomark _)) (w_or1 (t_cmp (o_neA hr.units) (k_eqA true) (e_lc rfl nd (i_any (e_ix ix_any k_ix (v_dat 1) e_int (fun _ _ => rfl))) (blkOk_by (own := [("_law_sign", 4)]) (N := N__law_is_open) (sc := defScope st__law_is_open) (by decide +kernel)) rfl (fun _ _ _ _ _ => (gv_name (by decide) nd (i := 4) rfl (.inl rfl))) (fun _ _ _ _ _ => (tts_one (t_cmp (o_notIn (r66 hr)) k_notInA (v_dat 4) (v_dat 2) (by with_unfolding_all rfl)))) (fun _ _ _ _ _ => (v_dat 4))) (e_lst a_nil) (nomark _))))) (ss_one (s_ret e_bl)) ss_nil)
    (ss_one (s_ret (e_cmp (o_eqA hr.units) (k_eqA false) (e_lc rfl nd (i_any (v_dat 0)) (blkOk_by (own := [("_law_word", 3)]) (N := N__law_is_open) (sc := defScope st__law_is_open) (by decide +kernel)) rfl (fun _ _ _ _ _ => (gv_name (by decide) nd (i := 3) rfl (.inl rfl))) (fun _ _ _ _ _ => (tts_one (t_cmp (o_eqA hr.units) (k_eqA false) (v_dat 3) (e_ix ix_any k_ix (v_dat 1) e_int (fun _ _ => rfl)) (nomark _)))) (fun _ _ _ _ _ => (v_dat 3))) (e_lst a_nil) (nomark _))))))
theorem ok__law_is_open {P : Program} {w : World} {K : PySem.W.Frag} {mg : Str → Option Value} {base : Heap} {f : Addr} {fd : FuncData} (F : Fun K "_law_is_open" "_law_is_open" st__law_is_open f fd) (mF : mg "_law_is_open" = some (.ref f)) :
    Fct P w K mg base 1 "_law_is_open" ["_law_held", "_law_terminal"] 2 G__law_is_open :=
  ⟨f, fd, mF, F.kp, F.binds fun _ _ _ _ _ _ us hl => match us, hl with | [_, _], _ => rfl, p__law_is_open F mF⟩
/-! ### _law_meets -/
abbrev st__law_meets : Stmt := topS 27
abbrev N__law_meets : List Str := ["_law_held", "_law_this", "_law_that"]
theorem sc__law_meets : FnScope N__law_meets ["_law_held", "_law_this", "_law_that"] (defScope st__law_meets) := ⟨rfl, rfl, rfl, by decide +kernel, rfl, by decide +kernel, by decide +kernel⟩
theorem p__law_meets {P : Program} {w : World} {K : PySem.W.Frag} {mg : Str → Option Value} {base : Heap} {f : Addr} {fd : FuncData} (F : Fun K "_law_meets" "_law_meets" st__law_meets f fd) (mF : mg "_law_meets" = some (.ref f)) (d__law_is_open : Fct P w K mg base 1 "_law_is_open" ["_law_held", "_law_terminal"] 2 G__law_is_open) :
    FnG P w K mg base 2 f fd ["_law_held", "_law_this", "_law_that"] (SpF K 3 G__law_meets) :=
  fnG_gOf F sc__law_meets rfl rfl (by decide) fun cdv A outer s H E hr hgd => by
    have nd := sc__law_meets.nd
    unfold b__law_meets
    exact (ss_cons (s_if (t_cmp (o_eqA hr.units) (k_eqA false) (v_dat 1) (v_dat 2) (nomark _)) (ss_one (s_ret e_bl)) ss_nil)
    (ss_one (s_ret (e_and (e_cmp (o_in (r66 hr)) k_inA (e_tup (a_cons (pa := true) (pb := true) e_str a_nil)) (e_tup (a_cons (pa := true) (pb := true) (v_dat 1) (a_cons (pa := true) (pb := true) (v_dat 2) a_nil))) (by with_unfolding_all rfl)) (e_one (e_or (e_def d__law_is_open gOf_len (hr.mono (by decide)) hgd (by rfl) (a_cons (pa := true) (pb := true) (v_dat 0) (a_cons (pa := true) (pb := true) (v_dat 1) a_nil))) (e_one (e_def d__law_is_open gOf_len (hr.mono (by decide)) hgd (by rfl) (a_cons (pa := true) (pb := true) (v_dat 0) (a_cons (pa := true) (pb := true) (v_dat 2) a_nil))))))))))
theorem ok__law_meets {P : Program} {w : World} {K : PySem.W.Frag} {mg : Str → Option Value} {base : Heap} {f : Addr} {fd : FuncData} (F : Fun K "_law_meets" "_law_meets" st__law_meets f fd) (mF : mg "_law_meets" = some (.ref f)) (d__law_is_open : Fct P w K mg base 1 "_law_is_open" ["_law_held", "_law_terminal"] 2 G__law_is_open) :
    Fct P w K mg base 2 "_law_meets" ["_law_held", "_law_this", "_law_that"] 3 G__law_meets :=
  ⟨f, fd, mF, F.kp, F.binds fun _ _ _ _ _ _ us hl => match us, hl with | [_, _, _], _ => rfl, p__law_meets F mF d__law_is_open⟩
/-! ### _law_terminals -/
abbrev st__law_terminals : Stmt := topS 28
abbrev N__law_terminals : List Str := ["_law_deck_here", "_law_parts", "_law_called_here", "_law_found", "_law_word", "_law_part", "_law_k"]
theorem sc__law_terminals : FnScope N__law_terminals ["_law_deck_here", "_law_parts", "_law_called_here"] (defScope st__law_terminals) := ⟨rfl, rfl, rfl, by decide +kernel, rfl, by decide +kernel, by decide +kernel⟩
theorem p__law_terminals {P : Program} {w : World} {K : PySem.W.Frag} {mg : Str → Option Value} {base : Heap} {f : Addr} {fd : FuncData} (F : Fun K "_law_terminals" "_law_terminals" st__law_terminals f fd) (mF : mg "_law_terminals" = some (.ref f)) (z_range : mg "range" = none) (d__law_pick : Fct P w K mg base 2 "_law_pick" ["_law_deck_here", "_law_some"] 2 G__law_pick) :
    FnG P w K mg base 3 f fd ["_law_deck_here", "_law_parts", "_law_called_here"] (SpF K 3 G__law_terminals) :=
  fnG_gOf F sc__law_terminals rfl rfl (by decide) fun cdv A outer s H E hr hgd => by
    have nd := sc__law_terminals.nd
    unfold b__law_terminals
    exact (ss_cons (s_set nd (i := 3) rfl (.inr rfl) (e_lst (a_cons (pa := true) (pb := true) (e_tup (a_cons (pa := true) (pb := true) e_str a_nil)) (a_cons (pa := true) (pb := true) (e_tup (a_cons (pa := true) (pb := true) e_str a_nil)) (a_cons (pa := true) (pb := true) (e_tup (a_cons (pa := true) (pb := true) e_str a_nil)) a_nil)))))
    (ss_cons (s_for rfl PassesOwn.never (i_any (e_bin o_add k_add (v_dat 2) (e_lst (a_cons (pa := true) (pb := true) e_str (a_cons (pa := true) (pb := true) e_str (a_cons (pa := true) (pb := true) e_str (a_cons (pa := true) (pb := true) e_str (a_cons (pa := true) (pb := true) e_str (a_cons (pa := true) (pb := true) e_str (a_cons (pa := true) (pb := true) e_str (a_cons (pa := true) (pb := true) e_str (a_cons (pa := true) (pb := true) e_str (a_cons (pa := true) (pb := true) e_str a_nil))))))))))))) (g_name nd (i := 4) rfl (.inl rfl)) (ss_one (s_expr (e_app (p_name 3) (e_tup (a_cons (pa := true) (pb := true) e_str (a_cons (pa := true) (pb := true) (v_dat 4) a_nil)))))))
    (ss_cons (s_for rfl PassesOwn.never (i_any (v_dat 1)) (g_name nd (i := 5) rfl (.inl rfl)) (ss_one (s_set nd (i := 3) rfl (.inr rfl) (e_bin o_add k_add (v_bor 3) (e_lst (a_cons (pa := true) (pb := true) (e_tup (a_cons (pa := true) (pb := true) e_str (a_cons (pa := true) (pb := true) (v_dat 5) a_nil))) (a_cons (pa := true) (pb := true) (e_tup (a_cons (pa := true) (pb := true) e_str (a_cons (pa := true) (pb := true) (v_dat 5) a_nil))) (a_cons (pa := true) (pb := true) (e_tup (a_cons (pa := true) (pb := true) e_str (a_cons (pa := true) (pb := true) (v_dat 5) a_nil))) a_nil))))))))
    (ss_one (s_ret (e_frz (e_bin o_add k_add (e_bin o_add k_add (e_lc rfl nd (i_rng1 (by rfl) z_range (a_cons (pa := true) (pb := true) e_int a_nil)) (blkOk_by (own := [("_law_k", 6)]) (N := N__law_terminals) (sc := defScope st__law_terminals) (by decide +kernel)) rfl (fun _ _ _ _ _ => (gv_name (by decide) nd (i := 6) rfl (.inl rfl))) (fun _ _ _ _ _ => tts_nil) (fun _ _ _ _ _ => (e_def d__law_pick gOf_len (hr.mono (by decide)) hgd (by rfl) (a_cons (pa := false) (pb := false) (v_ref 0) (a_cons (pa := false) (pb := true) (v_shr 3) a_nil))))) (e_slH (v_bor 3) e_int)) (e_lst (a_cons (pa := true) (pb := true) (e_tup (a_cons (pa := true) (pb := true) e_str (a_cons (pa := true) (pb := true) (e_ix ix_any k_ix (v_dat 1) e_int (fun _ _ => rfl)) a_nil))) a_nil)))))))))
theorem ok__law_terminals {P : Program} {w : World} {K : PySem.W.Frag} {mg : Str → Option Value} {base : Heap} {f : Addr} {fd : FuncData} (F : Fun K "_law_terminals" "_law_terminals" st__law_terminals f fd) (mF : mg "_law_terminals" = some (.ref f)) (z_range : mg "range" = none) (d__law_pick : Fct P w K mg base 2 "_law_pick" ["_law_deck_here", "_law_some"] 2 G__law_pick) :
    Fct P w K mg base 3 "_law_terminals" ["_law_deck_here", "_law_parts", "_law_called_here"] 3 G__law_terminals :=
  ⟨f, fd, mF, F.kp, F.binds fun _ _ _ _ _ _ us hl => match us, hl with | [_, _, _], _ => rfl, p__law_terminals F mF z_range d__law_pick⟩
/-! ### _law_all_meet -/
abbrev st__law_all_meet : Stmt := topS 29
abbrev N__law_all_meet : List Str := ["_law_held", "_law_some", "_law_this", "_law_that", "_law_due"]
theorem sc__law_all_meet : FnScope N__law_all_meet ["_law_held", "_law_some"] (defScope st__law_all_meet) := ⟨rfl, rfl, rfl, by decide +kernel, rfl, by decide +kernel, by decide +kernel⟩
theorem p__law_all_meet {P : Program} {w : World} {K : PySem.W.Frag} {mg : Str → Option Value} {base : Heap} {f : Addr} {fd : FuncData} (F : Fun K "_law_all_meet" "_law_all_meet" st__law_all_meet f fd) (mF : mg "_law_all_meet" = some (.ref f)) (z_repr : mg "repr" = none) (d__law_meets : Fct P w K mg base 2 "_law_meets" ["_law_held", "_law_this", "_law_that"] 3 G__law_meets) (d_do_meet : Fct P w K mg base 4 "do_meet" ["kept", "one", "other"] 3 G_do_meet) (k_do_meet_other_one_kept : FctK P w K mg base 4 "do_meet" ["kept", "one", "other"] ["other", "one", "kept"] [2, 1, 0] 3 G_do_meet) :
    FnG P w K mg base 5 f fd ["_law_held", "_law_some"] (SpF K 2 G__law_all_meet) :=
  fnG_gOf F sc__law_all_meet rfl rfl (by decide) fun cdv A outer s H E hr hgd => by
    have nd := sc__law_all_meet.nd
    unfold b__law_all_meet
    exact (ss_cons (s_for rfl PassesOwn.never (i_any (v_dat 1)) (g_name nd (i := 2) rfl (.inl rfl)) (ss_one (s_for rfl PassesOwn.never (i_any (v_dat 1)) (g_name nd (i := 3) rfl (.inl rfl)) (ss_cons (s_set nd (i := 4) rfl (.inl rfl) (e_fn (call_repr hgd (r66 hr)) k_repr (by rfl) z_repr bo_repr (a_cons (pa := false) (pb := true) (e_def d__law_meets gOf_len (hr.mono (by decide)) hgd (by rfl) (a_cons (pa := true) (pb := true) (v_dat 0) (a_cons (pa := true) (pb := true) (v_dat 2) (a_cons (pa := true) (pb := true) (v_dat 3) a_nil)))) a_nil)))
    (ss_one (s_if (PW.pt (w_or (t_cmp (o_neA hr.units) (k_eqA true) (e_fn (call_repr hgd (r66 hr)) k_repr (by rfl) z_repr bo_repr (a_cons (pa := false) (pb := true) (e_def d_do_meet gOf_len (hr.mono (by decide)) hgd (by rfl) (a_cons (pa := true) (pb := true) (v_dat 0) (a_cons (pa := true) (pb := true) (v_dat 2) (a_cons (pa := true) (pb := true) (v_dat 3) a_nil)))) a_nil)) (v_dat 4) (nomark _)) (w_or1 (t_cmp (o_neA hr.units) (k_eqA true) (e_fn (call_repr hgd (r66 hr)) k_repr (by rfl) z_repr bo_repr (a_cons (pa := false) (pb := true) (e_defK k_do_meet_other_one_kept gOf_len (hr.mono (by decide)) hgd (by rfl) (kw_cons (p := true) (q := true) (v_dat 3) (kw_cons (p := true) (q := true) (v_dat 2) (kw_cons (p := true) (q := true) (v_dat 0) kw_nil))) (consF_len (consF_len (consF_len nilF_len)))) a_nil)) (v_dat 4) (nomark _))))) (ss_one (s_ret e_bl)) ss_nil))))))
    (ss_one (s_ret e_bl)))
theorem ok__law_all_meet {P : Program} {w : World} {K : PySem.W.Frag} {mg : Str → Option Value} {base : Heap} {f : Addr} {fd : FuncData} (F : Fun K "_law_all_meet" "_law_all_meet" st__law_all_meet f fd) (mF : mg "_law_all_meet" = some (.ref f)) (z_repr : mg "repr" = none) (d__law_meets : Fct P w K mg base 2 "_law_meets" ["_law_held", "_law_this", "_law_that"] 3 G__law_meets) (d_do_meet : Fct P w K mg base 4 "do_meet" ["kept", "one", "other"] 3 G_do_meet) (k_do_meet_other_one_kept : FctK P w K mg base 4 "do_meet" ["kept", "one", "other"] ["other", "one", "kept"] [2, 1, 0] 3 G_do_meet) :
    Fct P w K mg base 5 "_law_all_meet" ["_law_held", "_law_some"] 2 G__law_all_meet :=
  ⟨f, fd, mF, F.kp, F.binds fun _ _ _ _ _ _ us hl => match us, hl with | [_, _], _ => rfl, p__law_all_meet F mF z_repr d__law_meets d_do_meet k_do_meet_other_one_kept⟩
/-! ### law -/
abbrev st_law : Stmt := topS 30
abbrev N_law : List Str := ["_law_script", "_law_deck_here", "_law_turn", "_law_called_here", "_law_bare_base", "_law_written", "_law_parts", "_law_due", "_law_some", "_law_more_held", "_law_held", "_law_part", "_law_rule_here", "_law_word"]
theorem sc_law : FnScope N_law ["_law_script"] (defScope st_law) := ⟨rfl, rfl, rfl, by decide +kernel, rfl, by decide +kernel, by decide +kernel⟩
theorem p_law {P : Program} {w : World} {K : PySem.W.Frag} {mg : Str → Option Value} {base : Heap} {f : Addr} {fd : FuncData} (F : Fun K "law" "law" st_law f fd) (mF : mg "law" = some (.ref f)) (z_range : mg "range" = none) (z_repr : mg "repr" = none) (z_sorted : mg "sorted" = none) (z_set : mg "set" = none) (z_tuple : mg "tuple" = none) (d__law_deck : Fct P w K mg base 1 "_law_deck" ["_law_script"] 1 G__law_deck) (d__law_called : Fct P w K mg base 2 "_law_called" ["_law_deck_here", "_law_many"] 2 G__law_called) (d__law_base : Fct P w K mg base 3 "_law_base" ["_law_deck_here", "_law_called_here"] 2 G__law_base) (d_phantom : Fct P w K mg base 2 "phantom" ["base"] 1 G_phantom) (d__law_terminals : Fct P w K mg base 3 "_law_terminals" ["_law_deck_here", "_law_parts", "_law_called_here"] 3 G__law_terminals) (d__law_draw : Fct P w K mg base 1 "_law_draw" ["_law_deck_here", "_law_many"] 2 G__law_draw) (d_kept_words : Fct P w K mg base 3 "kept_words" ["base"] 1 G_kept_words) (d__law_all_meet : Fct P w K mg base 5 "_law_all_meet" ["_law_held", "_law_some"] 2 G__law_all_meet) (k_phantom_base : FctK P w K mg base 2 "phantom" ["base"] ["base"] [0] 1 G_phantom) :
    FnG P w K mg base 6 f fd ["_law_script"] (SpF K 1 G_law) :=
  fnG_gOf F sc_law rfl rfl (by decide) fun cdv A outer s H E hr hgd => by
    have nd := sc_law.nd
    unfold b_law
    exact (ss_cons (s_set nd (i := 1) rfl (.inr rfl) (e_def d__law_deck gOf_len (hr.mono (by decide)) hgd (by rfl) (a_cons (pa := false) (pb := true) (v_ref 0) a_nil)))
    (ss_cons (s_for rfl PassesOwn.never (i_rng1 (by rfl) z_range (a_cons (pa := true) (pb := true) e_int a_nil)) (g_name nd (i := 2) rfl (.inl rfl)) (ss_cons (s_set nd (i := 3) rfl (.inl rfl) (e_def d__law_called gOf_len (hr.mono (by decide)) hgd (by rfl) (a_cons (pa := false) (pb := true) (v_ref 1) (a_cons (pa := true) (pb := true) e_int a_nil))))
    (ss_cons (s_set nd (i := 4) rfl (.inl rfl) (e_def d__law_base gOf_len (hr.mono (by decide)) hgd (by rfl) (a_cons (pa := false) (pb := true) (v_ref 1) (a_cons (pa := true) (pb := true) (v_dat 3) a_nil))))
    (ss_cons (s_set nd (i := 5) rfl (.inl rfl) (e_fn (call_repr hgd (r66 hr)) k_repr (by rfl) z_repr bo_repr (a_cons (pa := true) (pb := true) (v_dat 4) a_nil)))
    (ss_cons (s_set nd (i := 6) rfl (.inl rfl) (e_frz (e_srt rfl (r4 hr) (by rfl) z_sorted bo_sorted (st_call rfl (by rfl) z_set bo_set (e_lc rfl nd (i_any (e_ix ix_any k_ix (v_dat 4) e_int (fun _ _ => rfl))) (blkOk_by (own := [("_law_rule_here", 12)]) (N := N_law) (sc := defScope st_law) (by decide +kernel)) rfl (fun _ _ _ _ _ => (gv_name (by decide) nd (i := 12) rfl (.inl rfl))) (fun _ _ _ _ _ => tts_nil) (fun _ _ _ _ _ => (e_ix ix_any k_ix (v_dat 12) e_int (fun _ _ => rfl))))))))
    (ss_cons (s_set nd (i := 7) rfl (.inl rfl) (e_ty call_tuple_of k_tuple (by rfl) z_tuple bo_tuple (a_cons (pa := false) (pb := true) (e_lc rfl nd (i_any (v_dat 6)) (blkOk_by (own := [("_law_part", 11)]) (N := N_law) (sc := defScope st_law) (by decide +kernel)) rfl (fun _ _ _ _ _ => (gv_name (by decide) nd (i := 11) rfl (.inl rfl))) (fun _ _ _ _ _ => tts_nil) (fun _ _ _ _ _ => (e_tup (a_cons (pa := true) (pb := true) (v_dat 11) (a_cons (pa := true) (pb := true) (e_tup (a_cons (pa := true) (pb := true) (e_tup (a_cons (pa := true) (pb := true) e_str (a_cons (pa := true) (pb := true) (v_dat 11) a_nil))) (a_cons (pa := true) (pb := true) (e_tup (a_cons (pa := true) (pb := true) e_str (a_cons (pa := true) (pb := true) (v_dat 11) a_nil))) (a_cons (pa := true) (pb := true) (e_tup (a_cons (pa := true) (pb := true) e_str (a_cons (pa := true) (pb := true) (v_dat 11) a_nil))) a_nil)))) a_nil))))) a_nil)))
    (ss_cons (s_if (PW.pt (w_or (t_cmp (o_neA hr.units) (k_eqA true) (e_fn (call_repr hgd (r66 hr)) k_repr (by rfl) z_repr bo_repr (a_cons (pa := false) (pb := true) (e_lst (a_cons (pa := false) (pb := false) (e_def d_phantom gOf_len (hr.mono (by decide)) hgd (by rfl) (a_cons (pa := true) (pb := true) (v_dat 4) a_nil)) (a_cons (pa := false) (pb := true) (e_defK k_phantom_base gOf_len (hr.mono (by decide)) hgd (by rfl) (kw_cons (p := true) (q := true) (v_dat 4) kw_nil) (consF_len nilF_len)) a_nil))) a_nil)) (e_fn (call_repr hgd (r66 hr)) k_repr (by rfl) z_repr bo_repr (a_cons (pa := true) (pb := true) (e_lst (a_cons (pa := true) (pb := true) (v_dat 7) (a_cons (pa := true) (pb := true) (v_dat 7) a_nil))) a_nil)) (nomark _)) (w_or1 (t_cmp (o_neA hr.units) (k_eqA true) (e_fn (call_repr hgd (r66 hr)) k_repr (by rfl) z_repr bo_repr (a_cons (pa := true) (pb := true) (v_dat 4) a_nil)) (v_dat 5) (nomark _))))) (ss_one (s_ret e_bl)) ss_nil)
    (ss_cons (s_set nd (i := 8) rfl (.inl rfl) (e_def d__law_terminals gOf_len (hr.mono (by decide)) hgd (by rfl) (a_cons (pa := false) (pb := true) (v_ref 1) (a_cons (pa := true) (pb := true) (v_dat 6) (a_cons (pa := true) (pb := true) (v_dat 3) a_nil)))))
    (ss_cons (s_set nd (i := 9) rfl (.inl rfl) (e_ty call_tuple_of k_tuple (by rfl) z_tuple bo_tuple (a_cons (pa := false) (pb := true) (e_srt rfl (r4 hr) (by rfl) z_sorted bo_sorted (st_call rfl (by rfl) z_set bo_set (e_lc rfl nd (i_any (e_bin o_add k_add (v_dat 3) (e_lst (a_cons (pa := true) (pb := true) e_str a_nil)))) (blkOk_by (own := [("_law_word", 13)]) (N := N_law) (sc := defScope st_law) (by decide +kernel)) rfl (fun _ _ _ _ _ => (gv_name (by decide) nd (i := 13) rfl (.inl rfl))) (fun _ _ _ _ _ => (tts_one (t_cmp (o_eqA hr.units) (k_eqA false) (e_def d__law_draw gOf_len (hr.mono (by decide)) hgd (by rfl) (a_cons (pa := false) (pb := true) (v_ref 1) (a_cons (pa := true) (pb := true) e_int a_nil))) e_int (nomark _)))) (fun _ _ _ _ _ => (v_dat 13))))) a_nil)))
    (ss_cons (s_for rfl PassesOwn.never (i_any (e_tup (a_cons (pa := false) (pb := true) (e_def d_kept_words gOf_len (hr.mono (by decide)) hgd (by rfl) (a_cons (pa := true) (pb := true) (v_dat 4) a_nil)) (a_cons (pa := true) (pb := true) (v_dat 9) (a_cons (pa := true) (pb := true) (e_tup a_nil) a_nil))))) (g_name nd (i := 10) rfl (.inl rfl)) (ss_one (s_if (t_not (t_val (e_def d__law_all_meet gOf_len (hr.mono (by decide)) hgd (by rfl) (a_cons (pa := true) (pb := true) (v_dat 10) (a_cons (pa := true) (pb := true) (v_dat 8) a_nil))))) (ss_one (s_ret e_bl)) ss_nil)))
    (ss_one (s_if (t_cmp (o_neA hr.units) (k_eqA true) (e_fn (call_repr hgd (r66 hr)) k_repr (by rfl) z_repr bo_repr (a_cons (pa := false) (pb := true) (e_def d_phantom gOf_len (hr.mono (by decide)) hgd (by rfl) (a_cons (pa := true) (pb := true) (v_dat 4) a_nil)) a_nil)) (e_fn (call_repr hgd (r66 hr)) k_repr (by rfl) z_repr bo_repr (a_cons (pa := true) (pb := true) (v_dat 7) a_nil)) (nomark _)) (ss_one (s_ret e_bl)) ss_nil))))))))))))
    (ss_one (s_ret e_bl))))
theorem ok_law {P : Program} {w : World} {K : PySem.W.Frag} {mg : Str → Option Value} {base : Heap} {f : Addr} {fd : FuncData} (F : Fun K "law" "law" st_law f fd) (mF : mg "law" = some (.ref f)) (z_range : mg "range" = none) (z_repr : mg "repr" = none) (z_sorted : mg "sorted" = none) (z_set : mg "set" = none) (z_tuple : mg "tuple" = none) (d__law_deck : Fct P w K mg base 1 "_law_deck" ["_law_script"] 1 G__law_deck) (d__law_called : Fct P w K mg base 2 "_law_called" ["_law_deck_here", "_law_many"] 2 G__law_called) (d__law_base : Fct P w K mg base 3 "_law_base" ["_law_deck_here", "_law_called_here"] 2 G__law_base) (d_phantom : Fct P w K mg base 2 "phantom" ["base"] 1 G_phantom) (d__law_terminals : Fct P w K mg base 3 "_law_terminals" ["_law_deck_here", "_law_parts", "_law_called_here"] 3 G__law_terminals) (d__law_draw : Fct P w K mg base 1 "_law_draw" ["_law_deck_here", "_law_many"] 2 G__law_draw) (d_kept_words : Fct P w K mg base 3 "kept_words" ["base"] 1 G_kept_words) (d__law_all_meet : Fct P w K mg base 5 "_law_all_meet" ["_law_held", "_law_some"] 2 G__law_all_meet) (k_phantom_base : FctK P w K mg base 2 "phantom" ["base"] ["base"] [0] 1 G_phantom) :
    Fct P w K mg base 6 "law" ["_law_script"] 1 G_law :=
  ⟨f, fd, mF, F.kp, F.binds fun _ _ _ _ _ _ us hl => match us, hl with | [_], _ => rfl, p_law F mF z_range z_repr z_sorted z_set z_tuple d__law_deck d__law_called d__law_base d_phantom d__law_terminals d__law_draw d_kept_words d__law_all_meet k_phantom_base⟩
end K12
set_option Elab.async false
set_option linter.all false
set_option maxRecDepth 100000
/-! K12P1: the words that are called. -/
namespace K12
open PySem PySem.Spec PyProof.Rows L2 Bv

theorem draw_eq : G__law_draw = GDraw := rfl
theorem pick_eq : G__law_pick = GPick := rfl
theorem deck_eq : G__law_deck = GDeck := rfl
/-- a word that a guest may call: one to six letters -/
def Gw (x : Str) : Prop := (∀ c ∈ x.cps.toList, 97 ≤ c ∧ c ≤ 122) ∧ 1 ≤ x.length ∧ x.length ≤ 6
theorem abc_cps : (("abcdefghijklmnopqrstuvwxyz" : Str)).cps.toList = List.range' 97 26 := by decide +kernel
theorem abc_mem (c : Nat) : c ∈ (("abcdefghijklmnopqrstuvwxyz" : Str)).cps.toList ↔ 97 ≤ c ∧ c ≤ 122 := by
  rw [abc_cps, List.mem_range'_1]
  omega
theorem ix_l {ts : List PyData} {i : Int} {t : PyData} (h : atI ts i = some t) : ixO (.l (ts.map O.d)) (.d (.int i)) = some (.d t) := by
  show (Option.bind (allD (ts.map O.d)) _) = _
  rw [allD_map]
  simp only [Option.bind_some]
  rw [h]
  rfl
theorem ix_dl {ts : List PyData} {i : Int} {t : PyData} (h : atI ts i = some t) : ixO (.d (.list ts)) (.d (.int i)) = some (.d t) := by
  show (Option.bind (atI ts i) _) = _
  rw [h]
  rfl
theorem ix_str' {z : Str} {i : Int} {c : Nat} (hz : z.length ≤ sizeLine) (h : atI z.cps.toList i = some c) : ixO (.d (.str z)) (.d (.int i)) = some (.d (.str ⟨#[c]⟩)) := by
  show (if z.length ≤ sizeLine then _ else none) = _
  rw [if_pos hz, h]
  rfl
theorem add_ss {x y : Str} (h : x.length + y.length ≤ 1000) : addO (.d (.str x)) (.d (.str y)) = some (.d (.str (x ++ y))) := by
  show (if x.length + y.length ≤ sizeLine then _ else none) = _
  rw [if_pos (Nat.le_trans h (by decide))]
theorem cps_append (x y : Str) : (x ++ y).cps.toList = x.cps.toList ++ y.cps.toList := by
  show (x.cps ++ y.cps).toList = _
  rw [Array.toList_append]
theorem len_append (x y : Str) : (x ++ y).length = x.length + y.length := by
  show (x.cps ++ y.cps).size = _
  rw [Array.size_append]
  rfl
theorem gw_make {p : Str} (hp : p ∈ (["", "q", "abcde", ""] : List Str)) {c : Nat} (hc : 97 ≤ c ∧ c ≤ 122) : Gw (p ++ ⟨#[c]⟩) ∧ p.length ≤ 5 := by
  have key : ∀ p ∈ (["", "q", "abcde", ""] : List Str), (∀ d ∈ p.cps.toList, 97 ≤ d ∧ d ≤ 122) ∧ p.length ≤ 5 := by decide +kernel
  obtain ⟨k1, k2⟩ := key p hp
  refine ⟨⟨fun d hd => ?_, ?_, ?_⟩, k2⟩
  · rw [cps_append] at hd
    rcases List.mem_append.mp hd with m | m
    · exact k1 d m
    · have : d = c := by simpa using m
      rw [this]; exact hc
  · rw [len_append]
    show 1 ≤ p.length + 1
    omega
  · rw [len_append]
    show p.length + 1 ≤ 6
    omega
theorem ints_mem {n : Nat} {t : PyData} (h : t ∈ Bv.intsFrom 0 n) : ∃ k : Int, t = .int k ∧ 0 ≤ k ∧ k < n := by
  unfold Bv.intsFrom at h
  obtain ⟨i, hi, e⟩ := List.mem_map.mp h
  have hi := List.mem_range.mp hi
  exact ⟨0 + (i : Nat), e.symm, by omega, by omega⟩
theorem ints_len (lo : Int) (n : Nat) : (Bv.intsFrom lo n).length = n := by unfold Bv.intsFrom; simp
def fixed : List Str := ["name", "figure", "end", "lead", "after", "word", "part"]
theorem fixed_gw : ∀ w ∈ fixed, Gw w := by
  have key : ∀ w ∈ fixed, (∀ c ∈ w.cps.toList, 97 ≤ c ∧ c ≤ 122) ∧ 1 ≤ w.length ∧ w.length ≤ 6 := by decide +kernel
  exact key
theorem cut_first {α : Type} (xs : List α) (k : Nat) : Bv.cutD xs none (some (k : Int)) = xs.take k := by
  unfold Bv.cutD
  rw [HT.sIx_none, HT.sIx_nat, List.drop_zero, Nat.sub_zero]
  by_cases h : k ≤ xs.length
  · rw [Nat.min_eq_left h]
  · rw [Nat.min_eq_right (by omega), List.take_length, List.take_of_length_le (by omega)]
theorem called_ok {n : Nat} {o : O} (d : Dk n o) (hn : n + 2 < 2 ^ 50) : ∃ (ws : List Str) (o' : O), G__law_called [o, .d (.int 12)] = some (.d (.list (ws.map PyData.str)), [some o', none]) ∧ Dk (n + 2) o' ∧ ws.length = 12 ∧ ∀ w ∈ ws, Gw w := by
  obtain ⟨way, o1, e1, w0, w1, d1⟩ := draw_in (many := 4) (fm := cF (.int 4)) (fr := [some (.d (.int 12)), none, none, none, none, none]) d (by omega) (by decide) (by decide) rfl
  obtain ⟨first, o2, e2, f0, f1, d2⟩ := draw_in (many := 26) (fm := cF (.int 26)) (fr := [some (.d (.int 12)), none, none, none, none, none]) d1 (by omega) (by decide) (by decide) rfl
  -- the tuple
  have s1 : parF [0] [2, 3, 4] (consF false (cF (.str "abcdefghijklmnopqrstuvwxyz")) (consF false (callF G__law_draw (consF true (refF 0) (consF true (cF (.int 4)) nilF))) (consF true (callF G__law_draw (consF true (refF 0) (consF true (cF (.int 26)) nilF))) nilF)))
      [some o, some (.d (.int 12)), none, none, none, none, none] = some (.nx, [some o2, some (.d (.int 12)), some (.d (.str "abcdefghijklmnopqrstuvwxyz")), some (.d (.int way)), some (.d (.int first)), none, none]) := by
    rw [draw_eq]
    unfold parF
    rw [a_ok (r := .own (.d (.str "abcdefghijklmnopqrstuvwxyz"))) rfl (a_ok e1 (a_ok e2 n_ok))]
    rfl
  -- the words
  have s2 := lcS_ok (it := rng1 (consF true (cF (.int 26)) nilF)) (tgt := nmT [] 6) (vs := [6])
    (elt := frzF (bin true (two addO) (bin true (two ixO) (lstF (consF true (cF (.str "")) (consF true (cF (.str "q")) (consF true (cF (.str "abcde")) (consF true (cF (.str "")) nilF))))) (datF 3)) (bin true (two ixO) (datF 2) (bin true (two modO) (bin true (two addO) (datF 4) (bin true (two mulO) (cF (.int 5)) (datF 6))) (cF (.int 26))))))
    (fr := [some o2, some (.d (.int 12)), some (.d (.str "abcdefghijklmnopqrstuvwxyz")), some (.d (.int way)), some (.d (.int first)), none, none])
    (fr1 := [some o2, some (.d (.int 12)), some (.d (.str "abcdefghijklmnopqrstuvwxyz")), some (.d (.int way)), some (.d (.int first)), none, none]) (ts := Bv.intsFrom 0 26) rfl
    (fun ts acc fr => (∀ t ∈ ts, ∃ k : Int, t = .int k ∧ 0 ≤ k ∧ k < (26 : Nat)) ∧ (∃ ws : List Str, acc = ws.map PyData.str ∧ (∀ w ∈ ws, Gw w) ∧ ws.length + ts.length = 26) ∧
      fr = [some o2, some (.d (.int 12)), some (.d (.str "abcdefghijklmnopqrstuvwxyz")), some (.d (.int way)), some (.d (.int first)), none, none])
    ⟨fun t ht => ints_mem ht, ⟨[], rfl, (fun _ m => nomatch m), by rw [ints_len]; rfl⟩, rfl⟩ (by
      rintro t ts acc fr ⟨ht, ⟨ws, rfl, hw, hl⟩, rfl⟩
      obtain ⟨k, rfl, k0, k1⟩ := ht t List.mem_cons_self
      obtain ⟨p, ep, hp⟩ := atI_in (xs := (["", "q", "abcde", ""] : List Str)) w0 (show way < ((["", "q", "abcde", ""] : List Str).length : Nat) from w1)
      have hj0 : 0 ≤ (first + 5 * k) % 26 := Int.emod_nonneg _ (by decide)
      have hj1 : (first + 5 * k) % 26 < 26 := Int.emod_lt_of_pos _ (by decide)
      obtain ⟨c, ec, hc⟩ := atI_in (xs := (("abcdefghijklmnopqrstuvwxyz" : Str)).cps.toList) hj0 (by rw [abc_cps]; exact hj1)
      obtain ⟨gw, pl⟩ := gw_make hp ((abc_mem c).mp hc)
      have ep' : atI ((["", "q", "abcde", ""] : List Str).map PyData.str) way = some (.str p) := by rw [atI_map, ep]; rfl
      have b5 : k.natAbs < 2 ^ 200 := natAbs_lt (m := 10) k0 (by omega) (by decide)
      refine ⟨[some o2, some (.d (.int 12)), some (.d (.str "abcdefghijklmnopqrstuvwxyz")), some (.d (.int way)), some (.d (.int first)), none, some (.d (.int k))], [some o2, some (.d (.int 12)), some (.d (.str "abcdefghijklmnopqrstuvwxyz")), some (.d (.int way)), some (.d (.int first)), none, some (.d (.int k))], .str (p ++ ⟨#[c]⟩), rfl, ?_, ?_⟩
      · refine frz_ok (bin_dd (bin_ok (ra := .own (.l ((["", "q", "abcde", ""] : List Str).map PyData.str |>.map O.d))) (rb := .own (.d (.int way))) rfl rfl (ix_l ep')) (bin_dd rfl (bin_dd (bin_dd rfl (bin_dd rfl rfl (mul_ii (by decide) b5)) add_ii) rfl (mod_ii (by decide))) (ix_str' (by decide) ec)) (add_ss (by show p.length + 1 ≤ 1000; omega)))
      · refine ⟨fun t m => ht t (List.mem_cons_of_mem _ m), ⟨ws ++ [p ++ ⟨#[c]⟩], by rw [List.map_append]; rfl, fun w m => ?_, ?_⟩, rfl⟩
        · rcases List.mem_append.mp m with m | m
          · exact hw w m
          · rw [List.mem_singleton.mp m]; exact gw
        · rw [List.length_append, List.length_singleton]
          have : ws.length + (ts.length + 1) = 26 := hl
          omega) (by rw [ints_len]; decide)
  obtain ⟨acc, fr', e3, _, ⟨ws, rfl, hw, hl⟩, rfl⟩ := s2
  have s3 : setF [0] 5 (frzF (lcF (rng1 (consF true (cF (.int 26)) nilF)) (nmT [] 6) yesF (frzF (bin true (two addO) (bin true (two ixO) (lstF (consF true (cF (.str "")) (consF true (cF (.str "q")) (consF true (cF (.str "abcde")) (consF true (cF (.str "")) nilF))))) (datF 3)) (bin true (two ixO) (datF 2) (bin true (two modO) (bin true (two addO) (datF 4) (bin true (two mulO) (cF (.int 5)) (datF 6))) (cF (.int 26)))))) [6]))
      [some o2, some (.d (.int 12)), some (.d (.str "abcdefghijklmnopqrstuvwxyz")), some (.d (.int way)), some (.d (.int first)), none, none] =
      some (.nx, [some o2, some (.d (.int 12)), some (.d (.str "abcdefghijklmnopqrstuvwxyz")), some (.d (.int way)), some (.d (.int first)), some (.d (.list (ws.map PyData.str))), none]) := set_ok (frz_ld e3) (by decide)
  have hl : ws.length = 26 := by simpa using hl
  -- the end, whatever the words are now
  have fin : ∀ vs : List Str, (∀ w ∈ vs, Gw w) → 12 ≤ vs.length → retF (frzF (cutH true (datF 5) (datF 1))) [some o2, some (.d (.int 12)), some (.d (.str "abcdefghijklmnopqrstuvwxyz")), some (.d (.int way)), some (.d (.int first)), some (.d (.list (vs.map PyData.str))), none] =
      some (.rt (.d (.list ((vs.take 12).map PyData.str))), [some o2, some (.d (.int 12)), some (.d (.str "abcdefghijklmnopqrstuvwxyz")), some (.d (.int way)), some (.d (.int first)), some (.d (.list (vs.map PyData.str))), none]) := fun vs _ _ => by
    refine ret_ok (frz_ld (ts := (vs.take 12).map PyData.str) (cutH_ok (r := .own (.d (.list (vs.map PyData.str)))) (j := 12) rfl rfl ?_))
    show some (O.l ((Bv.cutD (vs.map PyData.str) none (some ((12 : Nat) : Int))).map O.d)) = _
    rw [cut_first]
    simp only [List.map_take]
  have out : ∀ vs : List Str, (∀ w ∈ vs, Gw w) → 12 ≤ vs.length → b__law_called [some o, some (.d (.int 12)), none, none, none, none, none] = retF (frzF (cutH true (datF 5) (datF 1))) [some o2, some (.d (.int 12)), some (.d (.str "abcdefghijklmnopqrstuvwxyz")), some (.d (.int way)), some (.d (.int first)), some (.d (.list (vs.map PyData.str))), none] →
      ∃ (ws : List Str) (o' : O), G__law_called [o, .d (.int 12)] = some (.d (.list (ws.map PyData.str)), [some o', none]) ∧ Dk (n + 2) o' ∧ ws.length = 12 ∧ ∀ w ∈ ws, Gw w := fun vs hv hvl e => by
    refine ⟨vs.take 12, o2, ?_, d2, by rw [List.length_take]; omega, fun w m => hv w (List.mem_of_mem_take m)⟩
    exact (g_rt (os := [o, .d (.int 12)]) rfl (e.trans (fin vs hv hvl))).trans rfl
  by_cases h3 : way = 3
  · refine out (fixed ++ ws) (fun w m => ?_) (by rw [List.length_append]; show 12 ≤ 7 + ws.length; omega) ?_
    · rcases List.mem_append.mp m with m | m
      · exact fixed_gw w m
      · exact hw w m
    · unfold b__law_called
      have s4 : iffF (tstF (bin true (two (eqA false)) (datF 3) (cF (.int 3)))) (setF [0] 5 (frzF (bin true (two addO) (lstF (consF true (cF (.str "name")) (consF true (cF (.str "figure")) (consF true (cF (.str "end")) (consF true (cF (.str "lead")) (consF true (cF (.str "after")) (consF true (cF (.str "word")) (consF true (cF (.str "part")) nilF)))))))) (datF 5)))) nxF
          [some o2, some (.d (.int 12)), some (.d (.str "abcdefghijklmnopqrstuvwxyz")), some (.d (.int way)), some (.d (.int first)), some (.d (.list (ws.map PyData.str))), none] =
          some (.nx, [some o2, some (.d (.int 12)), some (.d (.str "abcdefghijklmnopqrstuvwxyz")), some (.d (.int way)), some (.d (.int first)), some (.d (.list ((fixed ++ ws).map PyData.str))), none]) := by
        rw [if_true' (tst_ok (bin_dd rfl rfl (by rw [h3]; rfl)))]
        have ea : addO (.l ((fixed.map PyData.str).map O.d)) (.d (.list (ws.map PyData.str))) = some (.l (((fixed ++ ws).map PyData.str).map O.d)) := by
          show (match asL (.l ((fixed.map PyData.str).map O.d)), some (ws.map PyData.str) with | some xs, some ys => if xs.length + ys.length ≤ sizeLine then some (O.l ((xs ++ ys).map O.d)) else none | _, _ => none) = _
          rw [show asL (.l ((fixed.map PyData.str).map O.d)) = some (fixed.map PyData.str) from allD_map _]
          show (if _ then _ else _) = _
          rw [if_pos (by rw [List.length_map, List.length_map, hl]; decide)]
          simp only [List.map_append]
        exact (set_ok (frz_ld (bin_ok (pb := true) (ra := .own (.l ((fixed.map PyData.str).map O.d))) (rb := .own (.d (.list (ws.map PyData.str)))) rfl rfl ea)) (by decide)).trans rfl
      rw [seq_nx s1, seq_nx s3, seq_nx s4]
  · refine out ws hw (by omega) ?_
    unfold b__law_called
    have eq3 : eqA false (.d (.int way)) (.d (.int 3)) = some (.d (.bool false)) := by
      show eqO false (.d (.int way)) (.d (.int 3)) = _
      unfold eqO
      rw [if_pos (by refine ⟨rfl, rfl, ?_, ?_, ?_⟩ <;> simp [O.data, PyData.canLay0, PyData.depth])]
      simp [O.data, PyData.eqv, h3]
    have s4 : iffF (tstF (bin true (two (eqA false)) (datF 3) (cF (.int 3)))) (setF [0] 5 (frzF (bin true (two addO) (lstF (consF true (cF (.str "name")) (consF true (cF (.str "figure")) (consF true (cF (.str "end")) (consF true (cF (.str "lead")) (consF true (cF (.str "after")) (consF true (cF (.str "word")) (consF true (cF (.str "part")) nilF)))))))) (datF 5)))) nxF
        [some o2, some (.d (.int 12)), some (.d (.str "abcdefghijklmnopqrstuvwxyz")), some (.d (.int way)), some (.d (.int first)), some (.d (.list (ws.map PyData.str))), none] =
        some (.nx, [some o2, some (.d (.int 12)), some (.d (.str "abcdefghijklmnopqrstuvwxyz")), some (.d (.int way)), some (.d (.int first)), some (.d (.list (ws.map PyData.str))), none]) := by
      rw [if_false' (tst_ok (b := false) (bin_dd rfl rfl eq3))]
      rfl
    rw [seq_nx s1, seq_nx s3, seq_nx s4]
end K12
set_option Elab.async false
set_option linter.all false
set_option maxRecDepth 100000
/-! K12P2: a rule. -/
namespace K12
open PySem PySem.Spec L2 Bv

inductive Sy where
  | word (w : Str) | name | figure | part (h : Str)
def Sy.d : Sy → PyData
  | .word w => .tuple [.str "word", .str w]
  | .name => .tuple [.str "name"]
  | .figure => .tuple [.str "figure"]
  | .part h => .tuple [.str "part", .str h]
def Sy.sort : Sy → Option PyData
  | .word _ => none
  | .name => some (.str "name")
  | .figure => some (.str "figure")
  | .part _ => some (.str "part")
def roleN : PyData := .tuple [.str "use", .tuple [.str "num"]]
def roleF : PyData := .tuple [.str "figure"]
def roleP : PyData := .tuple [.str "part", .tuple [.str "num"], .tuple []]
def Sy.role : Sy → Option PyData
  | .word _ => none
  | .name => some roleN
  | .figure => some roleF
  | .part _ => some roleP
def rolesD : PyData := .dict [(.str "name", roleN), (.str "figure", roleF), (.str "part", roleP)]
def ruleD (head : Str) (body : List Sy) : PyData := .tuple [.str head, .tuple (body.map Sy.d), .tuple (body.filterMap Sy.role), .tuple [.str "num"], .tuple [.str "num", .int 0]]
theorem eq_ss {neg : Bool} {s t : Str} (_ : PyData.strOk s = true) (_ : PyData.strOk t = true) : eqA neg (.d (.str s)) (.d (.str t)) = some (.d (.bool (if neg then !(s == t) else s == t))) := rfl
def firstS : PyData → Str
  | .tuple (.str s :: _) => s
  | _ => ""
theorem okW : PyData.strOk "word" = true := by decide +kernel
theorem okN : PyData.strOk "name" = true := by decide +kernel
theorem okF : PyData.strOk "figure" = true := by decide +kernel
theorem okP : PyData.strOk "part" = true := by decide +kernel
theorem Sy.first (s : Sy) : ∃ r, s.d = .tuple (.str (firstS s.d) :: r) ∧ PyData.strOk (firstS s.d) = true := by
  cases s with
  | word w => exact ⟨_, rfl, okW⟩
  | name => exact ⟨_, rfl, okN⟩
  | figure => exact ⟨_, rfl, okF⟩
  | part h => exact ⟨_, rfl, okP⟩
def sortG (t : PyData) : Option PyData := if (firstS t == "word") = true then none else some (.str (firstS t))
theorem sortG_of (s : Sy) : sortG s.d = s.sort := by
  cases s <;> rfl
theorem fm_map {α β γ : Type} (f : α → β) (g : β → Option γ) (h : α → Option γ) (hh : ∀ a, g (f a) = h a) (xs : List α) : (xs.map f).filterMap g = xs.filterMap h := by
  rw [List.filterMap_map, show g ∘ f = h from funext hh]
theorem ix_t {ts : List PyData} {i : Int} {t : PyData} (h : atI ts i = some t) : ixO (.d (.tuple ts)) (.d (.int i)) = some (.d t) := by
  show (Option.bind (atI ts i) _) = _
  rw [h]
  rfl
theorem at0 {α : Type} (x : α) (xs : List α) : atI (x :: xs) 0 = some x := by
  unfold atI ixN
  rw [if_pos (by decide), if_pos (by simp <;> omega)]
  rfl
theorem at1 {α : Type} (x y : α) (xs : List α) : atI (x :: y :: xs) 1 = some y := by
  unfold atI ixN
  rw [if_pos (by decide), if_pos (by simp <;> omega)]
  rfl
theorem at2 {α : Type} (x y z : α) (xs : List α) : atI (x :: y :: z :: xs) 2 = some z := by
  unfold atI ixN
  rw [if_pos (by decide), if_pos (by simp <;> omega)]
  rfl
def roleG (t : PyData) : Option PyData := match t with
  | .str s => if (s == "name") = true then some roleN else if (s == "figure") = true then some roleF else some roleP
  | _ => none
theorem roleG_of (body : List Sy) : (body.filterMap Sy.sort).filterMap roleG = body.filterMap Sy.role := by
  rw [List.filterMap_filterMap]
  congr
  funext s
  cases s <;> rfl
theorem rule_ok (head : Str) (body : List Sy) (hl : body.length ≤ 100) : G__law_rule [.d (.str head), .d (.list (body.map Sy.d))] = some (.d (ruleD head body), [none, none]) := by
  have s1 : setF [] 2 (frzF (disF (consF true (cF (.str "name")) (consF true (opF tupO (consF true (cF (.str "use")) (consF true (opF tupO (consF true (cF (.str "num")) nilF)) nilF))) (consF true (cF (.str "figure")) (consF true (opF tupO (consF true (cF (.str "figure")) nilF)) (consF true (cF (.str "part")) (consF true (opF tupO (consF true (cF (.str "part")) (consF true (opF tupO (consF true (cF (.str "num")) nilF)) (consF true (opF tupO nilF) nilF)))) nilF)))))))) [some (.d (.str head)), some (.d (.list (body.map Sy.d))), none, none, none, none] =
      some (.nx, [some (.d (.str head)), some (.d (.list (body.map Sy.d))), some (.d rolesD), none, none, none]) := by rfl
  have hb : ∀ t ∈ body.map Sy.d, ∃ s : Sy, t = s.d := fun t ht => by obtain ⟨s, _, e⟩ := List.mem_map.mp ht; exact ⟨s, e.symm⟩
  have c1 := lc_ok (it := anyI (datF 1)) (tgt := nmT [] 4) (tst := tstF (bin true (two (eqA true)) (bin true (two ixO) (datF 4) (cF (.int 0))) (cF (.str "word")))) (elt := bin true (two ixO) (datF 4) (cF (.int 0))) (vs := [4])
    (fr := [some (.d (.str head)), some (.d (.list (body.map Sy.d))), some (.d rolesD), none, none, none]) (fr1 := [some (.d (.str head)), some (.d (.list (body.map Sy.d))), some (.d rolesD), none, none, none]) (ts := body.map Sy.d) sortG rfl (fun t ht => by
      obtain ⟨s, rfl⟩ := hb t ht
      obtain ⟨r, e1, e2⟩ := s.first
      refine ⟨[some (.d (.str head)), some (.d (.list (body.map Sy.d))), some (.d rolesD), none, some (.d s.d), none], [some (.d (.str head)), some (.d (.list (body.map Sy.d))), some (.d rolesD), none, some (.d s.d), none], rfl, ?_⟩
      have i0 : ixO (.d s.d) (.d (.int 0)) = some (.d (.str (firstS s.d))) := by
        rw [e1]
        exact ix_t (at0 _ _)
      have tt : tstF (bin true (two (eqA true)) (bin true (two ixO) (datF 4) (cF (.int 0))) (cF (.str "word"))) [some (.d (.str head)), some (.d (.list (body.map Sy.d))), some (.d rolesD), none, some (.d s.d), none] = some (!(firstS s.d == "word"), [some (.d (.str head)), some (.d (.list (body.map Sy.d))), some (.d rolesD), none, some (.d s.d), none]) :=
        tst_ok (bin_dd (bin_dd rfl rfl i0) rfl (eq_ss e2 okW))
      unfold sortG
      by_cases hw : (firstS s.d == "word") = true
      · rw [if_pos hw]
        rw [hw] at tt
        exact ⟨tt, rfl⟩
      · rw [if_neg hw]
        rw [Bool.eq_false_iff.mpr hw] at tt
        exact ⟨⟨_, tt, bin_dd rfl rfl i0⟩, rfl⟩) (by rw [List.length_map]; exact Nat.le_trans hl (by decide))
  rw [fm_map Sy.d sortG Sy.sort sortG_of] at c1
  have s2 := set_ok (fx := []) (i := 3) (frz_ld c1) (by decide)
  have s2 : setF [] 3 (frzF (lcF (anyI (datF 1)) (nmT [] 4) (tstF (bin true (two (eqA true)) (bin true (two ixO) (datF 4) (cF (.int 0))) (cF (.str "word")))) (bin true (two ixO) (datF 4) (cF (.int 0))) [4])) [some (.d (.str head)), some (.d (.list (body.map Sy.d))), some (.d rolesD), none, none, none] =
      some (.nx, [some (.d (.str head)), some (.d (.list (body.map Sy.d))), some (.d rolesD), some (.d (.list (body.filterMap Sy.sort))), none, none]) := s2
  have hfl : (body.filterMap Sy.sort).length ≤ 100 := Nat.le_trans (List.length_filterMap_le _ _) hl
  have c2 := lc_ok (it := anyI (datF 3)) (tgt := nmT [] 5) (tst := yesF) (elt := bin true (two dgO) (datF 2) (datF 5)) (vs := [5])
    (fr := [some (.d (.str head)), some (.d (.list (body.map Sy.d))), some (.d rolesD), some (.d (.list (body.filterMap Sy.sort))), none, none]) (fr1 := [some (.d (.str head)), some (.d (.list (body.map Sy.d))), some (.d rolesD), some (.d (.list (body.filterMap Sy.sort))), none, none]) (ts := body.filterMap Sy.sort) roleG rfl (fun t ht => by
      obtain ⟨s, _, e⟩ := List.mem_filterMap.mp ht
      have key : ∃ q, roleG t = some q ∧ dgO (.d rolesD) (.d t) = some (.d q) := by
        cases s with
        | word w => cases e
        | name => cases e; exact ⟨_, rfl, rfl⟩
        | figure => cases e; exact ⟨_, rfl, rfl⟩
        | part h => cases e; exact ⟨_, rfl, rfl⟩
      obtain ⟨q, k1, k2⟩ := key
      refine ⟨[some (.d (.str head)), some (.d (.list (body.map Sy.d))), some (.d rolesD), some (.d (.list (body.filterMap Sy.sort))), none, some (.d t)], [some (.d (.str head)), some (.d (.list (body.map Sy.d))), some (.d rolesD), some (.d (.list (body.filterMap Sy.sort))), none, some (.d t)], rfl, ?_⟩
      rw [k1]
      exact ⟨⟨_, rfl, bin_dd rfl rfl k2⟩, rfl⟩) (Nat.le_trans hfl (by decide))
  rw [roleG_of] at c2
  have c2 : lcF (anyI (datF 3)) (nmT [] 5) yesF (bin true (two dgO) (datF 2) (datF 5)) [5] [some (.d (.str head)), some (.d (.list (body.map Sy.d))), some (.d rolesD), some (.d (.list (body.filterMap Sy.sort))), none, none] =
      some (.own (.l ((body.filterMap Sy.role).map O.d)), [some (.d (.str head)), some (.d (.list (body.map Sy.d))), some (.d rolesD), some (.d (.list (body.filterMap Sy.sort))), none, none]) := c2
  refine (g_rt (os := [.d (.str head), .d (.list (body.map Sy.d))]) (o := .d (ruleD head body)) (fr := [some (.d (.str head)), some (.d (.list (body.map Sy.d))), some (.d rolesD), some (.d (.list (body.filterMap Sy.sort))), none, none]) rfl ?_).trans rfl
  show b__law_rule [some (.d (.str head)), some (.d (.list (body.map Sy.d))), none, none, none, none] = _
  unfold b__law_rule
  rw [seq_nx s1, seq_nx s2]
  have t1 : opF (one tupleO) (consF true (datF 1) nilF) [some (.d (.str head)), some (.d (.list (body.map Sy.d))), some (.d rolesD), some (.d (.list (body.filterMap Sy.sort))), none, none] = some (.own (.d (.tuple (body.map Sy.d))), [some (.d (.str head)), some (.d (.list (body.map Sy.d))), some (.d rolesD), some (.d (.list (body.filterMap Sy.sort))), none, none]) := rfl
  have t2 : opF (one tupleO) (consF true (lcF (anyI (datF 3)) (nmT [] 5) yesF (bin true (two dgO) (datF 2) (datF 5)) [5]) nilF) [some (.d (.str head)), some (.d (.list (body.map Sy.d))), some (.d rolesD), some (.d (.list (body.filterMap Sy.sort))), none, none] = some (.own (.d (.tuple (body.filterMap Sy.role))), [some (.d (.str head)), some (.d (.list (body.map Sy.d))), some (.d rolesD), some (.d (.list (body.filterMap Sy.sort))), none, none]) := by
    refine op1_ok c2 ?_
    show (Option.bind (allD ((body.filterMap Sy.role).map O.d)) _) = _
    rw [allD_map]
    rfl
  exact ret_ok (tup_ok (ts := [.str head, .tuple (body.map Sy.d), .tuple (body.filterMap Sy.role), .tuple [.str "num"], .tuple [.str "num", .int 0]]) (a_ok (r := .own (.d (.str head))) rfl (a_ok t1 (a_ok t2 (a_ok (r := .own (.d (.tuple [.str "num"]))) rfl (a_ok (r := .own (.d (.tuple [.str "num", .int 0]))) rfl n_ok))))) (show 5 ≤ sizeLine by decide))
end K12
set_option Elab.async false
set_option linter.all false
set_option maxRecDepth 100000
/-! K12P3: the base. -/
namespace K12
open PySem PySem.Spec L2 Bv

theorem _root_.Bv.Dk.mono {n m : Nat} {o : O} (d : Dk n o) (h : n ≤ m) : Dk m o := by
  obtain ⟨cells, mixed, count, e, h1, h2, h3⟩ := d
  exact ⟨cells, mixed, count, e, h1, h2, by omega⟩
theorem pick_in {n : Nat} {o : O} (d : Dk n o) (hn : n < 2 ^ 50) {ts : List PyData} (h0 : ts ≠ []) (h1 : ts.length < 2 ^ 60) {fm : Ev} {fr : Fr} (hm : fm (none :: fr) = some (.own (.d (.list ts)), none :: fr)) :
    ∃ t o', callF G__law_pick (consF true (refF 0) (consF true fm nilF)) (some o :: fr) = some (.own (.d t), some o' :: fr) ∧ t ∈ ts ∧ Dk (n + 1) o' := by
  obtain ⟨t, o', e, r0, d'⟩ := pick_ok d hn h0 h1
  refine ⟨t, o', ?_, r0, d'⟩
  exact call_ok (rs := [.ref 0 o, .own (.d (.list ts))]) (a_ok (r := .ref 0 o) rfl (a_ok hm n_ok)) e
theorem mth0_ok {j : Nat} {g : List O → O → Option (O × List O)} {f : Ev} {fr fr1 : Fr} {os0 os os' : List O} {y z : O} (h0 : fr[j]? = some (some (.l os0))) (hf : f fr = some (.own y, fr1)) (h1 : fr1[j]? = some (some (.l os))) (hg : g os y = some (z, os')) : mthF j [] g f fr = some (.own z, fr1.set j (some (.l os'))) := by
  unfold mthF
  rw [h0]
  simp only [O.get, Option.bind_some, hf, h1, hg, O.put]
/-- a word of a base or of a wish -/
def Ow (w : Str) : Prop := (Gw w ∨ ∃ c ∈ w.cps.toList, ¬ (97 ≤ c ∧ c ≤ 122)) ∧ (∀ c ∈ w.cps.toList, c < 128) ∧ w.length ≤ 12
theorem Gw.ow {w : Str} (h : Gw w) : Ow w := ⟨.inl h, fun c m => by have := h.1 c m; omega, by have := h.2.2; omega⟩
def SyOk : Sy → Prop
  | .word w => Ow w
  | .part h => Gw h
  | _ => True
structure Rl where
  head : Str
  body : List Sy
def Rl.d (r : Rl) : PyData := ruleD r.head r.body
structure Rl.Ok (r : Rl) : Prop where
  head : Gw r.head
  len : r.body.length ≤ 4
  syms : ∀ s ∈ r.body, SyOk s
def baseD (st : Str) (rs : List Rl) : PyData := .tuple [.str "base", .str st, .tuple (rs.map Rl.d)]
def signs : List Str := ["(", "=", "->", "|"]
theorem signs_ow : ∀ w ∈ signs, Ow w := by
  have key : ∀ w ∈ signs, (∃ c ∈ w.cps.toList, ¬ (97 ≤ c ∧ c ≤ 122)) ∧ (∀ c ∈ w.cps.toList, c < 128) ∧ w.length ≤ 12 := by decide +kernel
  exact fun w m => ⟨.inr (key w m).1, (key w m).2⟩
theorem open_ow : Ow "[" ∧ Ow "[[" := by
  have key : ∀ w ∈ (["[", "[["] : List Str), (∃ c ∈ w.cps.toList, ¬ (97 ≤ c ∧ c ≤ 122)) ∧ (∀ c ∈ w.cps.toList, c < 128) ∧ w.length ≤ 12 := by decide +kernel
  exact ⟨⟨.inr (key _ (by simp)).1, (key _ (by simp)).2⟩, ⟨.inr (key _ (by simp)).1, (key _ (by simp)).2⟩⟩
def strsO (ws : List Str) : O := .l (ws.map fun w => .d (.str w))
def rulesO (rs : List Rl) : O := .l (rs.map fun r => .d r.d)
/-- the frame of _law_base -/
def fB (o : O) (ws left : List Str) (rs : List Rl) (start words : PyData) (x6 x7 x8 x9 x10 : Option O) : Fr :=
  [some o, some (.d (.list (ws.map PyData.str))), some (strsO left), some (rulesO rs), some (.d start), some (.d words), x6, x7, x8, x9, x10]
abbrev inner : Sts := (seqF (setF [0] 8 (frzF (lstF (consF true (opF tupO (consF false (cF (.str "word")) (consF true (callF G__law_pick (consF true (refF 0) (consF true (datF 5) nilF))) nilF))) (consF true (opF tupO (consF true (cF (.str "name")) nilF)) (consF true (opF tupO (consF true (cF (.str "figure")) nilF)) (consF true (opF tupO (consF true (cF (.str "part")) (consF true (datF 6) nilF))) nilF)))))))
  (seqF (setF [0] 9 (frzF (lcF (rng1 (consF true (callF G__law_draw (consF true (refF 0) (consF true (cF (.int 4)) nilF))) nilF)) (nmT [] 10) yesF (bin false (two ixO) (datF 8) (callF G__law_draw (consF true (refF 0) (consF true (cF (.int 4)) nilF)))) [10])))
  (drpF (mthF 3 [] appG (callF G__law_rule (consF true (datF 6) (consF true (frzF (bin true (two addO) (datF 9) (lstF (consF true (opF tupO (consF true (cF (.str "word")) (consF true (frzF (bin true (two mulO) (cF (.str "[")) (bin true (two addO) (datF 7) (cF (.int 1))))) nilF))) nilF)))) nilF)))))))
theorem rep_open : repS "[" 1 = "[" ∧ repS "[" 2 = "[[" := by decide +kernel
theorem inner_ok {n : Nat} {o : O} (d : Dk n o) (hn : n + 5 < 2 ^ 50) (ws left : List Str) (rs : List Rl) (start : PyData) (vs : List Str) (hv : ∀ w ∈ vs, Ow w) (hv0 : vs ≠ []) (hvl : vs.length ≤ 100) (head : Str) (hh : Gw head) (k : Int) (hk : k = 0 ∨ k = 1) (hr : rs.length ≤ 100) (x8 x9 x10 : Option O) :
    ∃ (o' : O) (r : Rl) (y8 y9 y10 : Option O), inner (fB o ws left rs start (.list (vs.map PyData.str)) (some (.d (.str head))) (some (.d (.int k))) x8 x9 x10) = some (.nx, fB o' ws left (rs ++ [r]) start (.list (vs.map PyData.str)) (some (.d (.str head))) (some (.d (.int k))) y8 y9 y10) ∧
      Dk (n + 5) o' ∧ r.Ok ∧ r.head = head := by
  -- some
  obtain ⟨t, o1, e1, ht, d1⟩ := pick_in (ts := vs.map PyData.str) (fm := datF 5) (fr := [some (.d (.list (ws.map PyData.str))), some (strsO left), some (rulesO rs), some (.d start), some (.d (.list (vs.map PyData.str))), some (.d (.str head)), some (.d (.int k)), x8, x9, x10]) d (by omega) (by simpa using hv0) (by rw [List.length_map]; omega) rfl
  obtain ⟨w, hw, rfl⟩ := List.mem_map.mp ht
  have s8 : setF [0] 8 (frzF (lstF (consF true (opF tupO (consF false (cF (.str "word")) (consF true (callF G__law_pick (consF true (refF 0) (consF true (datF 5) nilF))) nilF))) (consF true (opF tupO (consF true (cF (.str "name")) nilF)) (consF true (opF tupO (consF true (cF (.str "figure")) nilF)) (consF true (opF tupO (consF true (cF (.str "part")) (consF true (datF 6) nilF))) nilF))))))
      (fB o ws left rs start (.list (vs.map PyData.str)) (some (.d (.str head))) (some (.d (.int k))) x8 x9 x10) =
      some (.nx, fB o1 ws left rs start (.list (vs.map PyData.str)) (some (.d (.str head))) (some (.d (.int k))) (some (.d (.list ([Sy.word w, .name, .figure, .part head].map Sy.d)))) x9 x10) := by
    have t1 : opF tupO (consF false (cF (.str "word")) (consF true (callF G__law_pick (consF true (refF 0) (consF true (datF 5) nilF))) nilF)) (fB o ws left rs start (.list (vs.map PyData.str)) (some (.d (.str head))) (some (.d (.int k))) x8 x9 x10) =
        some (.own (.d (Sy.word w).d), fB o1 ws left rs start (.list (vs.map PyData.str)) (some (.d (.str head))) (some (.d (.int k))) x8 x9 x10) :=
      tup_ok (ts := [.str "word", .str w]) (a_ok (r := .own (.d (.str "word"))) rfl (a_ok e1 n_ok)) (show 2 ≤ sizeLine by decide)
    exact (set_ok (frz_ld (ts := [Sy.word w, .name, .figure, .part head].map Sy.d) (lst_ok (os := ([Sy.word w, .name, .figure, .part head].map Sy.d).map O.d) (a_ok t1 (a_ok (r := .own (.d Sy.name.d)) rfl (a_ok (r := .own (.d Sy.figure.d)) rfl (a_ok (r := .own (.d (Sy.part head).d)) rfl n_ok)))) (show 4 ≤ sizeLine by decide))) (by decide)).trans rfl
  -- body
  obtain ⟨m, o2, e2, m0, m1, d2⟩ := draw_in (many := 4) (fm := cF (.int 4)) (fr := [some (.d (.list (ws.map PyData.str))), some (strsO left), some (rulesO rs), some (.d start), some (.d (.list (vs.map PyData.str))), some (.d (.str head)), some (.d (.int k)), some (.d (.list ([Sy.word w, .name, .figure, .part head].map Sy.d))), x9, x10]) d1 (by omega) (by decide) (by decide) rfl
  have c := lcS_ok (it := rng1 (consF true (callF G__law_draw (consF true (refF 0) (consF true (cF (.int 4)) nilF))) nilF)) (tgt := nmT [] 10) (vs := [10]) (elt := bin false (two ixO) (datF 8) (callF G__law_draw (consF true (refF 0) (consF true (cF (.int 4)) nilF))))
    (fr := fB o1 ws left rs start (.list (vs.map PyData.str)) (some (.d (.str head))) (some (.d (.int k))) (some (.d (.list ([Sy.word w, .name, .figure, .part head].map Sy.d)))) x9 x10)
    (fr1 := fB o2 ws left rs start (.list (vs.map PyData.str)) (some (.d (.str head))) (some (.d (.int k))) (some (.d (.list ([Sy.word w, .name, .figure, .part head].map Sy.d)))) x9 x10) (ts := Bv.intsFrom 0 m.toNat) (by
      have e2' : consF true (callF G__law_draw (consF true (refF 0) (consF true (cF (.int 4)) nilF))) nilF (fB o1 ws left rs start (.list (vs.map PyData.str)) (some (.d (.str head))) (some (.d (.int k))) (some (.d (.list ([Sy.word w, .name, .figure, .part head].map Sy.d)))) x9 x10) = some ([.own (.d (.int m))], fB o2 ws left rs start (.list (vs.map PyData.str)) (some (.d (.str head))) (some (.d (.int k))) (some (.d (.list ([Sy.word w, .name, .figure, .part head].map Sy.d)))) x9 x10) := a_ok e2 n_ok
      unfold rng1
      rw [e2']
      simp only [Option.bind_some, List.map_cons, List.map_nil, Rs.o]
      rw [if_pos (by omega)])
    (fun ts acc fr => ∃ (o3 : O) (q : Nat) (b : List Sy), Dk q o3 ∧ q + ts.length ≤ n + 5 ∧ b.length + ts.length ≤ 3 ∧ acc = b.map Sy.d ∧ (∀ s ∈ b, SyOk s) ∧
      fr = fB o3 ws left rs start (.list (vs.map PyData.str)) (some (.d (.str head))) (some (.d (.int k))) (some (.d (.list ([Sy.word w, .name, .figure, .part head].map Sy.d)))) x9 none)
    ⟨o2, n + 1 + 1, [], d2, by rw [ints_len]; omega, by rw [ints_len]; simp; omega, rfl, (fun _ m => nomatch m), rfl⟩ (by
      rintro t ts acc fr ⟨o3, q, b, d3, hq, hb, rfl, hs, rfl⟩
      have hq : q + (ts.length + 1) ≤ n + 5 := hq
      have hb : b.length + (ts.length + 1) ≤ 3 := hb
      obtain ⟨i, o4, e4, i0, i1, d4⟩ := draw_in (many := 4) (fm := cF (.int 4)) (fr := [some (.d (.list (ws.map PyData.str))), some (strsO left), some (rulesO rs), some (.d start), some (.d (.list (vs.map PyData.str))), some (.d (.str head)), some (.d (.int k)), some (.d (.list ([Sy.word w, .name, .figure, .part head].map Sy.d))), x9, some (.d t)]) d3 (by omega) (by decide) (by decide) rfl
      obtain ⟨s, es, hs2⟩ := atI_in (xs := [Sy.word w, .name, .figure, .part head]) i0 i1
      have es' : atI ([Sy.word w, .name, .figure, .part head].map Sy.d) i = some s.d := by rw [atI_map, es]; rfl
      have so : SyOk s := by
        simp only [List.mem_cons, List.not_mem_nil, or_false] at hs2
        rcases hs2 with e | e | e | e <;> subst e
        · exact hv w hw
        · exact trivial
        · exact trivial
        · exact hh
      refine ⟨fB o3 ws left rs start (.list (vs.map PyData.str)) (some (.d (.str head))) (some (.d (.int k))) (some (.d (.list ([Sy.word w, .name, .figure, .part head].map Sy.d)))) x9 (some (.d t)),
        fB o4 ws left rs start (.list (vs.map PyData.str)) (some (.d (.str head))) (some (.d (.int k))) (some (.d (.list ([Sy.word w, .name, .figure, .part head].map Sy.d)))) x9 (some (.d t)), s.d, rfl, ?_, o4, q + 1, b ++ [s], d4, by omega, by rw [List.length_append, List.length_singleton]; omega, by rw [List.map_append]; rfl, fun z hz => ?_, rfl⟩
      · exact bin_ok (pb := false) (ra := .own (.d (.list ([Sy.word w, .name, .figure, .part head].map Sy.d)))) rfl e4 (ix_dl es')
      · rcases List.mem_append.mp hz with hz | hz
        · exact hs z hz
        · rw [List.mem_singleton.mp hz]; exact so) (by rw [ints_len]; have : m.toNat ≤ 4 := (by omega); exact Nat.le_trans this (by decide))
  obtain ⟨acc, fr', e5, o3, q, b, d3, hq, hb, rfl, hs, rfl⟩ := c
  have hb : b.length ≤ 3 := by simpa using hb
  have hq : q ≤ n + 5 := by simpa using hq
  have s9 : setF [0] 9 (frzF (lcF (rng1 (consF true (callF G__law_draw (consF true (refF 0) (consF true (cF (.int 4)) nilF))) nilF)) (nmT [] 10) yesF (bin false (two ixO) (datF 8) (callF G__law_draw (consF true (refF 0) (consF true (cF (.int 4)) nilF)))) [10]))
      (fB o1 ws left rs start (.list (vs.map PyData.str)) (some (.d (.str head))) (some (.d (.int k))) (some (.d (.list ([Sy.word w, .name, .figure, .part head].map Sy.d)))) x9 x10) =
      some (.nx, fB o3 ws left rs start (.list (vs.map PyData.str)) (some (.d (.str head))) (some (.d (.int k))) (some (.d (.list ([Sy.word w, .name, .figure, .part head].map Sy.d)))) (some (.d (.list (b.map Sy.d)))) none) :=
    (set_ok (frz_ld e5) (by decide)).trans rfl
  -- the rule
  obtain ⟨br, hbr, ebr⟩ : ∃ br : Str, Ow br ∧ repS "[" (k + 1).toNat = br := by
    rcases hk with rfl | rfl
    · exact ⟨"[", open_ow.1, rep_open.1⟩
    · exact ⟨"[[", open_ow.2, rep_open.2⟩
  have hbl : (b ++ [Sy.word br]).length ≤ 4 := by rw [List.length_append, List.length_singleton]; omega
  have s10 : drpF (mthF 3 [] appG (callF G__law_rule (consF true (datF 6) (consF true (frzF (bin true (two addO) (datF 9) (lstF (consF true (opF tupO (consF true (cF (.str "word")) (consF true (frzF (bin true (two mulO) (cF (.str "[")) (bin true (two addO) (datF 7) (cF (.int 1))))) nilF))) nilF)))) nilF))))
      (fB o3 ws left rs start (.list (vs.map PyData.str)) (some (.d (.str head))) (some (.d (.int k))) (some (.d (.list ([Sy.word w, .name, .figure, .part head].map Sy.d)))) (some (.d (.list (b.map Sy.d)))) none) =
      some (.nx, fB o3 ws left (rs ++ [⟨head, b ++ [Sy.word br]⟩]) start (.list (vs.map PyData.str)) (some (.d (.str head))) (some (.d (.int k))) (some (.d (.list ([Sy.word w, .name, .figure, .part head].map Sy.d)))) (some (.d (.list (b.map Sy.d)))) none) := by
    have m1 : mulO (.d (.str "[")) (.d (.int (k + 1))) = some (.d (.str br)) := by
      show (if _ then _ else _) = _
      rw [if_pos (by refine ⟨by decide, ?_, ?_⟩ <;> (rcases hk with rfl | rfl <;> decide)), ebr]
    have t1 : opF tupO (consF true (cF (.str "word")) (consF true (frzF (bin true (two mulO) (cF (.str "[")) (bin true (two addO) (datF 7) (cF (.int 1))))) nilF)) (fB o3 ws left rs start (.list (vs.map PyData.str)) (some (.d (.str head))) (some (.d (.int k))) (some (.d (.list ([Sy.word w, .name, .figure, .part head].map Sy.d)))) (some (.d (.list (b.map Sy.d)))) none) =
        some (.own (.d (Sy.word br).d), fB o3 ws left rs start (.list (vs.map PyData.str)) (some (.d (.str head))) (some (.d (.int k))) (some (.d (.list ([Sy.word w, .name, .figure, .part head].map Sy.d)))) (some (.d (.list (b.map Sy.d)))) none) :=
      tup_ok (ts := [.str "word", .str br]) (a_ok (r := .own (.d (.str "word"))) rfl (a_ok (frz_ok (bin_dd rfl (bin_dd rfl rfl add_ii) m1)) n_ok)) (show 2 ≤ sizeLine by decide)
    have a1 : addO (.d (.list (b.map Sy.d))) (.l ([(Sy.word br).d].map O.d)) = some (.l (((b ++ [Sy.word br]).map Sy.d).map O.d)) := by
      show (if _ then _ else _) = _
      rw [if_pos (by rw [List.length_map]; show b.length + 1 ≤ sizeLine; have : b.length + 1 ≤ 4 := (by omega); exact Nat.le_trans this (by decide))]
      simp only [List.map_append, List.map_cons, List.map_nil]
    have l1 : frzF (bin true (two addO) (datF 9) (lstF (consF true (opF tupO (consF true (cF (.str "word")) (consF true (frzF (bin true (two mulO) (cF (.str "[")) (bin true (two addO) (datF 7) (cF (.int 1))))) nilF))) nilF))) (fB o3 ws left rs start (.list (vs.map PyData.str)) (some (.d (.str head))) (some (.d (.int k))) (some (.d (.list ([Sy.word w, .name, .figure, .part head].map Sy.d)))) (some (.d (.list (b.map Sy.d)))) none) =
        some (.own (.d (.list ((b ++ [Sy.word br]).map Sy.d))), fB o3 ws left rs start (.list (vs.map PyData.str)) (some (.d (.str head))) (some (.d (.int k))) (some (.d (.list ([Sy.word w, .name, .figure, .part head].map Sy.d)))) (some (.d (.list (b.map Sy.d)))) none) :=
      frz_ld (bin_ok (pb := true) (ra := .own (.d (.list (b.map Sy.d)))) (rb := .own (.l ([(Sy.word br).d].map O.d))) rfl (lst_ok (os := [O.d (Sy.word br).d]) (a_ok t1 n_ok) (show 1 ≤ sizeLine by decide)) a1)
    have c1 : callF G__law_rule (consF true (datF 6) (consF true (frzF (bin true (two addO) (datF 9) (lstF (consF true (opF tupO (consF true (cF (.str "word")) (consF true (frzF (bin true (two mulO) (cF (.str "[")) (bin true (two addO) (datF 7) (cF (.int 1))))) nilF))) nilF)))) nilF)) (fB o3 ws left rs start (.list (vs.map PyData.str)) (some (.d (.str head))) (some (.d (.int k))) (some (.d (.list ([Sy.word w, .name, .figure, .part head].map Sy.d)))) (some (.d (.list (b.map Sy.d)))) none) =
        some (.own (.d (ruleD head (b ++ [Sy.word br]))), fB o3 ws left rs start (.list (vs.map PyData.str)) (some (.d (.str head))) (some (.d (.int k))) (some (.d (.list ([Sy.word w, .name, .figure, .part head].map Sy.d)))) (some (.d (.list (b.map Sy.d)))) none) := call_ok (G := G__law_rule) (rs := [.own (.d (.str head)), .own (.d (.list ((b ++ [Sy.word br]).map Sy.d)))]) (a_ok (pb := true) (fa := datF 6) (r := .own (.d (.str head))) rfl (a_ok (pb := true) l1 n_ok)) (rule_ok head (b ++ [Sy.word br]) (by omega))
    have g1 : appG (rs.map fun r => O.d r.d) (.d (ruleD head (b ++ [Sy.word br]))) = some (.d .none, (rs ++ [(⟨head, b ++ [Sy.word br]⟩ : Rl)]).map fun r => O.d r.d) := by
      unfold appG
      rw [if_pos (by rw [List.length_map]; exact Nat.lt_of_le_of_lt hr (by decide))]
      simp only [List.map_append, List.map_cons, List.map_nil]
      rfl
    exact (drp_ok (mth0_ok rfl c1 rfl g1)).trans rfl
  refine ⟨o3, ⟨head, b ++ [Sy.word br]⟩, some (.d (.list ([Sy.word w, .name, .figure, .part head].map Sy.d))), some (.d (.list (b.map Sy.d))), none, ?_, d3.mono hq, ⟨hh, hbl, fun s m => ?_⟩, rfl⟩
  rotate_left
  · rcases List.mem_append.mp m with m | m
    · exact hs s m
    · rw [List.mem_singleton.mp m]; exact hbr
  · show inner _ = _
    unfold inner
    rw [seq_nx s8, seq_nx s9]
    exact s10
end K12
set_option Elab.async false
set_option linter.all false
set_option maxRecDepth 100000
/-! K12P4: the base is made. -/
namespace K12
open PySem PySem.Spec L2 Bv

theorem Gw.ok {w : Str} (h : Gw w) : PyData.strOk w = true := by
  unfold PyData.strOk
  rw [← Array.all_toList, List.all_eq_true]
  intro c m
  have := h.1 c m
  exact decide_eq_true (by omega)
theorem strs_lay {ws : List Str} (h : ∀ w ∈ ws, PyData.strOk w = true) : PyData.canLayAll0 (O.datas (ws.map fun w => O.d (.str w))) = true := by
  induction ws with
  | nil => rfl
  | cons w ws ih =>
    show (PyData.canLay0 (.str w) && PyData.canLayAll0 (O.datas (ws.map fun w => O.d (.str w)))) = true
    rw [ih fun w m => h w (List.mem_cons_of_mem _ m)]
    simp [PyData.canLay0, h w List.mem_cons_self]
theorem strs_pl (ws : List Str) : O.pls (ws.map fun w => O.d (.str w)) = true := by
  induction ws with
  | nil => rfl
  | cons c cs ih => show (true && O.pls (cs.map fun w => O.d (.str w))) = true; rw [ih]; rfl
theorem strs_ne {ws : List Str} (h : ∀ w ∈ ws, PyData.strOk w = true) : eqA true (strsO ws) (.l []) = some (.d (.bool (!ws.isEmpty))) := by
  show eqO true (strsO ws) (.l []) = _
  unfold eqO strsO
  rw [if_pos]
  · cases ws with
    | nil => simp [O.data, O.datas, PyData.eqv, PyData.eqvAll]
    | cons c cs => simp [O.data, O.datas, PyData.eqv, PyData.eqvAll]
  · refine ⟨strs_pl ws, rfl, ?_, by simp [O.data, O.datas, PyData.canLay0, PyData.canLayAll0], ?_⟩
    · show PyData.canLay0 (.list _) = true
      rw [PyData.canLay0]; exact strs_lay h
    · simp [O.data, O.datas, PyData.depth, PyData.depthAll]
theorem map_erase {α β : Type} (f : α → β) (xs : List α) (k : Nat) : (xs.map f).eraseIdx k = (xs.eraseIdx k).map f := by
  rw [List.eraseIdx_eq_take_drop_succ, List.eraseIdx_eq_take_drop_succ, List.map_append, List.map_take, List.map_drop]
abbrev turn : Sts := (seqF (setF [0] 6 (mthF 2 [] popG (callF G__law_draw (consF true (refF 0) (consF true (opF (one lenO) (consF true (borF 2) nilF)) nilF)))))
  (seqF (setF [0] 4 (ifV (tstF (bin true (two (isNo false)) (datF 4) (cF .none))) (datF 6) (datF 4)))
  (forF (rng1 (consF true (bin false (two addO) (cF (.int 1)) (callF G__law_draw (consF true (refF 0) (consF true (cF (.int 2)) nilF)))) nilF)) (nmT [0] 7) inner)))
def St (start : PyData) (rs : List Rl) : Prop := (rs = [] ∧ start = .none) ∨ (rs ≠ [] ∧ ∃ s, start = .str s ∧ Gw s)
theorem turn_ok {n : Nat} {o : O} (d : Dk n o) (hn : n + 12 < 2 ^ 50) (ws left : List Str) (rs : List Rl) (start : PyData) (hst : St start rs) (vs : List Str) (hv : ∀ w ∈ vs, Ow w) (hv0 : vs ≠ []) (hvl : vs.length ≤ 100) (hl : ∀ w ∈ left, Gw w) (h0 : left ≠ []) (hll : left.length ≤ 6) (hr : rs.length ≤ 90) (hro : ∀ r ∈ rs, r.Ok) (x6 x7 x8 x9 x10 : Option O) :
    ∃ (o' : O) (left' : List Str) (rs' : List Rl) (start' : PyData) (y6 y7 y8 y9 y10 : Option O), turn (fB o ws left rs start (.list (vs.map PyData.str)) x6 x7 x8 x9 x10) = some (.nx, fB o' ws left' rs' start' (.list (vs.map PyData.str)) y6 y7 y8 y9 y10) ∧
      Dk (n + 12) o' ∧ left'.length + 1 = left.length ∧ (∀ w ∈ left', Gw w) ∧ rs'.length ≤ rs.length + 2 ∧ (∀ r ∈ rs', r.Ok) ∧ St start' rs' ∧ rs' ≠ [] := by
  have hlp : 0 < left.length := List.length_pos_iff.mpr h0
  obtain ⟨i, o1, e1, i0, i1, d1⟩ := draw_in (many := (left.length : Nat)) (fm := opF (one lenO) (consF true (borF 2) nilF)) (fr := [some (.d (.list (ws.map PyData.str))), some (strsO left), some (rulesO rs), some (.d start), some (.d (.list (vs.map PyData.str))), x6, x7, x8, x9, x10]) d (by omega) (by omega) (by omega) (by
    refine op1_ok (r := .bor (strsO left)) rfl ?_
    show some (O.d (.int ((left.map fun w => O.d (.str w)).length : Nat))) = _
    rw [List.length_map])
  have hi : i.toNat < left.length := by omega
  -- the head
  have g1 : popG (left.map fun w => O.d (.str w)) (.d (.int i)) = some (.d (.str left[i.toNat]), (left.eraseIdx i.toNat).map fun w => O.d (.str w)) := by
    show (if _ then _ else _) = _
    rw [if_pos (by omega)]
    have ex : ixN (left.map fun w => O.d (.str w)).length i = some i.toNat := by
      unfold ixN
      rw [if_pos i0, if_pos (by rw [List.length_map]; omega)]
    rw [ex]
    simp only [Option.bind_some, List.getElem?_map, List.getElem?_eq_getElem hi, Option.map_some, map_erase]
  have hh : Gw left[i.toNat] := hl _ (List.getElem_mem hi)
  generalize hw : left[i.toNat] = head at g1 hh
  generalize hl' : left.eraseIdx i.toNat = left' at g1
  have c1 : left'.length + 1 = left.length := by rw [← hl', List.length_eraseIdx_of_lt hi]; omega
  have c2 : ∀ w ∈ left', Gw w := fun w m => hl w (by rw [← hl'] at m; exact List.mem_of_mem_eraseIdx m)
  have s6 : setF [0] 6 (mthF 2 [] popG (callF G__law_draw (consF true (refF 0) (consF true (opF (one lenO) (consF true (borF 2) nilF)) nilF)))) (fB o ws left rs start (.list (vs.map PyData.str)) x6 x7 x8 x9 x10) =
      some (.nx, fB o1 ws left' rs start (.list (vs.map PyData.str)) (some (.d (.str head))) x7 x8 x9 x10) := by
    have m1 : mthF 2 [] popG (callF G__law_draw (consF true (refF 0) (consF true (opF (one lenO) (consF true (borF 2) nilF)) nilF))) (fB o ws left rs start (.list (vs.map PyData.str)) x6 x7 x8 x9 x10) = some (.own (.d (.str head)), fB o1 ws left' rs start (.list (vs.map PyData.str)) x6 x7 x8 x9 x10) := by
      have q := mth0_ok (j := 2) (g := popG) (fr := fB o ws left rs start (.list (vs.map PyData.str)) x6 x7 x8 x9 x10) (fr1 := fB o1 ws left rs start (.list (vs.map PyData.str)) x6 x7 x8 x9 x10) (os0 := left.map fun w => O.d (.str w)) rfl e1 rfl g1
      exact q
    exact (set_ok m1 (by decide)).trans rfl
  -- the start
  obtain ⟨start', hs', es⟩ : ∃ start', (∃ s, start' = PyData.str s ∧ Gw s) ∧ setF [0] 4 (ifV (tstF (bin true (two (isNo false)) (datF 4) (cF .none))) (datF 6) (datF 4)) (fB o1 ws left' rs start (.list (vs.map PyData.str)) (some (.d (.str head))) x7 x8 x9 x10) =
      some (.nx, fB o1 ws left' rs start' (.list (vs.map PyData.str)) (some (.d (.str head))) x7 x8 x9 x10) := by
    rcases hst with ⟨_, rfl⟩ | ⟨_, s, rfl, hs⟩
    · exact ⟨.str head, ⟨head, rfl, hh⟩, rfl⟩
    · exact ⟨.str s, ⟨s, rfl, hs⟩, rfl⟩
  obtain ⟨s, rfl, hsw⟩ := hs'
  -- one rule or two
  obtain ⟨r, o2, e2, r0, r1, d2⟩ := draw_in (many := 2) (fm := cF (.int 2)) (fr := [some (.d (.list (ws.map PyData.str))), some (strsO left'), some (rulesO rs), some (.d (.str s)), some (.d (.list (vs.map PyData.str))), some (.d (.str head)), x7, x8, x9, x10]) d1 (by omega) (by decide) (by decide) rfl
  have hts : ∀ t ∈ Bv.intsFrom 0 (1 + r).toNat, t = .int 0 ∨ t = .int 1 := fun t ht => by
    obtain ⟨k, rfl, k0, k1⟩ := ints_mem ht
    have : k = 0 ∨ k = 1 := by omega
    rcases this with rfl | rfl
    · exact .inl rfl
    · exact .inr rfl
  have f := for_ok (it := rng1 (consF true (bin false (two addO) (cF (.int 1)) (callF G__law_draw (consF true (refF 0) (consF true (cF (.int 2)) nilF)))) nilF)) (tgt := nmT [0] 7) (body := inner) (fr := fB o1 ws left' rs (.str s) (.list (vs.map PyData.str)) (some (.d (.str head))) x7 x8 x9 x10)
    (fr1 := fB o2 ws left' rs (.str s) (.list (vs.map PyData.str)) (some (.d (.str head))) x7 x8 x9 x10) (ts := Bv.intsFrom 0 (1 + r).toNat) (by
      have q : consF true (bin false (two addO) (cF (.int 1)) (callF G__law_draw (consF true (refF 0) (consF true (cF (.int 2)) nilF)))) nilF (fB o1 ws left' rs (.str s) (.list (vs.map PyData.str)) (some (.d (.str head))) x7 x8 x9 x10) = some ([.own (.d (.int (1 + r)))], fB o2 ws left' rs (.str s) (.list (vs.map PyData.str)) (some (.d (.str head))) x7 x8 x9 x10) :=
        a_ok (bin_ok (pb := false) (ra := .own (.d (.int 1))) rfl e2 add_ii) n_ok
      unfold rng1
      rw [q]
      simp only [Option.bind_some, List.map_cons, List.map_nil, Rs.o]
      rw [if_pos (by omega)])
    (fun ts fr => ∃ (o3 : O) (q : Nat) (more : List Rl) (x7 x8 x9 x10 : Option O), Dk q o3 ∧ q + 5 * ts.length ≤ n + 12 ∧ (∀ t ∈ ts, t = .int 0 ∨ t = .int 1) ∧ (∀ r ∈ more, r.Ok) ∧ more.length + ts.length ≤ 2 ∧ (more ≠ [] ∨ ts ≠ []) ∧
      fr = fB o3 ws left' (rs ++ more) (.str s) (.list (vs.map PyData.str)) (some (.d (.str head))) x7 x8 x9 x10)
    ⟨o2, n + 1 + 1, [], x7, x8, x9, x10, d2, by rw [ints_len]; omega, hts, (fun _ m => nomatch m), by rw [ints_len]; simp; omega, .inr (by
      intro z
      have z2 : (Bv.intsFrom 0 (1 + r).toNat).length = 0 := by rw [z]; rfl
      rw [ints_len] at z2
      omega), by rw [List.append_nil]⟩ (by
      rintro t ts fr ⟨o3, q, more, x7, x8, x9, x10, d3, hq, ht, hm, hml, _, rfl⟩
      have hq : q + 5 * (ts.length + 1) ≤ n + 12 := hq
      have hml : more.length + (ts.length + 1) ≤ 2 := hml
      obtain ⟨k, rfl, hk⟩ : ∃ k : Int, t = .int k ∧ (k = 0 ∨ k = 1) := by
        rcases ht t List.mem_cons_self with e | e
        · exact ⟨0, e, .inl rfl⟩
        · exact ⟨1, e, .inr rfl⟩
      obtain ⟨o4, ru, y8, y9, y10, e4, d4, hru, _⟩ := inner_ok d3 (by omega) ws left' (rs ++ more) (.str s) vs hv hv0 hvl head hh k hk (by rw [List.length_append]; omega) x8 x9 x10
      refine ⟨fB o3 ws left' (rs ++ more) (.str s) (.list (vs.map PyData.str)) (some (.d (.str head))) (some (.d (.int k))) x8 x9 x10, _, rfl, e4, o4, q + 5, more ++ [ru], _, _, _, _, d4, by omega, fun t m => ht t (List.mem_cons_of_mem _ m), fun r m => ?_, by rw [List.length_append, List.length_singleton]; omega, .inl (by simp), by rw [List.append_assoc]⟩
      rcases List.mem_append.mp m with m | m
      · exact hm r m
      · rw [List.mem_singleton.mp m]; exact hru)
  obtain ⟨fr', e5, o3, q, more, y7, y8, y9, y10, d3, hq, _, hm, hml, hne, rfl⟩ := f
  have hne : more ≠ [] := hne.resolve_right fun z => z rfl
  have hq : q ≤ n + 12 := by simpa using hq
  have hml : more.length ≤ 2 := by simpa using hml
  refine ⟨o3, left', rs ++ more, .str s, some (.d (.str head)), y7, y8, y9, y10, ?_, d3.mono hq, c1, c2, by rw [List.length_append]; omega, fun r m => ?_, .inr ⟨by simp [hne], s, rfl, hsw⟩, by simp [hne]⟩
  · show turn _ = _
    unfold turn
    rw [seq_nx s6, seq_nx es]
    exact e5
  · rcases List.mem_append.mp m with m | m
    · exact hro r m
    · exact hm r m
abbrev more' : Evt := tstF (bin true (two (eqA true)) (borF 2) (lstF nilF))
theorem wh_ok (ws vs : List Str) (hv : ∀ w ∈ vs, Ow w) (hv0 : vs ≠ []) (hvl : vs.length ≤ 100) : ∀ (fuel : Nat) (left : List Str) (n : Nat) (o : O) (rs : List Rl) (start : PyData) (x6 x7 x8 x9 x10 : Option O), left.length < fuel → left.length ≤ 6 → (∀ w ∈ left, Gw w) → Dk n o → n + 12 * left.length < 2 ^ 50 →
    rs.length + 2 * left.length ≤ 50 → (∀ r ∈ rs, r.Ok) → St start rs → (left ≠ [] ∨ rs ≠ []) →
    ∃ (o' : O) (rs' : List Rl) (st : Str) (y6 y7 y8 y9 y10 : Option O), whF fuel more' turn (fB o ws left rs start (.list (vs.map PyData.str)) x6 x7 x8 x9 x10) = some (.nx, fB o' ws [] rs' (.str st) (.list (vs.map PyData.str)) y6 y7 y8 y9 y10) ∧
      Dk (n + 12 * left.length) o' ∧ rs'.length ≤ rs.length + 2 * left.length ∧ (∀ r ∈ rs', r.Ok) ∧ rs' ≠ [] ∧ Gw st
  | 0, left, _, _, _, _, _, _, _, _, _, h, _, _, _, _, _, _, _, _ => by omega
  | fuel + 1, left, n, o, rs, sta, x6, x7, x8, x9, x10, hf, h6, hl, d, hn, hrl, hro, hst, hne => by
    have hc : more' (fB o ws left rs sta (.list (vs.map PyData.str)) x6 x7 x8 x9 x10) = some (!left.isEmpty, fB o ws left rs sta (.list (vs.map PyData.str)) x6 x7 x8 x9 x10) :=
      tst_ok (bin_ok (pb := true) (ra := .bor (strsO left)) (rb := .own (.l [])) rfl rfl (strs_ne fun w m => (hl w m).ok))
    cases left with
    | nil =>
      have hr : rs ≠ [] := hne.resolve_left fun z => z rfl
      rcases hst with ⟨e, _⟩ | ⟨_, st, rfl, hs⟩
      · exact absurd e hr
      · refine ⟨o, rs, st, x6, x7, x8, x9, x10, ?_, d, by omega, hro, hr, hs⟩
        unfold whF
        rw [hc]
        rfl
    | cons w left =>
      have hlen : (w :: left).length = left.length + 1 := rfl
      obtain ⟨o1, left', rs', sta', y6, y7, y8, y9, y10, e1, d1, c1, c2, c3, c4, c5, c6⟩ := turn_ok d (by omega) ws (w :: left) rs sta hst vs hv hv0 hvl hl (by simp) h6 (by omega) hro x6 x7 x8 x9 x10
      have c1 : left'.length = left.length := by omega
      obtain ⟨o2, rs2, st, z6, z7, z8, z9, z10, e2, d2, b1, b2, b3, b4⟩ := wh_ok ws vs hv hv0 hvl fuel left' (n + 12) o1 rs' sta' y6 y7 y8 y9 y10 (by omega) (by omega) c2 d1 (by omega) (by omega) c4 c5 (.inr c6)
      refine ⟨o2, rs2, st, z6, z7, z8, z9, z10, ?_, d2.mono (by omega), by omega, b2, b3, b4⟩
      unfold whF
      rw [hc]
      simp only [Option.bind_some, List.isEmpty_cons, Bool.not_false, if_pos]
      rw [e1]
      exact e2
theorem cut_take {α : Type} (xs : List α) (i j : Nat) : Bv.cutD xs (some (i : Int)) (some (j : Int)) = (xs.drop i).take (j - i) ∨ xs.length < j := by
  by_cases h : xs.length < j
  · exact .inr h
  · refine .inl ?_
    unfold Bv.cutD
    rw [HT.sIx_nat, HT.sIx_nat]
    by_cases h2 : i ≤ xs.length
    · rw [Nat.min_eq_left h2, Nat.min_eq_left (show j ≤ xs.length by omega)]
    · rw [Nat.min_eq_right (show xs.length ≤ i by omega), List.drop_of_length_le (Nat.le_refl _), List.drop_of_length_le (show xs.length ≤ i by omega)]
      simp
theorem base_ok {n : Nat} {o : O} (d : Dk n o) (hn : n + 80 < 2 ^ 50) (ws : List Str) (hw : ∀ w ∈ ws, Gw w) (hwl : ws.length = 12) : ∃ (st : Str) (rs : List Rl) (o' : O), G__law_base [o, .d (.list (ws.map PyData.str))] = some (.d (baseD st rs), [some o', none]) ∧
    Dk (n + 80) o' ∧ rs ≠ [] ∧ rs.length ≤ 12 ∧ (∀ r ∈ rs, r.Ok) ∧ Gw st := by
  obtain ⟨r, o1, e1, r0, r1, d1⟩ := draw_in (many := 6) (fm := cF (.int 6)) (fr := [some (.d (.list (ws.map PyData.str))), none, none, none, none, none, none, none, none, none]) d (by omega) (by decide) (by decide) rfl
  have s1 : parF [0] [2, 3, 4] (consF true (cutH false (datF 1) (bin false (two addO) (cF (.int 1)) (callF G__law_draw (consF true (refF 0) (consF true (cF (.int 6)) nilF))))) (consF true (lstF nilF) (consF true (cF .none) nilF)))
      [some o, some (.d (.list (ws.map PyData.str))), none, none, none, none, none, none, none, none, none] =
      some (.nx, [some o1, some (.d (.list (ws.map PyData.str))), some (strsO (ws.take (1 + r).toNat)), some (rulesO []), some (.d .none), none, none, none, none, none, none]) := by
    have c1 : cutH false (datF 1) (bin false (two addO) (cF (.int 1)) (callF G__law_draw (consF true (refF 0) (consF true (cF (.int 6)) nilF)))) [some o, some (.d (.list (ws.map PyData.str))), none, none, none, none, none, none, none, none, none] =
        some (.own (strsO (ws.take (1 + r).toNat)), [some o1, some (.d (.list (ws.map PyData.str))), none, none, none, none, none, none, none, none, none]) := by
      refine cutH_ok (r := .own (.d (.list (ws.map PyData.str)))) (j := 1 + r) rfl (bin_ok (pb := false) (ra := .own (.d (.int 1))) rfl e1 add_ii) ?_ rfl
      show some (O.l ((Bv.cutD (ws.map PyData.str) none (some (1 + r))).map O.d)) = _
      rw [show (1 + r) = (((1 + r).toNat : Nat) : Int) by omega, cut_first]
      unfold strsO
      rw [← List.map_take, List.map_map]
      rfl
    unfold parF
    rw [a_ok c1 (a_ok (r := .own (.l [])) rfl (a_ok (r := .own (.d .none)) rfl n_ok))]
    rfl
  generalize hvs : (ws.drop 6).take 4 ++ signs = vs
  have hv : ∀ w ∈ vs, Ow w := fun w m => by
    rw [← hvs] at m
    rcases List.mem_append.mp m with m | m
    · exact (hw w (List.mem_of_mem_drop (List.mem_of_mem_take m))).ow
    · exact signs_ow w m
  have hv0 : vs ≠ [] := by rw [← hvs]; simp [signs]
  have hvl : vs.length ≤ 100 := by rw [← hvs, List.length_append, List.length_take]; show min 4 _ + 4 ≤ 100; omega
  have s2 : setF [0] 5 (frzF (bin true (two addO) (cutLH true true (datF 1) (cF (.int 6)) (cF (.int 10))) (lstF (consF true (cF (.str "(")) (consF true (cF (.str "=")) (consF true (cF (.str "->")) (consF true (cF (.str "|")) nilF)))))))
      [some o1, some (.d (.list (ws.map PyData.str))), some (strsO (ws.take (1 + r).toNat)), some (rulesO []), some (.d .none), none, none, none, none, none, none] =
      some (.nx, fB o1 ws (ws.take (1 + r).toNat) [] .none (.list (vs.map PyData.str)) none none none none none) := by
    have c1 : cutLH true true (datF 1) (cF (.int 6)) (cF (.int 10)) [some o1, some (.d (.list (ws.map PyData.str))), some (strsO (ws.take (1 + r).toNat)), some (rulesO []), some (.d .none), none, none, none, none, none, none] =
        some (.own (.l ((((ws.drop 6).take 4).map PyData.str).map O.d)), [some o1, some (.d (.list (ws.map PyData.str))), some (strsO (ws.take (1 + r).toNat)), some (rulesO []), some (.d .none), none, none, none, none, none, none]) := by
      refine cutLH_ok (r := .own (.d (.list (ws.map PyData.str)))) (i := 6) (j := 10) rfl rfl rfl ?_
      show some (O.l ((Bv.cutD (ws.map PyData.str) (some ((6 : Nat) : Int)) (some ((10 : Nat) : Int))).map O.d)) = _
      rcases cut_take (ws.map PyData.str) 6 10 with e | e
      · rw [e]
        simp only [List.map_take, List.map_drop]
      · rw [List.length_map, hwl] at e
        omega
    have a1 : addO (.l ((((ws.drop 6).take 4).map PyData.str).map O.d)) (.l ((signs.map PyData.str).map O.d)) = some (.l ((vs.map PyData.str).map O.d)) := by
      show (match asL (.l ((((ws.drop 6).take 4).map PyData.str).map O.d)), asL (.l ((signs.map PyData.str).map O.d)) with | some xs, some ys => if xs.length + ys.length ≤ sizeLine then some (O.l ((xs ++ ys).map O.d)) else none | _, _ => none) = _
      rw [show asL (.l ((((ws.drop 6).take 4).map PyData.str).map O.d)) = some (((ws.drop 6).take 4).map PyData.str) from allD_map _, show asL (.l ((signs.map PyData.str).map O.d)) = some (signs.map PyData.str) from allD_map _]
      show (if _ then _ else _) = _
      rw [if_pos (by rw [List.length_map, List.length_map, List.length_take]; have : min 4 (ws.drop 6).length + signs.length ≤ 100 := (by show min 4 _ + 4 ≤ 100; omega); exact Nat.le_trans this (by decide)), ← hvs]
      simp only [List.map_append]
    exact (set_ok (frz_ld (bin_ok (pb := true) (ra := .own (.l ((((ws.drop 6).take 4).map PyData.str).map O.d))) (rb := .own (.l ((signs.map PyData.str).map O.d))) c1 rfl a1)) (by decide)).trans rfl
  have hlf : (ws.take (1 + r).toNat).length = (1 + r).toNat := by rw [List.length_take, hwl]; omega
  obtain ⟨o2, rs, st, y6, y7, y8, y9, y10, e2, d2, b1, b2, b3, b4⟩ := wh_ok ws vs hv hv0 hvl 100 (ws.take (1 + r).toNat) (n + 1) o1 [] .none none none none none none (by omega) (by omega) (fun w m => hw w (List.mem_of_mem_take m)) d1 (by omega) (by simp; omega) (fun _ m => nomatch m) (.inl ⟨rfl, rfl⟩) (.inl (by
    intro z
    rw [z] at hlf
    simp at hlf
    omega))
  have hbl : rs.length ≤ 12 := by
    have : rs.length ≤ 0 + 2 * (ws.take (1 + r).toNat).length := b1
    omega
  refine ⟨st, rs, o2, ?_, d2.mono (by omega), b3, hbl, b2, b4⟩
  refine (g_rt (os := [o, .d (.list (ws.map PyData.str))]) (o := .d (baseD st rs)) (fr := fB o2 ws [] rs (.str st) (.list (vs.map PyData.str)) y6 y7 y8 y9 y10) rfl ?_).trans rfl
  show b__law_base [some o, some (.d (.list (ws.map PyData.str))), none, none, none, none, none, none, none, none, none] = _
  unfold b__law_base
  rw [seq_nx s1, seq_nx s2, seq_nx e2]
  have t1 : opF (one tupleO) (consF true (borF 3) nilF) (fB o2 ws [] rs (.str st) (.list (vs.map PyData.str)) y6 y7 y8 y9 y10) = some (.own (.d (.tuple (rs.map Rl.d))), fB o2 ws [] rs (.str st) (.list (vs.map PyData.str)) y6 y7 y8 y9 y10) := by
    refine op1_ok (r := .bor (rulesO rs)) rfl ?_
    show (Option.bind (allD (rs.map fun r => O.d r.d)) _) = _
    rw [show (rs.map fun r => O.d r.d) = (rs.map Rl.d).map O.d by rw [List.map_map]; rfl, allD_map]
    rfl
  exact ret_ok (tup_ok (ts := [.str "base", .str st, .tuple (rs.map Rl.d)]) (a_ok (r := .own (.d (.str "base"))) rfl (a_ok (r := .own (.d (.str st))) rfl (a_ok t1 n_ok))) (show 3 ≤ sizeLine by decide))
end K12
set_option Elab.async false
set_option linter.all false
set_option maxRecDepth 100000
/-! K12P5: what meets. -/
namespace K12
open PySem PySem.Spec L2 Bv

theorem ch_ok {p q : Int → Int → Bool} {fa fb fc : Ev} {fr fr1 fr2 : Fr} {i j k : Int} (ha : fa fr = some (.own (.d (.int i)), fr1)) (hb : fb fr1 = some (.own (.d (.int j)), fr2)) (hc : fc fr2 = some (.own (.d (.int k)), fr2)) : chF p q fa fb fc fr = some (.own (.d (.bool (p i j && q j k))), fr2) := by
  unfold chF
  rw [ha]
  simp only [Option.bind_some, intR, hb]
  cases h : p i j with
  | false => rfl
  | true =>
    simp only [if_pos, hc, Option.bind_some, Bool.true_and, intR]
theorem len_s {w : Str} (h : w.length ≤ 1000) : lenO (.d (.str w)) = some (.d (.int (w.length : Nat))) := by
  show (if w.length ≤ sizeLine then _ else none) = _
  rw [if_pos (Nat.le_trans h (by decide))]
abbrev abc : Str := "abcdefghijklmnopqrstuvwxyz"
def allL (w : Str) : Bool := w.cps.toList.all fun c => decide (c ∈ abc.cps.toList)
def nm (w : Str) : Bool := (decide ((1 : Int) ≤ (w.length : Nat)) && decide (((w.length : Nat) : Int) ≤ 6)) && allL w
theorem bools_of (bs : List Bool) : boolsOf (bs.map PyData.bool) = some bs := by
  induction bs with
  | nil => rfl
  | cons b bs ih =>
    show ((boolsOf (bs.map PyData.bool)).bind fun cs => some (b :: cs)) = _
    rw [ih]
    rfl
theorem sign_in {neg : Bool} {c : Nat} : inA neg (.d (.str ⟨#[c]⟩)) (.d (.str abc)) = some (.d (.bool (if neg then !(decide (c ∈ abc.cps.toList)) else decide (c ∈ abc.cps.toList)))) := rfl
theorem signs_mem {w : Str} {t : PyData} (h : t ∈ signsD w) : ∃ c ∈ w.cps.toList, t = .str ⟨#[c]⟩ := by
  unfold signsD at h
  obtain ⟨c, m, e⟩ := List.mem_map.mp h
  exact ⟨c, m, e.symm⟩
theorem signs_len (w : Str) : (signsD w).length = w.length := by
  unfold signsD
  rw [List.length_map]
  rfl
/-- the test of a sign -/
def chr (t : PyData) : Nat := match t with
  | .str x => x.cps.toList.headD 0
  | _ => 0
theorem is_name_ok {w : Str} (hl : w.length ≤ 12) : G_is_name [.d (.str w)] = some (.d (.bool (nm w)), [none]) := by
  have tt : (orF (notF (tstF (una (one (isiO "str")) (datF 0)))) (notF (tstF (chF (fun i j => decide (i ≤ j)) (fun i j => decide (i ≤ j)) (cF (.int 1)) (opF (one lenO) (consF true (datF 0) nilF)) (datF 2))))) [some (.d (.str w)), some (.d (.str abc)), some (.d (.int 6)), none] =
      some (!(decide ((1 : Int) ≤ (w.length : Nat)) && decide (((w.length : Nat) : Int) ≤ 6)), [some (.d (.str w)), some (.d (.str abc)), some (.d (.int 6)), none]) := by
    have h1 : tstF (una (one (isiO "str")) (datF 0)) [some (.d (.str w)), some (.d (.str abc)), some (.d (.int 6)), none] = some (true, [some (.d (.str w)), some (.d (.str abc)), some (.d (.int 6)), none]) := rfl
    have h2 : tstF (chF (fun i j => decide (i ≤ j)) (fun i j => decide (i ≤ j)) (cF (.int 1)) (opF (one lenO) (consF true (datF 0) nilF)) (datF 2)) [some (.d (.str w)), some (.d (.str abc)), some (.d (.int 6)), none] = some (decide ((1 : Int) ≤ (w.length : Nat)) && decide (((w.length : Nat) : Int) ≤ 6), [some (.d (.str w)), some (.d (.str abc)), some (.d (.int 6)), none]) :=
      tst_ok (ch_ok rfl (op1_ok rfl (len_s (by omega))) rfl)
    unfold orF notF
    rw [h1]
    simp only [Option.bind_some]
    rw [h2]
    rfl
  have cc := lc_ok (it := anyI (datF 0)) (tgt := nmT [] 3) (tst := yesF) (elt := bin true (two (inA false)) (datF 3) (datF 1)) (vs := [3]) (fr := [some (.d (.str w)), some (.d (.str abc)), some (.d (.int 6)), none]) (fr1 := [some (.d (.str w)), some (.d (.str abc)), some (.d (.int 6)), none]) (ts := signsD w)
    (fun t => some (.bool (decide (chr t ∈ abc.cps.toList)))) rfl (fun t ht => by
      obtain ⟨c, _, rfl⟩ := signs_mem ht
      exact ⟨[some (.d (.str w)), some (.d (.str abc)), some (.d (.int 6)), some (.d (.str ⟨#[c]⟩))], [some (.d (.str w)), some (.d (.str abc)), some (.d (.int 6)), some (.d (.str ⟨#[c]⟩))], rfl, ⟨_, rfl, bin_dd rfl rfl sign_in⟩, rfl⟩) (by rw [signs_len]; exact Nat.le_trans hl (by decide))
  have e1 : ((signsD w).filterMap fun t => some (PyData.bool (decide (chr t ∈ abc.cps.toList)))) = (w.cps.toList.map fun c => decide (c ∈ abc.cps.toList)).map PyData.bool := by
    unfold signsD
    rw [List.filterMap_map, List.map_map]
    rw [show ((fun t => some (PyData.bool (decide (chr t ∈ abc.cps.toList)))) ∘ fun c => PyData.str ⟨#[c]⟩) = some ∘ (PyData.bool ∘ fun c => decide (c ∈ abc.cps.toList)) from rfl]
    rw [List.filterMap_eq_map]
  rw [e1] at cc
  have ra : opF (one allO) (consF true (lcF (anyI (datF 0)) (nmT [] 3) yesF (bin true (two (inA false)) (datF 3) (datF 1)) [3]) nilF) [some (.d (.str w)), some (.d (.str abc)), some (.d (.int 6)), none] = some (.own (.d (.bool (allL w))), [some (.d (.str w)), some (.d (.str abc)), some (.d (.int 6)), none]) := by
    refine op1_ok cc ?_
    show (Option.bind (allD (((w.cps.toList.map fun c => decide (c ∈ abc.cps.toList)).map PyData.bool).map O.d)) _) = _
    rw [allD_map]
    simp only [Option.bind_some, bools_of]
    unfold allL
    rw [List.all_map]
    rfl
  have iso : G_is_of [.d (.str w), .d (.str abc), .d (.int 6)] = some (.d (.bool (nm w)), [none, none, none]) := by
    refine (g_rt (os := [.d (.str w), .d (.str abc), .d (.int 6)]) (o := .d (.bool (nm w))) (fr := [some (.d (.str w)), some (.d (.str abc)), some (.d (.int 6)), none]) rfl ?_).trans rfl
    show b_is_of [some (.d (.str w)), some (.d (.str abc)), some (.d (.int 6)), none] = _
    unfold b_is_of nm
    cases hb : (decide ((1 : Int) ≤ (w.length : Nat)) && decide (((w.length : Nat) : Int) ≤ 6)) with
    | false =>
      rw [hb] at tt
      exact seq_rt (by rw [if_true' tt]; rfl)
    | true =>
      rw [hb] at tt
      rw [seq_nx (by rw [if_false' tt]; rfl)]
      exact ret_ok ra
  refine (g_rt (os := [.d (.str w)]) (o := .d (.bool (nm w))) (fr := [some (.d (.str w))]) rfl ?_).trans rfl
  show b_is_name [some (.d (.str w))] = _
  unfold b_is_name
  exact ret_ok (call_ok (rs := [.own (.d (.str w)), .own (.d (.str abc)), .own (.d (.int 6))]) rfl iso)
/-! ### terminals -/
inductive Tm where
  | one (k : Str)
  | two (k w : Str)
def Tm.d : Tm → PyData
  | .one k => .tuple [.str k]
  | .two k w => .tuple [.str k, .str w]
def Tm.Ok : Tm → Prop
  | .one k => PyData.strOk k = true ∧ k.length ≤ 12 ∧ (k == "word") = false
  | .two k w => PyData.strOk k = true ∧ k.length ≤ 12 ∧ Ow w
theorem Ow.ok {w : Str} (h : Ow w) : PyData.strOk w = true := by
  unfold PyData.strOk
  rw [← Array.all_toList, List.all_eq_true]
  intro c m
  have := h.2.1 c m
  exact decide_eq_true (by omega)
theorem Tm.sd {t : Tm} (h : t.Ok) : Sd t.d = true ∧ t.d.depth = 1 := by
  cases t with
  | one k => exact ⟨by show (PyData.strOk k && true) = true; rw [h.1]; rfl, rfl⟩
  | two k w => exact ⟨by show (PyData.strOk k && (PyData.strOk w && true)) = true; rw [h.1, h.2.2.ok]; rfl, rfl⟩
def opn (hs : List Str) : Tm → Bool
  | .one _ => false
  | .two k w => (k == "word") && (allL w && !(hs.any (· == w)))
theorem ow_nm {w : Str} (h : Ow w) : nm w = allL w := by
  unfold nm
  cases ha : allL w with
  | false => rw [Bool.and_false]
  | true =>
    have hall : ∀ c ∈ w.cps.toList, 97 ≤ c ∧ c ≤ 122 := fun c m => (abc_mem c).mp (by
      unfold allL at ha
      rw [List.all_eq_true] at ha
      exact of_decide_eq_true (ha c m))
    rcases h.1 with g | ⟨c, m, g⟩
    · rw [decide_eq_true (by have := g.2.1; omega), decide_eq_true (by have := g.2.2; omega)]
      rfl
    · exact absurd (hall c m) g
theorem any_eq (hs : List Str) (w : Str) : ((hs.map PyData.str).any fun z => PyData.eqv z (.str w)) = hs.any (· == w) := by
  rw [List.any_map]
  congr
theorem lay_strs {hs : List Str} (h : ∀ w ∈ hs, PyData.strOk w = true) : PyData.canLayAll0 (hs.map PyData.str) = true := by
  have := strs_lay h
  rwa [show O.datas (hs.map fun w => O.d (.str w)) = hs.map PyData.str by rw [show (hs.map fun w => O.d (.str w)) = (hs.map PyData.str).map O.d by rw [List.map_map]; rfl, O.datas_d]] at this
theorem not_in {hs : List Str} {w : Str} (hh : ∀ w ∈ hs, PyData.strOk w = true) (hw : PyData.strOk w = true) : inA true (.d (.str w)) (.d (.tuple (hs.map PyData.str))) = some (.d (.bool (!(hs.any (· == w))))) := by
  show inO true (.d (.str w)) (.d (.tuple (hs.map PyData.str))) = _
  unfold inO
  rw [if_pos ⟨rfl, rfl⟩]
  show (Option.bind (some (hs.map PyData.str)) _) = _
  simp only [Option.bind_some]
  rw [if_pos ⟨hw, lay_strs hh, by simp [O.data, PyData.depth]⟩]
  show some (O.d (.bool (!((hs.map PyData.str).any fun z => PyData.eqv z (.str w))))) = _
  rw [any_eq]
theorem t_first (t : Tm) : ∃ k, ixO (.d t.d) (.d (.int 0)) = some (.d (.str k)) ∧ (k = match t with | .one k => k | .two k _ => k) := by
  cases t with
  | one k => exact ⟨k, ix_t (at0 _ _), rfl⟩
  | two k w => exact ⟨k, ix_t (at0 _ _), rfl⟩
theorem is_free_ok {hs : List Str} (hh : ∀ w ∈ hs, PyData.strOk w = true) {t : Tm} (ht : t.Ok) : G_is_free [.d (.tuple (hs.map PyData.str)), .d t.d] = some (.d (.bool (opn hs t)), [none, none]) := by
  refine (g_rt (os := [.d (.tuple (hs.map PyData.str)), .d t.d]) (o := .d (.bool (opn hs t))) (fr := [some (.d (.tuple (hs.map PyData.str))), some (.d t.d)]) rfl ?_).trans rfl
  show b_is_free [some (.d (.tuple (hs.map PyData.str))), some (.d t.d)] = _
  unfold b_is_free
  refine ret_ok ?_
  unfold andV
  cases t with
  | one k =>
    have q : bin true (two (eqA false)) (bin true (two ixO) (datF 1) (cF (.int 0))) (cF t_WORD_terminals) [some (.d (.tuple (hs.map PyData.str))), some (.d (Tm.one k).d)] = some (.own (.d (.bool false)), [some (.d (.tuple (hs.map PyData.str))), some (.d (Tm.one k).d)]) :=
      bin_dd (bin_dd rfl rfl (ix_t (at0 _ _))) rfl ((eq_ss ht.1 okW).trans (by rw [ht.2.2]; rfl))
    rw [q]
    rfl
  | two k w =>
    have q : bin true (two (eqA false)) (bin true (two ixO) (datF 1) (cF (.int 0))) (cF t_WORD_terminals) [some (.d (.tuple (hs.map PyData.str))), some (.d (Tm.two k w).d)] = some (.own (.d (.bool (k == "word"))), [some (.d (.tuple (hs.map PyData.str))), some (.d (Tm.two k w).d)]) :=
      bin_dd (bin_dd rfl rfl (ix_t (at0 _ _))) rfl (eq_ss ht.1 okW)
    rw [q]
    simp only [Option.bind_some, isB]
    cases hk : (k == "word") with
    | false =>
      rw [show opn hs (.two k w) = ((k == "word") && (allL w && !(hs.any (· == w)))) from rfl, hk]
      rfl
    | true =>
      have q1 : bin true (two ixO) (datF 1) (cF (.int 1)) [some (.d (.tuple (hs.map PyData.str))), some (.d (Tm.two k w).d)] = some (.own (.d (.str w)), [some (.d (.tuple (hs.map PyData.str))), some (.d (Tm.two k w).d)]) := bin_dd rfl rfl (ix_t (at1 _ _ _))
      have q2 : callF G_is_name (consF true (bin true (two ixO) (datF 1) (cF (.int 1))) nilF) [some (.d (.tuple (hs.map PyData.str))), some (.d (Tm.two k w).d)] = some (.own (.d (.bool (nm w))), [some (.d (.tuple (hs.map PyData.str))), some (.d (Tm.two k w).d)]) :=
        call_ok (rs := [.own (.d (.str w))]) (a_ok q1 n_ok) (is_name_ok ht.2.2.2.2)
      rw [show opn hs (.two k w) = ((k == "word") && (allL w && !(hs.any (· == w)))) from rfl, hk, Bool.true_and]
      show (Option.bind (callF G_is_name (consF true (bin true (two ixO) (datF 1) (cF (.int 1))) nilF) [some (.d (.tuple (hs.map PyData.str))), some (.d (Tm.two k w).d)]) _) = _
      rw [q2, ow_nm ht.2.2]
      cases ha : allL w with
      | false => rfl
      | true =>
        rw [Bool.true_and]
        exact bin_dd (pb := true) (fb := datF 0) (y := .tuple (hs.map PyData.str)) q1 rfl (not_in hh ht.2.2.ok)
theorem eq_nil {xs : List PyData} (h : Sds xs = true) (hd : PyData.depthAll xs ≤ 60) {neg : Bool} : eqA neg (.l (xs.map O.d)) (.l []) = some (.d (.bool (if neg then !xs.isEmpty else xs.isEmpty))) := by
  show eqO neg (.l (xs.map O.d)) (.l []) = _
  unfold eqO
  rw [if_pos]
  · show some (O.d (.bool (if neg then !(PyData.eqv (.list (O.datas (xs.map O.d))) (.list [])) else PyData.eqv (.list (O.datas (xs.map O.d))) (.list [])))) = _
    rw [O.datas_d]
    cases xs with
    | nil => simp [PyData.eqv, PyData.eqvAll]
    | cons x xs => simp [PyData.eqv, PyData.eqvAll]
  · refine ⟨pls_d xs, rfl, ?_, by simp [O.data, O.datas, PyData.canLay0, PyData.canLayAll0], ?_⟩
    · show PyData.canLay0 (.list (O.datas (xs.map O.d))) = true
      rw [O.datas_d, PyData.canLay0]
      exact (sds_lay xs h).1
    · show min (PyData.depth (.list (O.datas (xs.map O.d)))) (PyData.depth (.list [])) ≤ 64
      simp [PyData.depth, PyData.depthAll]
end K12
set_option Elab.async false
set_option linter.all false
set_option maxRecDepth 100000
/-! K12P6: what meets, by the program and by the law. -/
namespace K12
open PySem PySem.Spec L2 Bv

theorem sds_strs {hs : List Str} (h : ∀ w ∈ hs, PyData.strOk w = true) : Sds (hs.map PyData.str) = true := sds_of fun d m => by
  obtain ⟨w, hw, rfl⟩ := List.mem_map.mp m
  exact h w hw
theorem dep_strs (hs : List Str) : PyData.depthAll (hs.map PyData.str) ≤ 60 := Nat.le_trans (depth_le (B := 0) fun d m => by
  obtain ⟨w, _, rfl⟩ := List.mem_map.mp m
  exact Nat.le_refl _) (by decide)
theorem sds_filter {α : Type} (f : α → PyData) (g : PyData → Option PyData) (xs : List PyData) (h : Sds xs = true) (hg : ∀ t d, g t = some d → d = t) : Sds (xs.filterMap g) = true := by
  induction xs with
  | nil => rfl
  | cons x xs ih =>
    have h : (Sd x && Sds xs) = true := h
    rw [Bool.and_eq_true] at h
    rw [List.filterMap_cons]
    cases e : g x with
    | none => exact ih h.2
    | some d =>
      have := hg x d e
      subst this
      show (Sd d && Sds (xs.filterMap g)) = true
      rw [h.1, ih h.2]
      rfl
theorem dep_filter (g : PyData → Option PyData) (xs : List PyData) (h : PyData.depthAll xs ≤ 60) (hg : ∀ t d, g t = some d → d = t) : PyData.depthAll (xs.filterMap g) ≤ 60 := by
  induction xs with
  | nil => exact h
  | cons x xs ih =>
    simp only [PyData.depthAll] at h
    rw [List.filterMap_cons]
    cases e : g x with
    | none => exact ih (by omega)
    | some d =>
      have := hg x d e
      subst this
      simp only [PyData.depthAll]
      have := ih (by omega)
      omega
theorem signs_sd {w : Str} (h : ∀ c ∈ w.cps.toList, c < 128) : Sds (signsD w) = true ∧ PyData.depthAll (signsD w) ≤ 60 := by
  refine ⟨sds_of fun d m => ?_, Nat.le_trans (depth_le (B := 0) fun d m => ?_) (by decide)⟩
  · obtain ⟨c, hc, rfl⟩ := signs_mem m
    have := h c hc
    show PyData.strOk ⟨#[c]⟩ = true
    unfold PyData.strOk
    rw [← Array.all_toList]
    simp
    omega
  · obtain ⟨c, hc, rfl⟩ := signs_mem m
    exact Nat.le_refl _
def badG (t : PyData) : Option PyData := if decide (chr t ∈ abc.cps.toList) = true then none else some t
theorem bad_self (t d : PyData) (h : badG t = some d) : d = t := by
  unfold badG at h
  split at h
  · cases h
  · cases h; rfl
theorem bad_empty (w : Str) : ((signsD w).filterMap badG).isEmpty = allL w := by
  unfold signsD allL
  generalize w.cps.toList = cs
  induction cs with
  | nil => rfl
  | cons c cs ih =>
    rw [List.map_cons, List.filterMap_cons, List.all_cons, ← ih]
    unfold badG
    by_cases h : decide (c ∈ abc.cps.toList) = true
    · rw [if_pos (show decide (chr (.str ⟨#[c]⟩) ∈ abc.cps.toList) = true from h), h]
      rfl
    · rw [if_neg (show ¬ decide (chr (.str ⟨#[c]⟩) ∈ abc.cps.toList) = true from h), Bool.eq_false_iff.mpr h]
      rfl
def sameG (w : Str) (t : PyData) : Option PyData := if PyData.eqv t (.str w) = true then some t else none
theorem same_self (w : Str) (t d : PyData) (h : sameG w t = some d) : d = t := by
  unfold sameG at h
  split at h
  · cases h; rfl
  · cases h
theorem same_empty (hs : List Str) (w : Str) : ((hs.map PyData.str).filterMap (sameG w)).isEmpty = !(hs.any (· == w)) := by
  induction hs with
  | nil => rfl
  | cons h hs ih =>
    rw [List.map_cons, List.filterMap_cons, List.any_cons]
    unfold sameG
    by_cases e : (h == w) = true
    · rw [if_pos (show PyData.eqv (.str h) (.str w) = true by simpa [PyData.eqv] using e), e]
      rfl
    · rw [if_neg (show ¬ PyData.eqv (.str h) (.str w) = true by simpa [PyData.eqv] using e), Bool.eq_false_iff.mpr e]
      exact ih
theorem is_open_ok {hs : List Str} (hh : ∀ w ∈ hs, PyData.strOk w = true) (hl : hs.length ≤ 1000) {t : Tm} (ht : t.Ok) : G__law_is_open [.d (.tuple (hs.map PyData.str)), .d t.d] = some (.d (.bool (opn hs t)), [none, none]) := by
  refine (g_rt (os := [.d (.tuple (hs.map PyData.str)), .d t.d]) (o := .d (.bool (opn hs t))) (fr := [some (.d (.tuple (hs.map PyData.str))), some (.d t.d), some (.d (.str abc)), none, none]) rfl ?_).trans rfl
  show b__law_is_open [some (.d (.tuple (hs.map PyData.str))), some (.d t.d), none, none, none] = _
  unfold b__law_is_open
  have s1 : setF [] 2 (cF (.str "abcdefghijklmnopqrstuvwxyz")) [some (.d (.tuple (hs.map PyData.str))), some (.d t.d), none, none, none] = some (.nx, [some (.d (.tuple (hs.map PyData.str))), some (.d t.d), some (.d (.str abc)), none, none]) := rfl
  rw [seq_nx s1]
  cases t with
  | one k =>
    have q : tstF (bin true (two (eqA true)) (bin true (two ixO) (datF 1) (cF (.int 0))) (cF (.str "word"))) [some (.d (.tuple (hs.map PyData.str))), some (.d (Tm.one k).d), some (.d (.str abc)), none, none] = some (true, [some (.d (.tuple (hs.map PyData.str))), some (.d (Tm.one k).d), some (.d (.str abc)), none, none]) :=
      tst_ok (bin_dd (bin_dd rfl rfl (ix_t (at0 _ _))) rfl ((eq_ss ht.1 okW).trans (by rw [ht.2.2]; rfl)))
    refine seq_rt ?_
    rw [if_true' (fr1 := [some (.d (.tuple (hs.map PyData.str))), some (.d (Tm.one k).d), some (.d (.str abc)), none, none]) (by unfold orF; rw [q]; rfl)]
    rfl
  | two k w =>
    have q : tstF (bin true (two (eqA true)) (bin true (two ixO) (datF 1) (cF (.int 0))) (cF (.str "word"))) [some (.d (.tuple (hs.map PyData.str))), some (.d (Tm.two k w).d), some (.d (.str abc)), none, none] = some (!(k == "word"), [some (.d (.tuple (hs.map PyData.str))), some (.d (Tm.two k w).d), some (.d (.str abc)), none, none]) :=
      tst_ok (bin_dd (bin_dd rfl rfl (ix_t (at0 _ _))) rfl (eq_ss ht.1 okW))
    rw [show opn hs (.two k w) = ((k == "word") && (allL w && !(hs.any (· == w)))) from rfl]
    cases hk : (k == "word") with
    | false =>
      rw [hk] at q
      refine seq_rt ?_
      rw [if_true' (fr1 := [some (.d (.tuple (hs.map PyData.str))), some (.d (Tm.two k w).d), some (.d (.str abc)), none, none]) (by unfold orF; rw [q]; rfl)]
      rfl
    | true =>
      rw [hk] at q
      rw [Bool.true_and]
      have i1 : bin true (two ixO) (datF 1) (cF (.int 1)) [some (.d (.tuple (hs.map PyData.str))), some (.d (Tm.two k w).d), some (.d (.str abc)), none, none] = some (.own (.d (.str w)), [some (.d (.tuple (hs.map PyData.str))), some (.d (Tm.two k w).d), some (.d (.str abc)), none, none]) := bin_dd rfl rfl (ix_t (at1 _ _ _))
      have c1 := lc_ok (it := anyI (bin true (two ixO) (datF 1) (cF (.int 1)))) (tgt := nmT [] 4) (tst := tstF (bin true (two (inA true)) (datF 4) (datF 2))) (elt := datF 4) (vs := [4]) (fr := [some (.d (.tuple (hs.map PyData.str))), some (.d (Tm.two k w).d), some (.d (.str abc)), none, none]) (fr1 := [some (.d (.tuple (hs.map PyData.str))), some (.d (Tm.two k w).d), some (.d (.str abc)), none, none]) (ts := signsD w) badG
        (by unfold anyI; rw [i1]; rfl) (fun t ht => by
        obtain ⟨c, _, rfl⟩ := signs_mem ht
        refine ⟨[some (.d (.tuple (hs.map PyData.str))), some (.d (Tm.two k w).d), some (.d (.str abc)), none, some (.d (.str ⟨#[c]⟩))], [some (.d (.tuple (hs.map PyData.str))), some (.d (Tm.two k w).d), some (.d (.str abc)), none, some (.d (.str ⟨#[c]⟩))], rfl, ?_⟩
        have tt : tstF (bin true (two (inA true)) (datF 4) (datF 2)) [some (.d (.tuple (hs.map PyData.str))), some (.d (Tm.two k w).d), some (.d (.str abc)), none, some (.d (.str ⟨#[c]⟩))] = some (!(decide (c ∈ abc.cps.toList)), [some (.d (.tuple (hs.map PyData.str))), some (.d (Tm.two k w).d), some (.d (.str abc)), none, some (.d (.str ⟨#[c]⟩))]) := tst_ok (bin_dd rfl rfl sign_in)
        unfold badG
        by_cases hc : decide (chr (.str ⟨#[c]⟩) ∈ abc.cps.toList) = true
        · rw [if_pos hc]
          rw [show decide (c ∈ abc.cps.toList) = true from hc] at tt
          exact ⟨tt, rfl⟩
        · rw [if_neg hc]
          rw [show decide (c ∈ abc.cps.toList) = false from Bool.eq_false_iff.mpr hc] at tt
          exact ⟨⟨_, tt, rfl⟩, rfl⟩) (by rw [signs_len]; exact Nat.le_trans ht.2.2.2.2 (by decide))
      obtain ⟨g1, g2⟩ := signs_sd ht.2.2.2.1
      have q2 : tstF (bin true (two (eqA true)) (lcF (anyI (bin true (two ixO) (datF 1) (cF (.int 1)))) (nmT [] 4) (tstF (bin true (two (inA true)) (datF 4) (datF 2))) (datF 4) [4]) (lstF nilF)) [some (.d (.tuple (hs.map PyData.str))), some (.d (Tm.two k w).d), some (.d (.str abc)), none, none] =
          some (!(allL w), [some (.d (.tuple (hs.map PyData.str))), some (.d (Tm.two k w).d), some (.d (.str abc)), none, none]) :=
        tst_ok (bin_ok (pb := true) (rb := .own (.l [])) c1 rfl ((eq_nil (sds_filter (fun x : PyData => x) badG _ g1 bad_self) (dep_filter badG _ g2 bad_self)).trans (by rw [bad_empty]; rfl)))
      have c2 := lc_ok (it := anyI (datF 0)) (tgt := nmT [] 3) (tst := tstF (bin true (two (eqA false)) (datF 3) (bin true (two ixO) (datF 1) (cF (.int 1))))) (elt := datF 3) (vs := [3]) (fr := [some (.d (.tuple (hs.map PyData.str))), some (.d (Tm.two k w).d), some (.d (.str abc)), none, none]) (fr1 := [some (.d (.tuple (hs.map PyData.str))), some (.d (Tm.two k w).d), some (.d (.str abc)), none, none]) (ts := hs.map PyData.str) (sameG w)
        rfl (fun t htm => by
        obtain ⟨h, hm, rfl⟩ := List.mem_map.mp htm
        refine ⟨[some (.d (.tuple (hs.map PyData.str))), some (.d (Tm.two k w).d), some (.d (.str abc)), some (.d (.str h)), none], [some (.d (.tuple (hs.map PyData.str))), some (.d (Tm.two k w).d), some (.d (.str abc)), some (.d (.str h)), none], rfl, ?_⟩
        have tt : tstF (bin true (two (eqA false)) (datF 3) (bin true (two ixO) (datF 1) (cF (.int 1)))) [some (.d (.tuple (hs.map PyData.str))), some (.d (Tm.two k w).d), some (.d (.str abc)), some (.d (.str h)), none] = some (PyData.eqv (.str h) (.str w), [some (.d (.tuple (hs.map PyData.str))), some (.d (Tm.two k w).d), some (.d (.str abc)), some (.d (.str h)), none]) :=
          tst_ok (bin_dd rfl (bin_dd rfl rfl (ix_t (at1 _ _ _))) ((eq_dd (d := .str h) (e := .str w) (hh h hm) ht.2.2.ok (by simp [PyData.depth])).trans rfl))
        unfold sameG
        by_cases hc : PyData.eqv (.str h) (.str w) = true
        · rw [if_pos hc]
          rw [hc] at tt
          exact ⟨⟨_, tt, rfl⟩, rfl⟩
        · rw [if_neg hc]
          rw [Bool.eq_false_iff.mpr hc] at tt
          exact ⟨tt, rfl⟩) (by rw [List.length_map]; exact Nat.le_trans hl (by decide))
      cases ha : allL w with
      | false =>
        rw [ha] at q2
        refine seq_rt ?_
        rw [if_true' (fr1 := [some (.d (.tuple (hs.map PyData.str))), some (.d (Tm.two k w).d), some (.d (.str abc)), none, none]) (by unfold orF; rw [q]; exact q2)]
        rfl
      | true =>
        rw [ha] at q2
        rw [seq_nx (fr1 := [some (.d (.tuple (hs.map PyData.str))), some (.d (Tm.two k w).d), some (.d (.str abc)), none, none]) (by rw [if_false' (fr1 := [some (.d (.tuple (hs.map PyData.str))), some (.d (Tm.two k w).d), some (.d (.str abc)), none, none]) (by unfold orF; rw [q]; exact q2)]; rfl), Bool.true_and]
        exact ret_ok (bin_ok (pb := true) (rb := .own (.l [])) c2 rfl ((eq_nil (sds_filter (fun x : PyData => x) (sameG w) _ (sds_strs hh) (same_self w)) (dep_filter (sameG w) _ (dep_strs hs) (same_self w))).trans (by rw [same_empty]; rfl)))
/-! ### meeting -/
def isN : Tm → Bool
  | .one k => k == "name"
  | .two _ _ => false
theorem eqv_name (t : Tm) : PyData.eqv t.d t_NAME = isN t := by
  cases t with
  | one k => simp [Tm.d, PyData.eqv, PyData.eqvAll, isN]
  | two k w => simp [Tm.d, PyData.eqv, PyData.eqvAll, isN]
theorem name_sd : Sd t_NAME = true ∧ t_NAME.depth = 1 := by decide +kernel
def meet (hs : List Str) (a b : Tm) : Bool := PyData.eqv a.d b.d || ((isN a && opn hs b) || (isN b && opn hs a))
theorem isN_opn {hs : List Str} {t : Tm} (h : isN t = true) : opn hs t = false := by
  cases t with
  | one k => rfl
  | two k w => cases h
theorem isN_both {a b : Tm} (ha : isN a = true) (hb : isN b = true) : PyData.eqv a.d b.d = true := by
  cases a with
  | two k w => cases ha
  | one k =>
    cases b with
    | two k w => cases hb
    | one j =>
      have ha : (k == "name") = true := ha
      have hb : (j == "name") = true := hb
      rw [eq_of_beq ha, eq_of_beq hb]
      simp [Tm.d, PyData.eqv, PyData.eqvAll]
theorem do_meet_ok {hs : List Str} (hh : ∀ w ∈ hs, PyData.strOk w = true) {a b : Tm} (ha : a.Ok) (hb : b.Ok) : G_do_meet [.d (.tuple (hs.map PyData.str)), .d a.d, .d b.d] = some (.d (.bool (meet hs a b)), [none, none, none]) := by
  obtain ⟨a1, a2⟩ := Tm.sd ha
  obtain ⟨b1, b2⟩ := Tm.sd hb
  refine (g_rt (os := [.d (.tuple (hs.map PyData.str)), .d a.d, .d b.d]) (o := .d (.bool (meet hs a b))) (fr := [some (.d (.tuple (hs.map PyData.str))), some (.d a.d), some (.d b.d)]) rfl ?_).trans rfl
  show b_do_meet [some (.d (.tuple (hs.map PyData.str))), some (.d a.d), some (.d b.d)] = _
  unfold b_do_meet meet
  have q : tstF (bin true (two (eqA false)) (datF 1) (datF 2)) [some (.d (.tuple (hs.map PyData.str))), some (.d a.d), some (.d b.d)] = some (PyData.eqv a.d b.d, [some (.d (.tuple (hs.map PyData.str))), some (.d a.d), some (.d b.d)]) := tst_ok (bin_dd rfl rfl ((eq_dd a1 b1 (by rw [a2]; omega)).trans rfl))
  cases he : PyData.eqv a.d b.d with
  | true =>
    rw [he] at q
    exact seq_rt (by rw [if_true' q]; rfl)
  | false =>
    rw [he] at q
    rw [seq_nx (by rw [if_false' q]; rfl), Bool.false_or]
    refine ret_ok ?_
    have n1 : bin true (two (eqA false)) (datF 1) (cF t_NAME) [some (.d (.tuple (hs.map PyData.str))), some (.d a.d), some (.d b.d)] = some (.own (.d (.bool (isN a))), [some (.d (.tuple (hs.map PyData.str))), some (.d a.d), some (.d b.d)]) := bin_dd rfl rfl ((eq_dd a1 name_sd.1 (by rw [a2]; omega)).trans (by rw [eqv_name]; rfl))
    have n2 : bin true (two (eqA false)) (datF 2) (cF t_NAME) [some (.d (.tuple (hs.map PyData.str))), some (.d a.d), some (.d b.d)] = some (.own (.d (.bool (isN b))), [some (.d (.tuple (hs.map PyData.str))), some (.d a.d), some (.d b.d)]) := bin_dd rfl rfl ((eq_dd b1 name_sd.1 (by rw [b2]; omega)).trans (by rw [eqv_name]; rfl))
    have f1 : callF G_is_free (consF true (datF 0) (consF true (datF 2) nilF)) [some (.d (.tuple (hs.map PyData.str))), some (.d a.d), some (.d b.d)] = some (.own (.d (.bool (opn hs b))), [some (.d (.tuple (hs.map PyData.str))), some (.d a.d), some (.d b.d)]) := call_ok (rs := [.own (.d (.tuple (hs.map PyData.str))), .own (.d b.d)]) rfl (is_free_ok hh hb)
    have f2 : callF G_is_free (consF true (datF 0) (consF true (datF 1) nilF)) [some (.d (.tuple (hs.map PyData.str))), some (.d a.d), some (.d b.d)] = some (.own (.d (.bool (opn hs a))), [some (.d (.tuple (hs.map PyData.str))), some (.d a.d), some (.d b.d)]) := call_ok (rs := [.own (.d (.tuple (hs.map PyData.str))), .own (.d a.d)]) rfl (is_free_ok hh ha)
    have w1 : andV (bin true (two (eqA false)) (datF 1) (cF t_NAME)) (callF G_is_free (consF true (datF 0) (consF true (datF 2) nilF))) [some (.d (.tuple (hs.map PyData.str))), some (.d a.d), some (.d b.d)] = some (.own (.d (.bool (isN a && opn hs b))), [some (.d (.tuple (hs.map PyData.str))), some (.d a.d), some (.d b.d)]) := by
      unfold andV
      rw [n1]
      cases isN a with
      | false => rfl
      | true => exact f1
    have w2 : andV (bin true (two (eqA false)) (datF 2) (cF t_NAME)) (callF G_is_free (consF true (datF 0) (consF true (datF 1) nilF))) [some (.d (.tuple (hs.map PyData.str))), some (.d a.d), some (.d b.d)] = some (.own (.d (.bool (isN b && opn hs a))), [some (.d (.tuple (hs.map PyData.str))), some (.d a.d), some (.d b.d)]) := by
      unfold andV
      rw [n2]
      cases isN b with
      | false => rfl
      | true => exact f2
    unfold orV
    rw [w1]
    cases (isN a && opn hs b) with
    | true => rfl
    | false => exact w2
theorem meets_ok {hs : List Str} (hh : ∀ w ∈ hs, PyData.strOk w = true) (hl : hs.length ≤ 1000) {a b : Tm} (ha : a.Ok) (hb : b.Ok) : G__law_meets [.d (.tuple (hs.map PyData.str)), .d a.d, .d b.d] = some (.d (.bool (meet hs a b)), [none, none, none]) := by
  obtain ⟨a1, a2⟩ := Tm.sd ha
  obtain ⟨b1, b2⟩ := Tm.sd hb
  refine (g_rt (os := [.d (.tuple (hs.map PyData.str)), .d a.d, .d b.d]) (o := .d (.bool (meet hs a b))) (fr := [some (.d (.tuple (hs.map PyData.str))), some (.d a.d), some (.d b.d)]) rfl ?_).trans rfl
  show b__law_meets [some (.d (.tuple (hs.map PyData.str))), some (.d a.d), some (.d b.d)] = _
  unfold b__law_meets meet
  have q : tstF (bin true (two (eqA false)) (datF 1) (datF 2)) [some (.d (.tuple (hs.map PyData.str))), some (.d a.d), some (.d b.d)] = some (PyData.eqv a.d b.d, [some (.d (.tuple (hs.map PyData.str))), some (.d a.d), some (.d b.d)]) := tst_ok (bin_dd rfl rfl ((eq_dd a1 b1 (by rw [a2]; omega)).trans rfl))
  cases he : PyData.eqv a.d b.d with
  | true =>
    rw [he] at q
    exact seq_rt (by rw [if_true' q]; rfl)
  | false =>
    rw [he] at q
    rw [seq_nx (by rw [if_false' q]; rfl), Bool.false_or]
    refine ret_ok ?_
    have i1 : inA false (.d t_NAME) (.d (.tuple [a.d, b.d])) = some (.d (.bool (isN a || isN b))) := by
      show inO false (.d t_NAME) (.d (.tuple [a.d, b.d])) = _
      unfold inO
      rw [if_pos ⟨rfl, rfl⟩]
      show (Option.bind (some [a.d, b.d]) _) = _
      simp only [Option.bind_some]
      have lab : PyData.canLayAll0 [a.d, b.d] = true := (sds_lay [a.d, b.d] (by show (Sd a.d && (Sd b.d && true)) = true; rw [a1, b1]; rfl)).1
      rw [if_pos ⟨(sd_lay _ name_sd.1).1, lab, by show min _ (PyData.depth t_NAME) ≤ 64; rw [name_sd.2]; omega⟩]
      show some (O.d (.bool (PyData.eqv a.d t_NAME || (PyData.eqv b.d t_NAME || false)))) = _
      rw [eqv_name, eqv_name, Bool.or_false]
    have n1 : bin true (two (inA false)) (opF tupO (consF true (cF (.str "name")) nilF)) (opF tupO (consF true (datF 1) (consF true (datF 2) nilF))) [some (.d (.tuple (hs.map PyData.str))), some (.d a.d), some (.d b.d)] = some (.own (.d (.bool (isN a || isN b))), [some (.d (.tuple (hs.map PyData.str))), some (.d a.d), some (.d b.d)]) :=
      bin_dd (x := t_NAME) (y := .tuple [a.d, b.d]) rfl rfl i1
    have f1 : callF G__law_is_open (consF true (datF 0) (consF true (datF 1) nilF)) [some (.d (.tuple (hs.map PyData.str))), some (.d a.d), some (.d b.d)] = some (.own (.d (.bool (opn hs a))), [some (.d (.tuple (hs.map PyData.str))), some (.d a.d), some (.d b.d)]) := call_ok (rs := [.own (.d (.tuple (hs.map PyData.str))), .own (.d a.d)]) rfl (is_open_ok hh hl ha)
    have f2 : callF G__law_is_open (consF true (datF 0) (consF true (datF 2) nilF)) [some (.d (.tuple (hs.map PyData.str))), some (.d a.d), some (.d b.d)] = some (.own (.d (.bool (opn hs b))), [some (.d (.tuple (hs.map PyData.str))), some (.d a.d), some (.d b.d)]) := call_ok (rs := [.own (.d (.tuple (hs.map PyData.str))), .own (.d b.d)]) rfl (is_open_ok hh hl hb)
    have w1 : orV (callF G__law_is_open (consF true (datF 0) (consF true (datF 1) nilF))) (callF G__law_is_open (consF true (datF 0) (consF true (datF 2) nilF))) [some (.d (.tuple (hs.map PyData.str))), some (.d a.d), some (.d b.d)] = some (.own (.d (.bool (opn hs a || opn hs b))), [some (.d (.tuple (hs.map PyData.str))), some (.d a.d), some (.d b.d)]) := by
      unfold orV
      rw [f1]
      cases opn hs a with
      | true => rfl
      | false => exact f2
    have fin : ((isN a && opn hs b) || (isN b && opn hs a)) = ((isN a || isN b) && (opn hs a || opn hs b)) := by
      cases h1 : isN a with
      | true =>
        rw [isN_opn h1]
        have h2 : isN b = false := by
          cases h2 : isN b with
          | false => rfl
          | true => rw [isN_both h1 h2] at he; cases he
        rw [h2]
        simp
      | false =>
        cases h2 : isN b with
        | true => rw [isN_opn h2]; simp
        | false => simp
    rw [fin]
    unfold andV
    rw [n1]
    cases (isN a || isN b) with
    | false => rfl
    | true => exact w1
end K12
set_option Elab.async false
set_option linter.all false
set_option maxRecDepth 100000
/-! K12P7: all meet; parts, words, phantoms. -/
namespace K12
open PySem PySem.Spec L2 Bv

theorem may_bool (b : Bool) : mayShow (.bool b) = true := by cases b <;> decide +kernel
theorem ok_bool (b : Bool) : PyData.strOk (PyData.shown (.bool b)) = true := by cases b <;> decide +kernel
theorem all_meet_ok {hs : List Str} (hh : ∀ w ∈ hs, PyData.strOk w = true) (hl : hs.length ≤ 1000) (ts : List Tm) (ht : ∀ t ∈ ts, t.Ok) : G__law_all_meet [.d (.tuple (hs.map PyData.str)), .d (.list (ts.map Tm.d))] = some (.d (.bool true), [none, none]) := by
  have inner : ∀ (a : Tm) (_ : a.Ok) (x3 x4 : Option O), ∃ y3 y4, forF (anyI (datF 1)) (nmT [] 3) (seqF (setF [] 4 (opF (one reprO) (consF true (callF G__law_meets (consF true (datF 0) (consF true (datF 2) (consF true (datF 3) nilF)))) nilF)))
      (iffF (orF (tstF (bin true (two (eqA true)) (opF (one reprO) (consF true (callF G_do_meet (consF true (datF 0) (consF true (datF 2) (consF true (datF 3) nilF)))) nilF)) (datF 4))) (tstF (bin true (two (eqA true)) (opF (one reprO) (consF true (kcF G_do_meet [2, 1, 0] (consF true (datF 3) (consF true (datF 2) (consF true (datF 0) nilF)))) nilF)) (datF 4)))) (retF (cF (.bool false))) nxF))
      [some (.d (.tuple (hs.map PyData.str))), some (.d (.list (ts.map Tm.d))), some (.d a.d), x3, x4] = some (.nx, [some (.d (.tuple (hs.map PyData.str))), some (.d (.list (ts.map Tm.d))), some (.d a.d), y3, y4]) := fun a ha x3 x4 => by
    obtain ⟨fr', e, _, y3, y4, rfl⟩ := for_ok (it := anyI (datF 1)) (tgt := nmT [] 3) (body := seqF (setF [] 4 (opF (one reprO) (consF true (callF G__law_meets (consF true (datF 0) (consF true (datF 2) (consF true (datF 3) nilF)))) nilF)))
      (iffF (orF (tstF (bin true (two (eqA true)) (opF (one reprO) (consF true (callF G_do_meet (consF true (datF 0) (consF true (datF 2) (consF true (datF 3) nilF)))) nilF)) (datF 4))) (tstF (bin true (two (eqA true)) (opF (one reprO) (consF true (kcF G_do_meet [2, 1, 0] (consF true (datF 3) (consF true (datF 2) (consF true (datF 0) nilF)))) nilF)) (datF 4)))) (retF (cF (.bool false))) nxF))
      (fr := [some (.d (.tuple (hs.map PyData.str))), some (.d (.list (ts.map Tm.d))), some (.d a.d), x3, x4]) (fr1 := [some (.d (.tuple (hs.map PyData.str))), some (.d (.list (ts.map Tm.d))), some (.d a.d), x3, x4]) (ts := ts.map Tm.d) rfl
      (fun us fr => (∀ u ∈ us, ∃ b : Tm, u = b.d ∧ b.Ok) ∧ ∃ y3 y4, fr = [some (.d (.tuple (hs.map PyData.str))), some (.d (.list (ts.map Tm.d))), some (.d a.d), y3, y4])
      ⟨fun u m => by obtain ⟨b, hb, rfl⟩ := List.mem_map.mp m; exact ⟨b, rfl, ht b hb⟩, x3, x4, rfl⟩ (by
        rintro u us fr ⟨hu, y3, y4, rfl⟩
        obtain ⟨b, rfl, hb⟩ := hu u List.mem_cons_self
        have m1 : callF G__law_meets (consF true (datF 0) (consF true (datF 2) (consF true (datF 3) nilF))) [some (.d (.tuple (hs.map PyData.str))), some (.d (.list (ts.map Tm.d))), some (.d a.d), some (.d b.d), y4] = some (.own (.d (.bool (meet hs a b))), [some (.d (.tuple (hs.map PyData.str))), some (.d (.list (ts.map Tm.d))), some (.d a.d), some (.d b.d), y4]) :=
          call_ok (rs := [.own (.d (.tuple (hs.map PyData.str))), .own (.d a.d), .own (.d b.d)]) rfl (meets_ok hh hl ha hb)
        have m2 : callF G_do_meet (consF true (datF 0) (consF true (datF 2) (consF true (datF 3) nilF))) [some (.d (.tuple (hs.map PyData.str))), some (.d (.list (ts.map Tm.d))), some (.d a.d), some (.d b.d), some (.d (.str (PyData.shown (.bool (meet hs a b)))))] = some (.own (.d (.bool (meet hs a b))), [some (.d (.tuple (hs.map PyData.str))), some (.d (.list (ts.map Tm.d))), some (.d a.d), some (.d b.d), some (.d (.str (PyData.shown (.bool (meet hs a b)))))]) :=
          call_ok (rs := [.own (.d (.tuple (hs.map PyData.str))), .own (.d a.d), .own (.d b.d)]) rfl (do_meet_ok hh ha hb)
        have m3 : kcF G_do_meet [2, 1, 0] (consF true (datF 3) (consF true (datF 2) (consF true (datF 0) nilF))) [some (.d (.tuple (hs.map PyData.str))), some (.d (.list (ts.map Tm.d))), some (.d a.d), some (.d b.d), some (.d (.str (PyData.shown (.bool (meet hs a b)))))] = some (.own (.d (.bool (meet hs a b))), [some (.d (.tuple (hs.map PyData.str))), some (.d (.list (ts.map Tm.d))), some (.d a.d), some (.d b.d), some (.d (.str (PyData.shown (.bool (meet hs a b)))))]) := by
          show (Option.bind (G_do_meet [.d (.tuple (hs.map PyData.str)), .d a.d, .d b.d]) _) = _
          rw [do_meet_ok hh ha hb]
          rfl
        have s4 : setF [] 4 (opF (one reprO) (consF true (callF G__law_meets (consF true (datF 0) (consF true (datF 2) (consF true (datF 3) nilF)))) nilF)) [some (.d (.tuple (hs.map PyData.str))), some (.d (.list (ts.map Tm.d))), some (.d a.d), some (.d b.d), y4] =
            some (.nx, [some (.d (.tuple (hs.map PyData.str))), some (.d (.list (ts.map Tm.d))), some (.d a.d), some (.d b.d), some (.d (.str (PyData.shown (.bool (meet hs a b)))))]) := (set_ok (repr_ok m1 rfl rfl (may_bool _)) (by decide)).trans rfl
        have t1 : tstF (bin true (two (eqA true)) (opF (one reprO) (consF true (callF G_do_meet (consF true (datF 0) (consF true (datF 2) (consF true (datF 3) nilF)))) nilF)) (datF 4)) [some (.d (.tuple (hs.map PyData.str))), some (.d (.list (ts.map Tm.d))), some (.d a.d), some (.d b.d), some (.d (.str (PyData.shown (.bool (meet hs a b)))))] = some (false, [some (.d (.tuple (hs.map PyData.str))), some (.d (.list (ts.map Tm.d))), some (.d a.d), some (.d b.d), some (.d (.str (PyData.shown (.bool (meet hs a b)))))]) :=
          tst_ok (bin_dd (repr_ok m2 rfl rfl (may_bool _)) rfl ne_same)
        have t2 : tstF (bin true (two (eqA true)) (opF (one reprO) (consF true (kcF G_do_meet [2, 1, 0] (consF true (datF 3) (consF true (datF 2) (consF true (datF 0) nilF)))) nilF)) (datF 4)) [some (.d (.tuple (hs.map PyData.str))), some (.d (.list (ts.map Tm.d))), some (.d a.d), some (.d b.d), some (.d (.str (PyData.shown (.bool (meet hs a b)))))] = some (false, [some (.d (.tuple (hs.map PyData.str))), some (.d (.list (ts.map Tm.d))), some (.d a.d), some (.d b.d), some (.d (.str (PyData.shown (.bool (meet hs a b)))))]) :=
          tst_ok (bin_dd (repr_ok m3 rfl rfl (may_bool _)) rfl ne_same)
        refine ⟨[some (.d (.tuple (hs.map PyData.str))), some (.d (.list (ts.map Tm.d))), some (.d a.d), some (.d b.d), y4], [some (.d (.tuple (hs.map PyData.str))), some (.d (.list (ts.map Tm.d))), some (.d a.d), some (.d b.d), some (.d (.str (PyData.shown (.bool (meet hs a b)))))], rfl, ?_, fun u m => hu u (List.mem_cons_of_mem _ m), _, _, rfl⟩
        rw [seq_nx s4, if_false' (fr1 := [some (.d (.tuple (hs.map PyData.str))), some (.d (.list (ts.map Tm.d))), some (.d a.d), some (.d b.d), some (.d (.str (PyData.shown (.bool (meet hs a b)))))]) (by unfold orF; rw [t1]; exact t2)]
        rfl)
    exact ⟨y3, y4, e⟩
  obtain ⟨fr', e, _, y2, y3, y4, rfl⟩ := for_ok (it := anyI (datF 1)) (tgt := nmT [] 2) (body := forF (anyI (datF 1)) (nmT [] 3) (seqF (setF [] 4 (opF (one reprO) (consF true (callF G__law_meets (consF true (datF 0) (consF true (datF 2) (consF true (datF 3) nilF)))) nilF)))
      (iffF (orF (tstF (bin true (two (eqA true)) (opF (one reprO) (consF true (callF G_do_meet (consF true (datF 0) (consF true (datF 2) (consF true (datF 3) nilF)))) nilF)) (datF 4))) (tstF (bin true (two (eqA true)) (opF (one reprO) (consF true (kcF G_do_meet [2, 1, 0] (consF true (datF 3) (consF true (datF 2) (consF true (datF 0) nilF)))) nilF)) (datF 4)))) (retF (cF (.bool false))) nxF)))
    (fr := [some (.d (.tuple (hs.map PyData.str))), some (.d (.list (ts.map Tm.d))), none, none, none]) (fr1 := [some (.d (.tuple (hs.map PyData.str))), some (.d (.list (ts.map Tm.d))), none, none, none]) (ts := ts.map Tm.d) rfl
    (fun us fr => (∀ u ∈ us, ∃ b : Tm, u = b.d ∧ b.Ok) ∧ ∃ y2 y3 y4, fr = [some (.d (.tuple (hs.map PyData.str))), some (.d (.list (ts.map Tm.d))), y2, y3, y4])
    ⟨fun u m => by obtain ⟨b, hb, rfl⟩ := List.mem_map.mp m; exact ⟨b, rfl, ht b hb⟩, none, none, none, rfl⟩ (by
      rintro u us fr ⟨hu, y2, y3, y4, rfl⟩
      obtain ⟨a, rfl, ha⟩ := hu u List.mem_cons_self
      obtain ⟨z3, z4, e⟩ := inner a ha y3 y4
      exact ⟨[some (.d (.tuple (hs.map PyData.str))), some (.d (.list (ts.map Tm.d))), some (.d a.d), y3, y4], _, rfl, e, fun u m => hu u (List.mem_cons_of_mem _ m), _, _, _, rfl⟩)
  refine (g_rt (os := [.d (.tuple (hs.map PyData.str)), .d (.list (ts.map Tm.d))]) (o := .d (.bool true)) (fr := [some (.d (.tuple (hs.map PyData.str))), some (.d (.list (ts.map Tm.d))), y2, y3, y4]) rfl ?_).trans rfl
  show b__law_all_meet [some (.d (.tuple (hs.map PyData.str))), some (.d (.list (ts.map Tm.d))), none, none, none] = _
  unfold b__law_all_meet
  rw [seq_nx e]
  rfl
/-! ### the parts, the words, the phantoms of a base -/
theorem base2 (st : Str) (rs : List Rl) : ixO (.d (baseD st rs)) (.d (.int 2)) = some (.d (.tuple (rs.map Rl.d))) := ix_t (at2 _ _ _ _)
theorem rule0 (r : Rl) : ixO (.d r.d) (.d (.int 0)) = some (.d (.str r.head)) := ix_t (at0 _ _)
theorem rule1 (r : Rl) : ixO (.d r.d) (.d (.int 1)) = some (.d (.tuple (r.body.map Sy.d))) := ix_t (at1 _ _ _)
def headG (t : PyData) : Option Str := match t with
  | .tuple (.str h :: _) => some h
  | _ => none
theorem headG_map (rs : List Rl) : (rs.map Rl.d).filterMap headG = rs.map (·.head) := by
  rw [List.filterMap_map, show headG ∘ Rl.d = some ∘ (·.head) from rfl, List.filterMap_eq_map]
def parts (rs : List Rl) : List Str := srtU (rs.map (·.head))
theorem parts_of_ok (st : Str) (rs : List Rl) (hl : rs.length ≤ 100) : G_parts_of [.d (baseD st rs)] = some (.d (.tuple ((parts rs).map PyData.str)), [none]) := by
  refine (g_rt (os := [.d (baseD st rs)]) (o := .d (.tuple ((parts rs).map PyData.str))) (fr := [some (.d (baseD st rs)), none]) rfl ?_).trans rfl
  show b_parts_of [some (.d (baseD st rs)), none] = _
  unfold b_parts_of
  have i2 : bin true (two ixO) (datF 0) (cF (.int 2)) [some (.d (baseD st rs)), none] = some (.own (.d (.tuple (rs.map Rl.d))), [some (.d (baseD st rs)), none]) := bin_dd rfl rfl (base2 st rs)
  have s := srt_sc (it := anyI (bin true (two ixO) (datF 0) (cF (.int 2)))) (tgt := nmT [] 1) (tst := yesF) (elt := bin true (two ixO) (datF 1) (cF (.int 0))) (vs := [1]) (fr := [some (.d (baseD st rs)), none]) (fr1 := [some (.d (baseD st rs)), none]) (ts := rs.map Rl.d) headG (by unfold anyI; rw [i2]; rfl) (fun t ht => by
    obtain ⟨r, _, rfl⟩ := List.mem_map.mp ht
    exact ⟨[some (.d (baseD st rs)), some (.d r.d)], [some (.d (baseD st rs)), some (.d r.d)], rfl, ⟨_, rfl, bin_dd rfl rfl (rule0 r)⟩, rfl⟩) (by rw [List.length_map]; exact Nat.lt_of_le_of_lt (Nat.succ_le_succ hl) (by decide))
  rw [headG_map] at s
  refine ret_ok (op1_ok s ?_)
  show (Option.bind (allD (((srtU (rs.map (·.head))).map PyData.str).map O.d)) _) = _
  rw [allD_map]
  rfl
def phD (p : Str) : PyData := .tuple [.str p, .tuple [.tuple [.str "lead", .str p], .tuple [.str "part", .str p], .tuple [.str "after", .str p]]]
def phG (t : PyData) : Option PyData := match t with
  | .str p => some (phD p)
  | _ => none
theorem phG_map (ps : List Str) : (ps.map PyData.str).filterMap phG = ps.map phD := by
  rw [List.filterMap_map, show phG ∘ PyData.str = some ∘ phD from rfl, List.filterMap_eq_map]
theorem phantom_ok (st : Str) (rs : List Rl) (hl : rs.length ≤ 100) : G_phantom [.d (baseD st rs)] = some (.d (.tuple ((parts rs).map phD)), [none]) := by
  refine (g_rt (os := [.d (baseD st rs)]) (o := .d (.tuple ((parts rs).map phD))) (fr := [some (.d (baseD st rs)), none]) rfl ?_).trans rfl
  show b_phantom [some (.d (baseD st rs)), none] = _
  unfold b_phantom
  have c : callF G_parts_of (consF true (datF 0) nilF) [some (.d (baseD st rs)), none] = some (.own (.d (.tuple ((parts rs).map PyData.str))), [some (.d (baseD st rs)), none]) := call_ok (rs := [.own (.d (baseD st rs))]) rfl (parts_of_ok st rs hl)
  have hp : (parts rs).length ≤ 100 := Nat.le_trans (srtU_len _) (by rw [List.length_map]; exact hl)
  have s := lc_ok (it := anyI (callF G_parts_of (consF true (datF 0) nilF))) (tgt := nmT [] 1) (tst := yesF) (elt := (opF tupO (consF true (datF 1) (consF true (opF tupO (consF true (opF tupO (consF true (cF t_LEAD) (consF true (datF 1) nilF))) (consF true (opF tupO (consF true (cF t_PART) (consF true (datF 1) nilF))) (consF true (opF tupO (consF true (cF t_AFTER) (consF true (datF 1) nilF))) nilF)))) nilF)))) (vs := [1])
    (fr := [some (.d (baseD st rs)), none]) (fr1 := [some (.d (baseD st rs)), none]) (ts := (parts rs).map PyData.str) phG (by unfold anyI; rw [c]; rfl) (fun t ht => by
    obtain ⟨p, _, rfl⟩ := List.mem_map.mp ht
    exact ⟨[some (.d (baseD st rs)), some (.d (.str p))], [some (.d (baseD st rs)), some (.d (.str p))], rfl, ⟨_, rfl, rfl⟩, rfl⟩) (by rw [List.length_map]; exact Nat.le_trans hp (by decide))
  rw [phG_map] at s
  refine ret_ok (op1_ok s ?_)
  show (Option.bind (allD (((parts rs).map phD).map O.d)) _) = _
  rw [allD_map]
  rfl
/-! words -/
def wdG (t : PyData) : Option PyData := if (firstS t == "word") = true then (match t with | .tuple [_, w] => some w | _ => none) else none
def Sy.wd : Sy → Option Str
  | .word w => some w
  | _ => none
theorem wdG_of (body : List Sy) : (body.map Sy.d).filterMap wdG = (body.filterMap Sy.wd).map PyData.str := by
  induction body with
  | nil => rfl
  | cons s body ih =>
    cases s with
    | word w => show PyData.str w :: (body.map Sy.d).filterMap wdG = _; rw [ih]; rfl
    | name => exact ih
    | figure => exact ih
    | part h => exact ih
def wordsOf (rs : List Rl) : List Str := rs.flatMap fun r => r.body.filterMap Sy.wd
def dsG (t : PyData) : List PyData := match t with
  | .tuple (_ :: .tuple body :: _) => body.filterMap wdG
  | _ => []
theorem dsG_of (r : Rl) : dsG r.d = (r.body.filterMap Sy.wd).map PyData.str := wdG_of r.body
theorem words_told_ok (rs : List Rl) (hl : rs.length ≤ 100) (hr : ∀ r ∈ rs, r.Ok) : G_words_told [.d (.tuple (rs.map Rl.d))] = some (.d (.list ((wordsOf rs).map PyData.str)), [none]) := by
  refine (g_rt (os := [.d (.tuple (rs.map Rl.d))]) (o := .d (.list ((wordsOf rs).map PyData.str))) (fr := [some (.d (.tuple (rs.map Rl.d))), none, none]) rfl ?_).trans rfl
  show b_words_told [some (.d (.tuple (rs.map Rl.d))), none, none] = _
  unfold b_words_told
  have s := lc2_ok (it := anyI (datF 0)) (tgt := nmT [] 1) (tst := yesF) (it1 := anyI (bin true (two ixO) (datF 1) (cF (.int 1)))) (tgt1 := nmT [] 2) (tst1 := tstF (bin true (two (eqA false)) (bin true (two ixO) (datF 2) (cF (.int 0))) (cF t_WORD_rules))) (elt := bin true (two ixO) (datF 2) (cF (.int 1))) (vs := [1, 2]) (vs1 := [2])
    (fr := [some (.d (.tuple (rs.map Rl.d))), none, none]) (fr1 := [some (.d (.tuple (rs.map Rl.d))), none, none]) (ts := rs.map Rl.d) dsG 4 rfl (fun t ht => by
    obtain ⟨r, hm, rfl⟩ := List.mem_map.mp ht
    have i1 : bin true (two ixO) (datF 1) (cF (.int 1)) [some (.d (.tuple (rs.map Rl.d))), some (.d r.d), none] = some (.own (.d (.tuple (r.body.map Sy.d))), [some (.d (.tuple (rs.map Rl.d))), some (.d r.d), none]) := bin_dd rfl rfl (rule1 r)
    have hb := (hr r hm).len
    refine ⟨[some (.d (.tuple (rs.map Rl.d))), some (.d r.d), none], [some (.d (.tuple (rs.map Rl.d))), some (.d r.d), none], [some (.d (.tuple (rs.map Rl.d))), some (.d r.d), none], r.body.map Sy.d, rfl, rfl, by unfold anyI; rw [i1]; rfl, ?_, fun acc ha => ?_, rfl⟩
    · rw [dsG_of, List.length_map]
      exact Nat.le_trans (List.length_filterMap_le _ _) hb
    · refine lcL_fm wdG (r.body.map Sy.d) acc (fun t ht => ?_) (by rw [List.length_map]; omega)
      obtain ⟨s, _, rfl⟩ := List.mem_map.mp ht
      obtain ⟨rr, e1, e2⟩ := s.first
      refine ⟨[some (.d (.tuple (rs.map Rl.d))), some (.d r.d), some (.d s.d)], [some (.d (.tuple (rs.map Rl.d))), some (.d r.d), some (.d s.d)], rfl, ?_⟩
      have i0 : ixO (.d s.d) (.d (.int 0)) = some (.d (.str (firstS s.d))) := by
        rw [e1]
        exact ix_t (at0 _ _)
      have tt : tstF (bin true (two (eqA false)) (bin true (two ixO) (datF 2) (cF (.int 0))) (cF t_WORD_rules)) [some (.d (.tuple (rs.map Rl.d))), some (.d r.d), some (.d s.d)] = some ((firstS s.d == "word"), [some (.d (.tuple (rs.map Rl.d))), some (.d r.d), some (.d s.d)]) :=
        tst_ok (bin_dd (bin_dd rfl rfl i0) rfl (eq_ss e2 okW))
      cases s with
      | word w => exact ⟨⟨_, tt, bin_dd rfl rfl (ix_t (at1 _ _ _))⟩, rfl⟩
      | name => exact ⟨tt, rfl⟩
      | figure => exact ⟨tt, rfl⟩
      | part h => exact ⟨tt, rfl⟩) (by rw [List.length_map]; have : rs.length * 4 ≤ 400 := (by omega); exact Nat.le_trans this (by decide))
  have e : (rs.map Rl.d).flatMap dsG = (wordsOf rs).map PyData.str := by
    unfold wordsOf
    rw [List.flatMap_map, List.map_flatMap]
    congr
    funext r
    exact dsG_of r
  rw [e] at s
  exact ret_ok (frz_ld s)
theorem wordsOf_ow {rs : List Rl} (hr : ∀ r ∈ rs, r.Ok) : ∀ w ∈ wordsOf rs, Ow w := fun w m => by
  unfold wordsOf at m
  obtain ⟨r, hm, hw⟩ := List.mem_flatMap.mp m
  obtain ⟨s, hs, e⟩ := List.mem_filterMap.mp hw
  have h := (hr r hm).syms s hs
  cases s with
  | word v => cases e; exact h
  | name => cases e
  | figure => cases e
  | part h => cases e
theorem wordsOf_len {rs : List Rl} (hr : ∀ r ∈ rs, r.Ok) : (wordsOf rs).length ≤ rs.length * 4 := by
  unfold wordsOf
  induction rs with
  | nil => simp
  | cons r rs ih =>
    rw [List.flatMap_cons, List.length_append, List.length_cons]
    have h1 := ih fun r m => hr r (List.mem_cons_of_mem _ m)
    have h2 := List.length_filterMap_le Sy.wd r.body
    have h3 := (hr r List.mem_cons_self).len
    omega
def nmG (t : PyData) : Option Str := match t with
  | .str w => if nm w = true then some w else none
  | _ => none
theorem kept_ok (st : Str) (rs : List Rl) (hl : rs.length ≤ 100) (hr : ∀ r ∈ rs, r.Ok) : ∃ hs : List Str, G_kept_words [.d (baseD st rs)] = some (.d (.tuple (hs.map PyData.str)), [none]) ∧ (∀ w ∈ hs, Ow w) ∧ hs.length ≤ 400 := by
  have hwl : (wordsOf rs).length ≤ 400 := by have := wordsOf_len hr; omega
  refine ⟨srtU (((wordsOf rs).map PyData.str).filterMap nmG), ?_, fun w m => ?_, ?_⟩
  · refine (g_rt (os := [.d (baseD st rs)]) (o := .d (.tuple ((srtU (((wordsOf rs).map PyData.str).filterMap nmG)).map PyData.str))) (fr := [some (.d (baseD st rs)), none]) rfl ?_).trans rfl
    show b_kept_words [some (.d (baseD st rs)), none] = _
    unfold b_kept_words
    have c : callF G_words_told (consF true (bin true (two ixO) (datF 0) (cF (.int 2))) nilF) [some (.d (baseD st rs)), none] = some (.own (.d (.list ((wordsOf rs).map PyData.str))), [some (.d (baseD st rs)), none]) :=
      call_ok (rs := [.own (.d (.tuple (rs.map Rl.d)))]) (a_ok (bin_dd rfl rfl (base2 st rs)) n_ok) (words_told_ok rs hl hr)
    have s := srt_sc (it := anyI (callF G_words_told (consF true (bin true (two ixO) (datF 0) (cF (.int 2))) nilF))) (tgt := nmT [] 1) (tst := tstF (callF G_is_name (consF true (datF 1) nilF))) (elt := datF 1) (vs := [1]) (fr := [some (.d (baseD st rs)), none]) (fr1 := [some (.d (baseD st rs)), none]) (ts := (wordsOf rs).map PyData.str) nmG (by unfold anyI; rw [c]; rfl) (fun t ht => by
      obtain ⟨w, hw, rfl⟩ := List.mem_map.mp ht
      have c2 : callF G_is_name (consF true (datF 1) nilF) [some (.d (baseD st rs)), some (.d (.str w))] = some (.own (.d (.bool (nm w))), [some (.d (baseD st rs)), some (.d (.str w))]) := call_ok (rs := [.own (.d (.str w))]) rfl (is_name_ok (wordsOf_ow hr w hw).2.2)
      refine ⟨[some (.d (baseD st rs)), some (.d (.str w))], [some (.d (baseD st rs)), some (.d (.str w))], rfl, ?_⟩
      have tt := tst_ok c2
      show (match (if nm w = true then some w else none) with | some x => _ | none => _)
      by_cases h : nm w = true
      · rw [if_pos h]
        rw [h] at tt
        exact ⟨⟨_, tt, rfl⟩, rfl⟩
      · rw [if_neg h]
        rw [Bool.eq_false_iff.mpr h] at tt
        exact ⟨tt, rfl⟩) (by rw [List.length_map]; exact Nat.lt_of_le_of_lt (Nat.succ_le_succ hwl) (by decide))
    refine ret_ok (op1_ok s ?_)
    show (Option.bind (allD (((srtU (((wordsOf rs).map PyData.str).filterMap nmG)).map PyData.str).map O.d)) _) = _
    rw [allD_map]
    rfl
  · have m := mem_srtU.mp m
    obtain ⟨t, ht, e⟩ := List.mem_filterMap.mp m
    obtain ⟨v, hv, rfl⟩ := List.mem_map.mp ht
    have e : (if nm v = true then some v else none) = some w := e
    split at e
    · cases e; exact wordsOf_ow hr _ hv
    · cases e
  · refine Nat.le_trans (srtU_len _) (Nat.le_trans (List.length_filterMap_le _ _) ?_)
    rw [List.length_map]
    exact hwl
end K12
set_option Elab.async false
set_option linter.all false
set_option maxRecDepth 100000
/-! K12P8: the terminals; data small enough to be shown. -/
namespace K12
open PySem PySem.Spec L2 Bv

def extra : List Str := ["name", "figure", "end", "(", "=", "->", "|", "#a.b", "#b.a", "#name.name"]
theorem extra_ow : ∀ w ∈ extra, Ow w := by
  have key : ∀ w ∈ extra, (((∀ c ∈ w.cps.toList, 97 ≤ c ∧ c ≤ 122) ∧ 1 ≤ w.length ∧ w.length ≤ 6) ∨ (∃ c ∈ w.cps.toList, ¬ (97 ≤ c ∧ c ≤ 122))) ∧ (∀ c ∈ w.cps.toList, c < 128) ∧ w.length ≤ 12 := by decide +kernel
  exact key
def tmsO (ts : List Tm) : O := .l (ts.map fun t => .d t.d)
theorem tmsO_eq (ts : List Tm) : tmsO ts = .l ((ts.map Tm.d).map O.d) := by unfold tmsO; rw [List.map_map]; rfl
theorem okL : PyData.strOk "lead" = true ∧ PyData.strOk "after" = true := by decide +kernel
theorem two_word {w : Str} (h : Ow w) : (Tm.two "word" w).Ok := ⟨okW, by decide, h⟩
theorem two_lead {w : Str} (h : Ow w) : (Tm.two "lead" w).Ok := ⟨okL.1, by decide, h⟩
theorem two_after {w : Str} (h : Ow w) : (Tm.two "after" w).Ok := ⟨okL.2, by decide, h⟩
def ones : List Tm := [.one "name", .one "figure", .one "end"]
theorem ones_ok : ∀ t ∈ ones, t.Ok := by
  have key : ∀ k ∈ (["name", "figure", "end"] : List Str), PyData.strOk k = true ∧ k.length ≤ 12 ∧ (k == "word") = false := by decide +kernel
  intro t m
  simp only [ones, List.mem_cons, List.not_mem_nil, or_false] at m
  rcases m with rfl | rfl | rfl
  · exact key _ (by simp)
  · exact key _ (by simp)
  · exact key _ (by simp)
def fT (o : O) (ps ws : List Str) (x3 x4 x5 x6 : Option O) : Fr := [some o, some (.d (.list (ps.map PyData.str))), some (.d (.list (ws.map PyData.str))), x3, x4, x5, x6]
theorem terminals_ok {n : Nat} {o : O} (d : Dk n o) (hn : n + 30 < 2 ^ 50) (ps ws : List Str) (hp : ∀ p ∈ ps, Gw p) (hp0 : ps ≠ []) (hpl : ps.length ≤ 100) (hw : ∀ w ∈ ws, Gw w) (hwl : ws.length ≤ 100) :
    ∃ (ts : List Tm) (o' : O), G__law_terminals [o, .d (.list (ps.map PyData.str)), .d (.list (ws.map PyData.str))] = some (.d (.list (ts.map Tm.d)), [some o', none, none]) ∧ (∀ t ∈ ts, t.Ok) ∧ Dk (n + 30) o' := by
  have s1 : setF [0] 3 (lstF (consF true (opF tupO (consF true (cF (.str "name")) nilF)) (consF true (opF tupO (consF true (cF (.str "figure")) nilF)) (consF true (opF tupO (consF true (cF (.str "end")) nilF)) nilF)))) (fT o ps ws none none none none) = some (.nx, fT o ps ws (some (tmsO ones)) none none none) := rfl
  -- words
  have a1 : bin true (two addO) (datF 2) (lstF (consF true (cF (.str "name")) (consF true (cF (.str "figure")) (consF true (cF (.str "end")) (consF true (cF (.str "(")) (consF true (cF (.str "=")) (consF true (cF (.str "->")) (consF true (cF (.str "|")) (consF true (cF (.str "#a.b")) (consF true (cF (.str "#b.a")) (consF true (cF (.str "#name.name")) nilF))))))))))) (fT o ps ws (some (tmsO ones)) none none none) =
      some (.own (.l (((ws ++ extra).map PyData.str).map O.d)), fT o ps ws (some (tmsO ones)) none none none) := by
    refine bin_ok (pb := true) (ra := .own (.d (.list (ws.map PyData.str)))) (rb := .own (.l ((extra.map PyData.str).map O.d))) rfl rfl ?_
    show (match some (ws.map PyData.str), asL (.l ((extra.map PyData.str).map O.d)) with | some xs, some ys => if xs.length + ys.length ≤ sizeLine then some (O.l ((xs ++ ys).map O.d)) else none | _, _ => none) = _
    rw [show asL (.l ((extra.map PyData.str).map O.d)) = some (extra.map PyData.str) from allD_map _]
    show (if _ then _ else _) = _
    rw [if_pos (by rw [List.length_map, List.length_map]; have : ws.length + extra.length ≤ 200 := (by show ws.length + 10 ≤ 200; omega); exact Nat.le_trans this (by decide))]
    simp only [List.map_append]
  obtain ⟨fr2, e2, _, f2, x4, rfl, hf2, hn2, hl2⟩ := for_ok (it := anyI (bin true (two addO) (datF 2) (lstF (consF true (cF (.str "name")) (consF true (cF (.str "figure")) (consF true (cF (.str "end")) (consF true (cF (.str "(")) (consF true (cF (.str "=")) (consF true (cF (.str "->")) (consF true (cF (.str "|")) (consF true (cF (.str "#a.b")) (consF true (cF (.str "#b.a")) (consF true (cF (.str "#name.name")) nilF)))))))))))))
    (tgt := nmT [0] 4) (body := drpF (mthF 3 [] appG (opF tupO (consF true (cF (.str "word")) (consF true (datF 4) nilF))))) (fr := fT o ps ws (some (tmsO ones)) none none none) (fr1 := fT o ps ws (some (tmsO ones)) none none none) (ts := (ws ++ extra).map PyData.str) (by
      unfold anyI
      rw [a1]
      show (Option.bind (allD (((ws ++ extra).map PyData.str).map O.d)) _) = _
      rw [allD_map]
      rfl)
    (fun us fr => (∀ u ∈ us, ∃ w : Str, u = .str w ∧ Ow w) ∧ ∃ (f : List Tm) (x4 : Option O), fr = fT o ps ws (some (tmsO f)) x4 none none ∧ (∀ t ∈ f, t.Ok) ∧ 3 ≤ f.length ∧ f.length + us.length ≤ 200)
    ⟨fun u m => by
      obtain ⟨w, m2, e⟩ := List.mem_map.mp m
      rcases List.mem_append.mp m2 with m3 | m3
      · exact ⟨w, e.symm, (hw w m3).ow⟩
      · exact ⟨w, e.symm, extra_ow w m3⟩, ones, none, rfl, ones_ok, by decide, by rw [List.length_map, List.length_append]; show 3 + (ws.length + 10) ≤ 200; omega⟩ (by
      rintro u us fr ⟨hu, f, x4, rfl, hf, hn, hl⟩
      obtain ⟨w, rfl, ho⟩ := hu u List.mem_cons_self
      have hl : f.length + (us.length + 1) ≤ 200 := hl
      have g1 : appG (f.map fun t => O.d t.d) (.d (Tm.two "word" w).d) = some (.d .none, (f ++ [Tm.two "word" w]).map fun t => O.d t.d) := by
        unfold appG
        rw [if_pos (by rw [List.length_map]; exact Nat.lt_of_le_of_lt (show f.length ≤ 200 by omega) (by decide))]
        simp only [List.map_append, List.map_cons, List.map_nil]
      have m1 : mthF 3 [] appG (opF tupO (consF true (cF (.str "word")) (consF true (datF 4) nilF))) (fT o ps ws (some (tmsO f)) (some (.d (.str w))) none none) = some (.own (.d .none), fT o ps ws (some (tmsO (f ++ [Tm.two "word" w]))) (some (.d (.str w))) none none) :=
        mth0_ok (j := 3) (fr := fT o ps ws (some (tmsO f)) (some (.d (.str w))) none none) (fr1 := fT o ps ws (some (tmsO f)) (some (.d (.str w))) none none) (os0 := f.map fun t => O.d t.d) (y := .d (Tm.two "word" w).d) rfl rfl rfl g1
      refine ⟨fT o ps ws (some (tmsO f)) (some (.d (.str w))) none none, _, rfl, drp_ok m1, fun u m => hu u (List.mem_cons_of_mem _ m), f ++ [Tm.two "word" w], _, rfl, fun t m => ?_, by rw [List.length_append]; omega, by rw [List.length_append, List.length_singleton]; omega⟩
      rcases List.mem_append.mp m with m | m
      · exact hf t m
      · rw [List.mem_singleton.mp m]; exact two_word ho)
  have hl2 : f2.length ≤ 200 := by simpa using hl2
  -- parts
  obtain ⟨fr3, e3, _, f3, x5, rfl, hf3, hn3, hl3⟩ := for_ok (it := anyI (datF 1)) (tgt := nmT [0] 5) (body := setF [0] 3 (bin true (two addO) (borF 3) (lstF (consF true (opF tupO (consF true (cF (.str "lead")) (consF true (datF 5) nilF))) (consF true (opF tupO (consF true (cF (.str "after")) (consF true (datF 5) nilF))) (consF true (opF tupO (consF true (cF (.str "word")) (consF true (datF 5) nilF))) nilF))))))
    (fr := fT o ps ws (some (tmsO f2)) x4 none none) (fr1 := fT o ps ws (some (tmsO f2)) x4 none none) (ts := ps.map PyData.str) rfl
    (fun us fr => (∀ u ∈ us, ∃ w : Str, u = .str w ∧ Gw w) ∧ ∃ (f : List Tm) (x5 : Option O), fr = fT o ps ws (some (tmsO f)) x4 x5 none ∧ (∀ t ∈ f, t.Ok) ∧ 3 ≤ f.length ∧ f.length + 3 * us.length ≤ 500)
    ⟨fun u m => by obtain ⟨w, m2, e⟩ := List.mem_map.mp m; exact ⟨w, e.symm, hp w m2⟩, f2, none, rfl, hf2, hn2, by rw [List.length_map]; omega⟩ (by
      rintro u us fr ⟨hu, f, x5, rfl, hf, hn, hl⟩
      obtain ⟨w, rfl, ho⟩ := hu u List.mem_cons_self
      have hl : f.length + 3 * (us.length + 1) ≤ 500 := hl
      have a2 : bin true (two addO) (borF 3) (lstF (consF true (opF tupO (consF true (cF (.str "lead")) (consF true (datF 5) nilF))) (consF true (opF tupO (consF true (cF (.str "after")) (consF true (datF 5) nilF))) (consF true (opF tupO (consF true (cF (.str "word")) (consF true (datF 5) nilF))) nilF)))) (fT o ps ws (some (tmsO f)) x4 (some (.d (.str w))) none) =
          some (.own (tmsO (f ++ [Tm.two "lead" w, .two "after" w, .two "word" w])), fT o ps ws (some (tmsO f)) x4 (some (.d (.str w))) none) := by
        refine bin_ok (pb := true) (ra := .bor (tmsO f)) (rb := .own (.l (([Tm.two "lead" w, .two "after" w, .two "word" w].map Tm.d).map O.d))) rfl rfl ?_
        show addO (tmsO f) _ = _
        rw [tmsO_eq, tmsO_eq]
        show (match asL (.l ((f.map Tm.d).map O.d)), asL (.l (([Tm.two "lead" w, .two "after" w, .two "word" w].map Tm.d).map O.d)) with | some xs, some ys => if xs.length + ys.length ≤ sizeLine then some (O.l ((xs ++ ys).map O.d)) else none | _, _ => none) = _
        rw [show asL (.l ((f.map Tm.d).map O.d)) = some (f.map Tm.d) from allD_map _, show asL (.l (([Tm.two "lead" w, .two "after" w, .two "word" w].map Tm.d).map O.d)) = some ([Tm.two "lead" w, .two "after" w, .two "word" w].map Tm.d) from allD_map _]
        show (if _ then _ else _) = _
        rw [if_pos (by rw [List.length_map, List.length_map]; have : f.length + 3 ≤ 500 := (by omega); exact Nat.le_trans this (by decide))]
        simp only [List.map_append]
      refine ⟨fT o ps ws (some (tmsO f)) x4 (some (.d (.str w))) none, fT o ps ws (some (tmsO (f ++ [Tm.two "lead" w, .two "after" w, .two "word" w]))) x4 (some (.d (.str w))) none, rfl, (set_ok a2 (by decide)).trans rfl, fun u m => hu u (List.mem_cons_of_mem _ m), _, _, rfl, fun t m => ?_, by rw [List.length_append]; omega, by rw [List.length_append]; show f.length + 3 + 3 * us.length ≤ 500; omega⟩
      rcases List.mem_append.mp m with m | m
      · exact hf t m
      · simp only [List.mem_cons, List.not_mem_nil, or_false] at m
        rcases m with rfl | rfl | rfl
        · exact two_lead ho.ow
        · exact two_after ho.ow
        · exact two_word ho.ow)
  have hl3 : f3.length ≤ 500 := by simpa using hl3
  -- what is drawn from found
  have pick3 : ∀ (o1 : O) (m : Nat) (x3 : O) (x6 : Option O), Dk m o1 → m < 2 ^ 50 → (x3 = tmsO f3 ∨ x3 = .d (.list (f3.map Tm.d))) → f3 ≠ [] →
      ∃ (t : Tm) (o2 : O), callF G__law_pick (consF false (refF 0) (consF true (shrF 3) nilF)) (fT o1 ps ws (some x3) x4 x5 x6) = some (.own (.d t.d), fT o2 ps ws (some (.d (.list (f3.map Tm.d)))) x4 x5 x6) ∧ t ∈ f3 ∧ Dk (m + 1) o2 := fun o1 m x3 x6 d1 hm hx h0 => by
    obtain ⟨t, o2, e, ht, d2⟩ := pick_ok d1 hm (ts := f3.map Tm.d) (by simpa using h0) (by rw [List.length_map]; omega)
    obtain ⟨t, ht2, rfl⟩ := List.mem_map.mp ht
    refine ⟨t, o2, ?_, ht2, d2⟩
    have sh : shrF 3 (none :: (fT o1 ps ws (some x3) x4 x5 x6).tail) = some (.own (.d (.list (f3.map Tm.d))), none :: (fT o1 ps ws (some (.d (.list (f3.map Tm.d)))) x4 x5 x6).tail) := by
      rcases hx with rfl | rfl
      · rw [tmsO_eq]
        show (if O.pls ((f3.map Tm.d).map O.d) = true then _ else _) = _
        rw [if_pos (pls_d _)]
        show some (Rs.own (.d (.list (O.datas ((f3.map Tm.d).map O.d)))), _) = _
        rw [show O.data (.l ((f3.map Tm.d).map O.d)) = .list (f3.map Tm.d) by show PyData.list (O.datas ((f3.map Tm.d).map O.d)) = _; rw [O.datas_d], O.datas_d]
        rfl
      · rfl
    have aa : consF false (refF 0) (consF true (shrF 3) nilF) (fT o1 ps ws (some x3) x4 x5 x6) = some ([.ref 0 o1, .own (.d (.list (f3.map Tm.d)))], none :: (fT o1 ps ws (some (.d (.list (f3.map Tm.d)))) x4 x5 x6).tail) := a_ok (r := .ref 0 o1) rfl (a_ok sh n_ok)
    exact (call_ok aa e).trans rfl
  have h0 : f3 ≠ [] := fun z => by rw [z] at hn3; simp at hn3
  have c := lcS_ok (it := rng1 (consF true (cF (.int 30)) nilF)) (tgt := nmT [] 6) (vs := [6]) (elt := callF G__law_pick (consF false (refF 0) (consF true (shrF 3) nilF)))
    (fr := fT o ps ws (some (tmsO f3)) x4 x5 none) (fr1 := fT o ps ws (some (tmsO f3)) x4 x5 none) (ts := Bv.intsFrom 0 30) rfl
    (fun us acc fr => ∃ (o1 : O) (m : Nat) (x3 : O) (l : List Tm), Dk m o1 ∧ m + us.length ≤ n + 30 ∧ (x3 = tmsO f3 ∨ x3 = .d (.list (f3.map Tm.d))) ∧ acc = l.map Tm.d ∧ (∀ t ∈ l, t.Ok) ∧ l.length + us.length ≤ 30 ∧ fr = fT o1 ps ws (some x3) x4 x5 none)
    ⟨o, n, tmsO f3, [], d, by rw [ints_len]; omega, .inl rfl, rfl, (fun _ m => nomatch m), by rw [ints_len]; decide, rfl⟩ (by
      rintro u us acc fr ⟨o1, m, x3, l, d1, hm, hx, rfl, hl, hll, rfl⟩
      have hm : m + (us.length + 1) ≤ n + 30 := hm
      have hll : l.length + (us.length + 1) ≤ 30 := hll
      obtain ⟨t, o2, e, ht, d2⟩ := pick3 o1 m x3 (some (.d u)) d1 (by omega) hx h0
      refine ⟨fT o1 ps ws (some x3) x4 x5 (some (.d u)), _, t.d, rfl, e, o2, m + 1, .d (.list (f3.map Tm.d)), l ++ [t], d2, by omega, .inr rfl, by rw [List.map_append]; rfl, fun z hz => ?_, by rw [List.length_append, List.length_singleton]; omega, rfl⟩
      rcases List.mem_append.mp hz with hz | hz
      · exact hl z hz
      · rw [List.mem_singleton.mp hz]; exact hf3 t ht) (by rw [ints_len]; decide)
  obtain ⟨acc, fr', e4, o4, m, x3, l, d4, hm, hx, rfl, hl, hll, rfl⟩ := c
  have hm : m ≤ n + 30 := by simpa using hm
  have hll : l.length ≤ 30 := by simpa using hll
  obtain ⟨p0, ps', hps⟩ : ∃ p0 ps', ps = p0 :: ps' := by
    cases ps with
    | nil => exact absurd rfl hp0
    | cons p0 ps' => exact ⟨p0, ps', rfl⟩
  have hg0 : Gw p0 := hp p0 (by rw [hps]; exact List.mem_cons_self)
  refine ⟨(l ++ f3.take 3) ++ [Tm.two "word" p0], o4, ?_, fun t mt => ?_, d4.mono hm⟩
  · refine (g_rt (os := [o, .d (.list (ps.map PyData.str)), .d (.list (ws.map PyData.str))]) (o := .d (.list (((l ++ f3.take 3) ++ [Tm.two "word" p0]).map Tm.d))) (fr := fT o4 ps ws (some x3) x4 x5 none) rfl ?_).trans rfl
    show b__law_terminals (fT o ps ws none none none none) = _
    unfold b__law_terminals
    rw [seq_nx s1, seq_nx e2, seq_nx e3]
    have cu : cutH true (borF 3) (cF (.int 3)) (fT o4 ps ws (some x3) x4 x5 none) = some (.own (.l (((f3.take 3).map Tm.d).map O.d)), fT o4 ps ws (some x3) x4 x5 none) := by
      refine cutH_ok (r := .bor x3) (j := ((3 : Nat) : Int)) rfl rfl ?_
      rcases hx with rfl | rfl
      · show slO none (some ((3 : Nat) : Int)) (tmsO f3) = _
        rw [tmsO_eq]
        show (Option.bind (allD ((f3.map Tm.d).map O.d)) _) = _
        rw [allD_map]
        show some (O.l ((Bv.cutD (f3.map Tm.d) none (some ((3 : Nat) : Int))).map O.d)) = _
        rw [cut_first]
        simp only [List.map_take]
      · show some (O.l ((Bv.cutD (f3.map Tm.d) none (some ((3 : Nat) : Int))).map O.d)) = _
        rw [cut_first]
        simp only [List.map_take]
    have la : lstF (consF true (opF tupO (consF true (cF (.str "word")) (consF true (bin true (two ixO) (datF 1) (cF (.int 0))) nilF))) nilF) (fT o4 ps ws (some x3) x4 x5 none) = some (.own (.l (([Tm.two "word" p0].map Tm.d).map O.d)), fT o4 ps ws (some x3) x4 x5 none) := by
      have i0 : bin true (two ixO) (datF 1) (cF (.int 0)) (fT o4 ps ws (some x3) x4 x5 none) = some (.own (.d (.str p0)), fT o4 ps ws (some x3) x4 x5 none) := bin_dd (x := .list (ps.map PyData.str)) rfl rfl (ix_dl (by rw [hps]; exact at0 _ _))
      exact lst_ok (os := [O.d (Tm.two "word" p0).d]) (a_ok (tup_ok (ts := [.str "word", .str p0]) (a_ok (r := .own (.d (.str "word"))) rfl (a_ok i0 n_ok)) (show 2 ≤ sizeLine by decide)) n_ok) (show 1 ≤ sizeLine by decide)
    have addl : ∀ (a b : List Tm), a.length + b.length ≤ 1000 → addO (.l ((a.map Tm.d).map O.d)) (.l ((b.map Tm.d).map O.d)) = some (.l (((a ++ b).map Tm.d).map O.d)) := fun a b hab => by
      show (match asL (.l ((a.map Tm.d).map O.d)), asL (.l ((b.map Tm.d).map O.d)) with | some xs, some ys => if xs.length + ys.length ≤ sizeLine then some (O.l ((xs ++ ys).map O.d)) else none | _, _ => none) = _
      rw [show asL (.l ((a.map Tm.d).map O.d)) = some (a.map Tm.d) from allD_map _, show asL (.l ((b.map Tm.d).map O.d)) = some (b.map Tm.d) from allD_map _]
      show (if _ then _ else _) = _
      rw [if_pos (by rw [List.length_map, List.length_map]; exact Nat.le_trans hab (by decide))]
      simp only [List.map_append]
    have ht3 : (f3.take 3).length ≤ 3 := by rw [List.length_take]; omega
    exact ret_ok (frz_ld (bin_ok (pb := true) (ra := .own (.l (((l ++ f3.take 3).map Tm.d).map O.d))) (rb := .own (.l (([Tm.two "word" p0].map Tm.d).map O.d))) (bin_ok (pb := true) (ra := .own (.l ((l.map Tm.d).map O.d))) (rb := .own (.l (((f3.take 3).map Tm.d).map O.d))) e4 cu (addl l (f3.take 3) (by omega))) la (addl _ _ (by rw [List.length_append]; show l.length + (f3.take 3).length + 1 ≤ 1000; omega))))
  · rcases List.mem_append.mp mt with mt | mt
    · rcases List.mem_append.mp mt with mt | mt
      · exact hl t mt
      · exact hf3 t (List.mem_of_mem_take mt)
    · rw [List.mem_singleton.mp mt]; exact two_word hg0.ow
/-! ### data small enough to be shown -/
theorem Gw.sz {w : Str} (h : Gw w) : w.cps.size ≤ 6 := h.2.2
theorem ph_small {p : Str} (h : Gw p) : Sd (phD p) = true ∧ (phD p).depth ≤ 3 ∧ (phD p).weight ≤ 60 := by
  have o1 : PyData.strOk "lead" = true ∧ PyData.strOk "part" = true ∧ PyData.strOk "after" = true := by decide +kernel
  have s1 : ("lead" : Str).cps.size = 4 ∧ ("part" : Str).cps.size = 4 ∧ ("after" : Str).cps.size = 5 := by decide +kernel
  refine ⟨?_, ?_, ?_⟩
  · simp [phD, Sd, Sds, h.ok, o1.1, o1.2.1, o1.2.2]
  · simp [phD, PyData.depth, PyData.depthAll]
  · have := h.sz
    simp only [phD, PyData.weight, PyData.weightAll, s1.1, s1.2.1, s1.2.2]
    omega
theorem tup_small {ds : List PyData} {D B : Nat} (h : ∀ d ∈ ds, Sd d = true ∧ d.depth ≤ D ∧ d.weight ≤ B) : Sd (.tuple ds) = true ∧ (PyData.tuple ds).depth ≤ D + 1 ∧ (PyData.tuple ds).weight ≤ ds.length * (B + 1) := by
  refine ⟨sds_of fun d m => (h d m).1, ?_, ?_⟩
  · have := depth_le fun d m => (h d m).2.1
    simp only [PyData.depth]
    omega
  · simp only [PyData.weight]
    exact weight_le fun d m => (h d m).2.2
theorem sy_small {s : Sy} (h : SyOk s) : Sd s.d = true ∧ s.d.depth ≤ 1 ∧ s.d.weight ≤ 20 := by
  have z : ("word" : Str).cps.size = 4 ∧ ("name" : Str).cps.size = 4 ∧ ("figure" : Str).cps.size = 6 ∧ ("part" : Str).cps.size = 4 := by decide +kernel
  cases s with
  | word w =>
    have hw : w.cps.size ≤ 12 := h.2.2
    refine ⟨by simp [Sy.d, Sd, Sds, okW, Ow.ok h], by simp [Sy.d, PyData.depth, PyData.depthAll], ?_⟩
    simp only [Sy.d, PyData.weight, PyData.weightAll, z.1]
    omega
  | name =>
    refine ⟨by simp [Sy.d, Sd, Sds, okN], by simp [Sy.d, PyData.depth, PyData.depthAll], ?_⟩
    simp only [Sy.d, PyData.weight, PyData.weightAll, z.2.1]
    omega
  | figure =>
    refine ⟨by simp [Sy.d, Sd, Sds, okF], by simp [Sy.d, PyData.depth, PyData.depthAll], ?_⟩
    simp only [Sy.d, PyData.weight, PyData.weightAll, z.2.2.1]
    omega
  | part w =>
    have hw : w.cps.size ≤ 6 := Gw.sz h
    refine ⟨by simp [Sy.d, Sd, Sds, okP, Gw.ok h], by simp [Sy.d, PyData.depth, PyData.depthAll], ?_⟩
    simp only [Sy.d, PyData.weight, PyData.weightAll, z.2.2.2]
    omega
theorem role_small {s : Sy} {q : PyData} (h : s.role = some q) : Sd q = true ∧ q.depth ≤ 2 ∧ q.weight ≤ 20 := by
  have key : (Sd roleN = true ∧ roleN.depth ≤ 2 ∧ roleN.weight ≤ 20) ∧ (Sd roleF = true ∧ roleF.depth ≤ 2 ∧ roleF.weight ≤ 20) ∧ (Sd roleP = true ∧ roleP.depth ≤ 2 ∧ roleP.weight ≤ 20) := by decide +kernel
  cases s with
  | word w => cases h
  | name => cases h; exact key.1
  | figure => cases h; exact key.2.1
  | part w => cases h; exact key.2.2
theorem rule_small {r : Rl} (h : r.Ok) : Sd r.d = true ∧ r.d.depth ≤ 4 ∧ r.d.weight ≤ 300 := by
  have b := tup_small (ds := r.body.map Sy.d) (D := 1) (B := 20) fun d m => by
    obtain ⟨s, hs, rfl⟩ := List.mem_map.mp m
    exact sy_small (h.syms s hs)
  have ro := tup_small (ds := r.body.filterMap Sy.role) (D := 2) (B := 20) fun d m => by
    obtain ⟨s, hs, e⟩ := List.mem_filterMap.mp m
    exact role_small e
  have k : (Sd (.tuple [.str "num"]) = true ∧ (PyData.tuple [.str "num"]).depth ≤ 1 ∧ (PyData.tuple [.str "num"]).weight ≤ 20) ∧ (Sd (.tuple [.str "num", .int 0]) = true ∧ (PyData.tuple [.str "num", .int 0]).depth ≤ 1 ∧ (PyData.tuple [.str "num", .int 0]).weight ≤ 20) := by decide +kernel
  have hl := h.len
  have hl2 := List.length_filterMap_le Sy.role r.body
  have hh := h.head
  have hz := hh.sz
  rw [List.length_map] at b
  have e : r.d = .tuple [.str r.head, .tuple (r.body.map Sy.d), .tuple (r.body.filterMap Sy.role), .tuple [.str "num"], .tuple [.str "num", .int 0]] := rfl
  rw [e]
  have w1 : r.body.length * (20 + 1) ≤ 84 := by omega
  have w2 : (r.body.filterMap Sy.role).length * (20 + 1) ≤ 84 := by omega
  refine ⟨?_, ?_, ?_⟩
  · show (Sd (.str r.head) && (Sd (.tuple (r.body.map Sy.d)) && (Sd (.tuple (r.body.filterMap Sy.role)) && (Sd (.tuple [.str "num"]) && (Sd (.tuple [.str "num", .int 0]) && true))))) = true
    rw [b.1, ro.1, k.1.1, k.2.1, show Sd (.str r.head) = true from hh.ok]
    rfl
  · have q1 := b.2.1
    have q2 := ro.2.1
    have q3 := k.1.2.1
    have q4 := k.2.2.1
    show PyData.depthAll [_, _, _, _, _] + 1 ≤ 4
    rw [PyData.depthAll, PyData.depthAll, PyData.depthAll, PyData.depthAll, PyData.depthAll, PyData.depthAll]
    have q0 : (PyData.str r.head).depth = 0 := by simp [PyData.depth]
    omega
  · have q1 := b.2.2
    have q2 := ro.2.2
    have q3 := k.1.2.2
    have q4 := k.2.2.2
    show PyData.weightAll [_, _, _, _, _] ≤ 300
    rw [PyData.weightAll, PyData.weightAll, PyData.weightAll, PyData.weightAll, PyData.weightAll, PyData.weightAll]
    have q0 : (PyData.str r.head).weight = r.head.cps.size := by simp [PyData.weight]
    omega
theorem base_may {st : Str} {rs : List Rl} (hs : Gw st) (hl : rs.length ≤ 12) (hr : ∀ r ∈ rs, r.Ok) : mayShow (baseD st rs) = true := by
  have b := tup_small (ds := rs.map Rl.d) (D := 4) (B := 300) fun d m => by
    obtain ⟨r, hm, rfl⟩ := List.mem_map.mp m
    exact rule_small (hr r hm)
  rw [List.length_map] at b
  have w1 : rs.length * (300 + 1) ≤ 4000 := by omega
  have o1 : PyData.strOk "base" = true ∧ ("base" : Str).cps.size = 4 := by decide +kernel
  have hz := hs.sz
  refine mayShow_of ?_ ?_ ?_
  · show (Sd (.str "base") && (Sd (.str st) && (Sd (.tuple (rs.map Rl.d)) && true))) = true
    rw [b.1, show Sd (.str "base") = true from o1.1, show Sd (.str st) = true from hs.ok]
    rfl
  · show PyData.depthAll [_, _, _] + 1 ≤ 64
    have q1 := b.2.1
    rw [PyData.depthAll, PyData.depthAll, PyData.depthAll, PyData.depthAll]
    have q0 : (PyData.str st).depth = 0 := by simp [PyData.depth]
    have q2 : (PyData.str "base").depth = 0 := by simp [PyData.depth]
    omega
  · show PyData.weightAll [_, _, _] ≤ 2 ^ 20
    have q1 := b.2.2
    rw [PyData.weightAll, PyData.weightAll, PyData.weightAll, PyData.weightAll]
    have q0 : (PyData.str st).weight = st.cps.size := by simp [PyData.weight]
    have q2 : (PyData.str "base").weight = 4 := by simp [PyData.weight, o1.2]
    omega
theorem parts_gw {rs : List Rl} (hr : ∀ r ∈ rs, r.Ok) : ∀ p ∈ parts rs, Gw p := fun p m => by
  obtain ⟨r, hm, e⟩ := List.mem_map.mp (mem_srtU.mp m)
  subst e
  exact (hr r hm).head
theorem parts_len (rs : List Rl) : (parts rs).length ≤ rs.length := Nat.le_trans (srtU_len _) (by rw [List.length_map]; exact Nat.le_refl _)
theorem due_small {rs : List Rl} (hl : rs.length ≤ 12) (hr : ∀ r ∈ rs, r.Ok) : Sd (.tuple ((parts rs).map phD)) = true ∧ (PyData.tuple ((parts rs).map phD)).depth ≤ 4 ∧ (PyData.tuple ((parts rs).map phD)).weight ≤ 1000 := by
  have b := tup_small (ds := (parts rs).map phD) (D := 3) (B := 60) fun d m => by
    obtain ⟨p, hm, rfl⟩ := List.mem_map.mp m
    exact ph_small (parts_gw hr p hm)
  rw [List.length_map] at b
  have := parts_len rs
  exact ⟨b.1, b.2.1, Nat.le_trans b.2.2 (by omega)⟩
theorem due_may {rs : List Rl} (hl : rs.length ≤ 12) (hr : ∀ r ∈ rs, r.Ok) : mayShow (.tuple ((parts rs).map phD)) = true ∧ mayShow (.list [.tuple ((parts rs).map phD), .tuple ((parts rs).map phD)]) = true := by
  obtain ⟨a, b, c⟩ := due_small hl hr
  refine ⟨mayShow_of a (by omega) (by omega), mayShow_of ?_ ?_ ?_⟩
  · show (Sd _ && (Sd _ && true)) = true
    rw [a]
    rfl
  · show PyData.depthAll [_, _] + 1 ≤ 64
    rw [PyData.depthAll, PyData.depthAll, PyData.depthAll]
    omega
  · show PyData.weightAll [_, _] ≤ 2 ^ 20
    rw [PyData.weightAll, PyData.weightAll, PyData.weightAll]
    omega
end K12
set_option Elab.async false
set_option linter.all false
set_option maxRecDepth 100000
/-! K12P: the plain law. -/
namespace K12
open PySem PySem.Spec L2 Bv

theorem lcL_tst {tgt : PyData → Fr → Option Fr} {tst : Evt} {elt : Ev} {vs : List Nat} (P : List PyData → List PyData → Fr → Prop)
    (step : ∀ t ts acc fr, P (t :: ts) acc fr → ∃ fr1 fr2 b, tgt t fr = some fr1 ∧ tst fr1 = some (b, fr2) ∧ (b = true → ∃ d fr3, elt fr2 = some (.own (.d d), fr3) ∧ P ts (acc ++ [d]) (wipF fr3 vs)) ∧ (b = false → P ts acc (wipF fr2 vs))) : ∀ (ts acc : List PyData) (fr : Fr),
    P ts acc fr → acc.length + ts.length ≤ sizeLine → ∃ acc' fr', lcL tgt tst elt vs ts (acc.map O.d) fr = some (acc'.map O.d, fr') ∧ P [] acc' fr'
  | [], acc, fr, h, _ => ⟨acc, fr, rfl, h⟩
  | t :: ts, acc, fr, h, hl => by
    have hl' : acc.length + (ts.length + 1) ≤ sizeLine := hl
    obtain ⟨fr1, fr2, b, e1, e2, ht, hf⟩ := step t ts acc fr h
    cases b with
    | true =>
      obtain ⟨d, fr3, e3, h2⟩ := ht rfl
      obtain ⟨acc', fr', e4, h3⟩ := lcL_tst P step ts (acc ++ [d]) (wipF fr3 vs) h2 (by rw [List.length_append, List.length_singleton]; omega)
      refine ⟨acc', fr', ?_, h3⟩
      unfold lcL
      rw [e1]
      simp only [Option.bind_some, e2, if_pos]
      rw [e3]
      simp only [Option.bind_some]
      rw [if_pos (by rw [List.length_map]; omega)]
      rw [List.map_append] at e4
      exact e4
    | false =>
      obtain ⟨acc', fr', e4, h3⟩ := lcL_tst P step ts acc (wipF fr2 vs) (hf rfl) (by omega)
      refine ⟨acc', fr', ?_, h3⟩
      unfold lcL
      rw [e1]
      simp only [Option.bind_some, e2, if_neg (show ¬ (false = true) by decide)]
      exact e4
def nmL : List Str := ["name"]
theorem draw1 {n : Nat} {o s : O} (d : Dk n o) (hn : n < 2 ^ 50) {k : Int} (h0 : 0 < k) (h1 : k < 2 ^ 60) (fr : Fr) : ∃ r o', callF G__law_draw (consF true (refF 1) (consF true (cF (.int k)) nilF)) (some s :: some o :: fr) = some (.own (.d (.int r)), some s :: some o' :: fr) ∧ 0 ≤ r ∧ r < k ∧ Dk (n + 1) o' := by
  obtain ⟨r, o', e, r0, r1, d'⟩ := draw_ok d hn h0 h1
  exact ⟨r, o', (call_ok (G := GDraw) (fs := consF true (refF 1) (consF true (cF (.int k)) nilF)) (fr := some s :: some o :: fr) (rs := [.ref 1 o, .own (.d (.int k))]) rfl e).trans rfl, r0, r1, d'⟩
def fL (s o : O) (a2 a3 a4 a5 a6 a7 a8 a9 a10 a11 a12 a13 : Option O) : Fr := [some s, some o, a2, a3, a4, a5, a6, a7, a8, a9, a10, a11, a12, a13]
def strG (t : PyData) : Option PyData := (headG t).map PyData.str
theorem strG_map (rs : List Rl) : (rs.map Rl.d).filterMap strG = (rs.map (·.head)).map PyData.str := by
  rw [List.filterMap_map, List.map_map, show strG ∘ Rl.d = some ∘ (PyData.str ∘ (·.head)) from rfl, List.filterMap_eq_map]
abbrev tail1 : Sts := (seqF (setF [0] 5 (opF (one reprO) (consF true (datF 4) nilF)))
  (seqF (setF [0] 6 (frzF (srtF (setE (lcF (anyI (bin true (two ixO) (datF 4) (cF (.int 2)))) (nmT [] 12) yesF (bin true (two ixO) (datF 12) (cF (.int 0))) [12])))))
  (seqF (setF [0] 7 (opF (one tupleO) (consF true (lcF (anyI (datF 6)) (nmT [] 11) yesF (opF tupO (consF true (datF 11) (consF true (opF tupO (consF true (opF tupO (consF true (cF (.str "lead")) (consF true (datF 11) nilF))) (consF true (opF tupO (consF true (cF (.str "part")) (consF true (datF 11) nilF))) (consF true (opF tupO (consF true (cF (.str "after")) (consF true (datF 11) nilF))) nilF)))) nilF))) [11]) nilF)))
  (seqF (iffF (orF (tstF (bin true (two (eqA true)) (opF (one reprO) (consF true (lstF (consF false (callF G_phantom (consF true (datF 4) nilF)) (consF true (kcF G_phantom [0] (consF true (datF 4) nilF)) nilF))) nilF)) (opF (one reprO) (consF true (lstF (consF true (datF 7) (consF true (datF 7) nilF))) nilF)))) (tstF (bin true (two (eqA true)) (opF (one reprO) (consF true (datF 4) nilF)) (datF 5)))) (retF (cF (.bool false))) nxF)
  (seqF (setF [0] 8 (callF G__law_terminals (consF true (refF 1) (consF true (datF 6) (consF true (datF 3) nilF)))))
  (seqF (setF [0] 9 (opF (one tupleO) (consF true (srtF (setE (lcF (anyI (bin true (two addO) (datF 3) (lstF (consF true (cF (.str "name")) nilF)))) (nmT [] 13) (tstF (bin true (two (eqA false)) (callF G__law_draw (consF true (refF 1) (consF true (cF (.int 3)) nilF))) (cF (.int 0)))) (datF 13) [13]))) nilF)))
  (seqF (forF (anyI (opF tupO (consF true (callF G_kept_words (consF true (datF 4) nilF)) (consF true (datF 9) (consF true (opF tupO nilF) nilF))))) (nmT [0] 10) (iffF (notF (tstF (callF G__law_all_meet (consF true (datF 10) (consF true (datF 8) nilF))))) (retF (cF (.bool false))) nxF))
  (iffF (tstF (bin true (two (eqA true)) (opF (one reprO) (consF true (callF G_phantom (consF true (datF 4) nilF)) nilF)) (opF (one reprO) (consF true (datF 7) nilF)))) (retF (cF (.bool false))) nxF))))))))
abbrev turnL : Sts := (seqF (setF [0] 3 (callF G__law_called (consF true (refF 1) (consF true (cF (.int 12)) nilF))))
  (seqF (setF [0] 4 (callF G__law_base (consF true (refF 1) (consF true (datF 3) nilF)))) tail1))
theorem turnL_ok {n : Nat} {o s : O} (d : Dk n o) (hn : n + 200 < 2 ^ 50) (a2 a3 a4 a5 a6 a7 a8 a9 a10 a11 a12 a13 : Option O) :
    ∃ (o' : O) (b3 b4 b5 b6 b7 b8 b9 b10 b11 b12 b13 : Option O), turnL (fL s o a2 a3 a4 a5 a6 a7 a8 a9 a10 a11 a12 a13) = some (.nx, fL s o' a2 b3 b4 b5 b6 b7 b8 b9 b10 b11 b12 b13) ∧ Dk (n + 200) o' := by
  -- the words
  obtain ⟨ws, o1, e1, d1, wl, wg⟩ := called_ok d (by omega)
  have s3 : setF [0] 3 (callF G__law_called (consF true (refF 1) (consF true (cF (.int 12)) nilF))) (fL s o a2 a3 a4 a5 a6 a7 a8 a9 a10 a11 a12 a13) = some (.nx, fL s o1 a2 (some (.d (.list (ws.map PyData.str)))) a4 a5 a6 a7 a8 a9 a10 a11 a12 a13) := by
    have c : callF G__law_called (consF true (refF 1) (consF true (cF (.int 12)) nilF)) (fL s o a2 a3 a4 a5 a6 a7 a8 a9 a10 a11 a12 a13) = some (.own (.d (.list (ws.map PyData.str))), fL s o1 a2 a3 a4 a5 a6 a7 a8 a9 a10 a11 a12 a13) := (call_ok (G := G__law_called) (fs := consF true (refF 1) (consF true (cF (.int 12)) nilF)) (fr := fL s o a2 a3 a4 a5 a6 a7 a8 a9 a10 a11 a12 a13) (rs := [.ref 1 o, .own (.d (.int 12))]) rfl e1).trans rfl
    exact (set_ok c (by decide)).trans rfl
  -- the base
  obtain ⟨st, rs, o2, e2, d2, rne, rl, rok, sg⟩ := base_ok d1 (by omega) ws wg wl
  have s4 : setF [0] 4 (callF G__law_base (consF true (refF 1) (consF true (datF 3) nilF))) (fL s o1 a2 (some (.d (.list (ws.map PyData.str)))) a4 a5 a6 a7 a8 a9 a10 a11 a12 a13) = some (.nx, fL s o2 a2 (some (.d (.list (ws.map PyData.str)))) (some (.d (baseD st rs))) a5 a6 a7 a8 a9 a10 a11 a12 a13) := by
    have c : callF G__law_base (consF true (refF 1) (consF true (datF 3) nilF)) (fL s o1 a2 (some (.d (.list (ws.map PyData.str)))) a4 a5 a6 a7 a8 a9 a10 a11 a12 a13) = some (.own (.d (baseD st rs)), fL s o2 a2 (some (.d (.list (ws.map PyData.str)))) a4 a5 a6 a7 a8 a9 a10 a11 a12 a13) := (call_ok (G := G__law_base) (fs := consF true (refF 1) (consF true (datF 3) nilF)) (fr := fL s o1 a2 (some (.d (.list (ws.map PyData.str)))) a4 a5 a6 a7 a8 a9 a10 a11 a12 a13) (rs := [.ref 1 o1, .own (.d (.list (ws.map PyData.str)))]) rfl e2).trans rfl
    exact (set_ok c (by decide)).trans rfl
  generalize hW : O.d (.list (ws.map PyData.str)) = W at s3 s4
  have bm := base_may sg rl rok
  obtain ⟨m1, m2⟩ := due_may rl rok
  -- written
  have s5 : setF [0] 5 (opF (one reprO) (consF true (datF 4) nilF)) (fL s o2 a2 (some W) (some (.d (baseD st rs))) a5 a6 a7 a8 a9 a10 a11 a12 a13) = some (.nx, fL s o2 a2 (some W) (some (.d (baseD st rs))) (some (.d (.str (baseD st rs).shown))) a6 a7 a8 a9 a10 a11 a12 a13) :=
    (set_ok (repr_ok (r := .own (.d (baseD st rs))) (fr1 := fL s o2 a2 (some W) (some (.d (baseD st rs))) a5 a6 a7 a8 a9 a10 a11 a12 a13) rfl rfl rfl bm) (by decide)).trans rfl
  generalize hB : some (O.d (.str (baseD st rs).shown)) = B5 at s5
  -- the parts
  have s6 : setF [0] 6 (frzF (srtF (setE (lcF (anyI (bin true (two ixO) (datF 4) (cF (.int 2)))) (nmT [] 12) yesF (bin true (two ixO) (datF 12) (cF (.int 0))) [12])))) (fL s o2 a2 (some W) (some (.d (baseD st rs))) B5 a6 a7 a8 a9 a10 a11 a12 a13) =
      some (.nx, fL s o2 a2 (some W) (some (.d (baseD st rs))) B5 (some (.d (.list ((parts rs).map PyData.str)))) a7 a8 a9 a10 a11 none a13) := by
    have i2 : bin true (two ixO) (datF 4) (cF (.int 2)) (fL s o2 a2 (some W) (some (.d (baseD st rs))) B5 a6 a7 a8 a9 a10 a11 a12 a13) = some (.own (.d (.tuple (rs.map Rl.d))), fL s o2 a2 (some W) (some (.d (baseD st rs))) B5 a6 a7 a8 a9 a10 a11 a12 a13) := bin_dd rfl rfl (base2 st rs)
    have c := lc_ok (it := anyI (bin true (two ixO) (datF 4) (cF (.int 2)))) (tgt := nmT [] 12) (tst := yesF) (elt := bin true (two ixO) (datF 12) (cF (.int 0))) (vs := [12]) (fr := fL s o2 a2 (some W) (some (.d (baseD st rs))) B5 a6 a7 a8 a9 a10 a11 a12 a13) (fr1 := fL s o2 a2 (some W) (some (.d (baseD st rs))) B5 a6 a7 a8 a9 a10 a11 a12 a13) (ts := rs.map Rl.d) strG (by unfold anyI; rw [i2]; rfl) (fun t ht => by
      obtain ⟨r, _, rfl⟩ := List.mem_map.mp ht
      exact ⟨fL s o2 a2 (some W) (some (.d (baseD st rs))) B5 a6 a7 a8 a9 a10 a11 (some (.d r.d)) a13, fL s o2 a2 (some W) (some (.d (baseD st rs))) B5 a6 a7 a8 a9 a10 a11 (some (.d r.d)) a13, rfl, ⟨_, rfl, bin_dd rfl rfl (rule0 r)⟩, rfl⟩) (by rw [List.length_map]; exact Nat.le_trans rl (by decide))
    rw [strG_map] at c
    have z := srt_set (xs := rs.map fun r : Rl => r.head) c (show asL (.l (((rs.map (·.head)).map PyData.str).map O.d)) = some ((rs.map (·.head)).map PyData.str) from allD_map _) (by rw [List.length_map]; exact Nat.lt_of_le_of_lt (Nat.succ_le_succ rl) (by decide))
    exact (set_ok (frz_ld z) (by decide)).trans rfl
  -- the due
  have s7 : setF [0] 7 (opF (one tupleO) (consF true (lcF (anyI (datF 6)) (nmT [] 11) yesF (opF tupO (consF true (datF 11) (consF true (opF tupO (consF true (opF tupO (consF true (cF (.str "lead")) (consF true (datF 11) nilF))) (consF true (opF tupO (consF true (cF (.str "part")) (consF true (datF 11) nilF))) (consF true (opF tupO (consF true (cF (.str "after")) (consF true (datF 11) nilF))) nilF)))) nilF))) [11]) nilF))
      (fL s o2 a2 (some W) (some (.d (baseD st rs))) B5 (some (.d (.list ((parts rs).map PyData.str)))) a7 a8 a9 a10 a11 none a13) = some (.nx, fL s o2 a2 (some W) (some (.d (baseD st rs))) B5 (some (.d (.list ((parts rs).map PyData.str)))) (some (.d (.tuple ((parts rs).map phD)))) a8 a9 a10 none none a13) := by
    have hp : (parts rs).length ≤ 100 := Nat.le_trans (parts_len rs) (by omega)
    have c := lc_ok (it := anyI (datF 6)) (tgt := nmT [] 11) (tst := yesF) (elt := opF tupO (consF true (datF 11) (consF true (opF tupO (consF true (opF tupO (consF true (cF (.str "lead")) (consF true (datF 11) nilF))) (consF true (opF tupO (consF true (cF (.str "part")) (consF true (datF 11) nilF))) (consF true (opF tupO (consF true (cF (.str "after")) (consF true (datF 11) nilF))) nilF)))) nilF))) (vs := [11])
      (fr := fL s o2 a2 (some W) (some (.d (baseD st rs))) B5 (some (.d (.list ((parts rs).map PyData.str)))) a7 a8 a9 a10 a11 none a13) (fr1 := fL s o2 a2 (some W) (some (.d (baseD st rs))) B5 (some (.d (.list ((parts rs).map PyData.str)))) a7 a8 a9 a10 a11 none a13) (ts := (parts rs).map PyData.str) phG rfl (fun t ht => by
      obtain ⟨p, _, rfl⟩ := List.mem_map.mp ht
      exact ⟨fL s o2 a2 (some W) (some (.d (baseD st rs))) B5 (some (.d (.list ((parts rs).map PyData.str)))) a7 a8 a9 a10 (some (.d (.str p))) none a13, fL s o2 a2 (some W) (some (.d (baseD st rs))) B5 (some (.d (.list ((parts rs).map PyData.str)))) a7 a8 a9 a10 (some (.d (.str p))) none a13, rfl, ⟨_, rfl, rfl⟩, rfl⟩) (by rw [List.length_map]; exact Nat.le_trans hp (by decide))
    rw [phG_map] at c
    refine (set_ok (op1_ok c (o := .d (.tuple ((parts rs).map phD))) ?_) (by decide)).trans rfl
    show (Option.bind (allD (((parts rs).map phD).map O.d)) _) = _
    rw [allD_map]
    rfl
  generalize hT : PyData.tuple ((parts rs).map phD) = T at m1 m2 s7
  have ph : ∀ fr : Fr, datF 4 fr = some (.own (.d (baseD st rs)), fr) → callF G_phantom (consF true (datF 4) nilF) fr = some (.own (.d T), fr) := fun fr hfr => by
    have e := call_ok (rs := [.own (.d (baseD st rs))]) (a_ok (pb := true) hfr n_ok) (phantom_ok st rs (by omega))
    rw [hT] at e
    exact e
  have phk : ∀ fr : Fr, datF 4 fr = some (.own (.d (baseD st rs)), fr) → kcF G_phantom [0] (consF true (datF 4) nilF) fr = some (.own (.d T), fr) := fun fr hfr => by
    unfold kcF
    rw [a_ok (pb := true) hfr n_ok]
    show (Option.bind (G_phantom [.d (baseD st rs)]) _) = _
    rw [phantom_ok st rs (by omega), hT]
    rfl
  have i1 : iffF (orF (tstF (bin true (two (eqA true)) (opF (one reprO) (consF true (lstF (consF false (callF G_phantom (consF true (datF 4) nilF)) (consF true (kcF G_phantom [0] (consF true (datF 4) nilF)) nilF))) nilF)) (opF (one reprO) (consF true (lstF (consF true (datF 7) (consF true (datF 7) nilF))) nilF)))) (tstF (bin true (two (eqA true)) (opF (one reprO) (consF true (datF 4) nilF)) (datF 5)))) (retF (cF (.bool false))) nxF
      (fL s o2 a2 (some W) (some (.d (baseD st rs))) B5 (some (.d (.list ((parts rs).map PyData.str)))) (some (.d T)) a8 a9 a10 none none a13) = some (.nx, fL s o2 a2 (some W) (some (.d (baseD st rs))) B5 (some (.d (.list ((parts rs).map PyData.str)))) (some (.d T)) a8 a9 a10 none none a13) := by
    have l1 : lstF (consF false (callF G_phantom (consF true (datF 4) nilF)) (consF true (kcF G_phantom [0] (consF true (datF 4) nilF)) nilF)) (fL s o2 a2 (some W) (some (.d (baseD st rs))) B5 (some (.d (.list ((parts rs).map PyData.str)))) (some (.d T)) a8 a9 a10 none none a13) = some (.own (.l [.d T, .d T]), fL s o2 a2 (some W) (some (.d (baseD st rs))) B5 (some (.d (.list ((parts rs).map PyData.str)))) (some (.d T)) a8 a9 a10 none none a13) :=
      lst_ok (os := [.d T, .d T]) (a_ok (ph _ rfl) (a_ok (phk _ rfl) n_ok)) (show 2 ≤ sizeLine by decide)
    have t1 : tstF (bin true (two (eqA true)) (opF (one reprO) (consF true (lstF (consF false (callF G_phantom (consF true (datF 4) nilF)) (consF true (kcF G_phantom [0] (consF true (datF 4) nilF)) nilF))) nilF)) (opF (one reprO) (consF true (lstF (consF true (datF 7) (consF true (datF 7) nilF))) nilF))) (fL s o2 a2 (some W) (some (.d (baseD st rs))) B5 (some (.d (.list ((parts rs).map PyData.str)))) (some (.d T)) a8 a9 a10 none none a13) =
        some (false, fL s o2 a2 (some W) (some (.d (baseD st rs))) B5 (some (.d (.list ((parts rs).map PyData.str)))) (some (.d T)) a8 a9 a10 none none a13) :=
      tst_ok (bin_dd (repr_ok l1 rfl rfl m2) (repr_ok (r := .own (.l [.d T, .d T])) rfl rfl rfl m2) ne_same)
    have t2 : tstF (bin true (two (eqA true)) (opF (one reprO) (consF true (datF 4) nilF)) (datF 5)) (fL s o2 a2 (some W) (some (.d (baseD st rs))) B5 (some (.d (.list ((parts rs).map PyData.str)))) (some (.d T)) a8 a9 a10 none none a13) =
        some (false, fL s o2 a2 (some W) (some (.d (baseD st rs))) B5 (some (.d (.list ((parts rs).map PyData.str)))) (some (.d T)) a8 a9 a10 none none a13) := by
      subst hB
      exact tst_ok (bin_dd (y := .str (baseD st rs).shown) (repr_ok (r := .own (.d (baseD st rs))) rfl rfl rfl bm) rfl ne_same)
    rw [if_false' (fr1 := fL s o2 a2 (some W) (some (.d (baseD st rs))) B5 (some (.d (.list ((parts rs).map PyData.str)))) (some (.d T)) a8 a9 a10 none none a13) (by unfold orF; rw [t1]; exact t2)]
    rfl
  -- the terminals
  have pne : parts rs ≠ [] := by
    obtain ⟨r, rs', er⟩ : ∃ r rs', rs = r :: rs' := by
      cases rs with
      | nil => exact absurd rfl rne
      | cons r rs' => exact ⟨r, rs', rfl⟩
    have : r.head ∈ parts rs := mem_srtU.mpr (List.mem_map.mpr ⟨r, by rw [er]; exact List.mem_cons_self, rfl⟩)
    intro z
    rw [z] at this
    cases this
  obtain ⟨ts, o3, e3, tok, d3⟩ := terminals_ok d2 (by omega) (parts rs) ws (parts_gw rok) pne (Nat.le_trans (parts_len rs) (by omega)) wg (by omega)
  have s8 : setF [0] 8 (callF G__law_terminals (consF true (refF 1) (consF true (datF 6) (consF true (datF 3) nilF)))) (fL s o2 a2 (some W) (some (.d (baseD st rs))) B5 (some (.d (.list ((parts rs).map PyData.str)))) (some (.d T)) a8 a9 a10 none none a13) =
      some (.nx, fL s o3 a2 (some W) (some (.d (baseD st rs))) B5 (some (.d (.list ((parts rs).map PyData.str)))) (some (.d T)) (some (.d (.list (ts.map Tm.d)))) a9 a10 none none a13) := by
    subst hW
    have c : callF G__law_terminals (consF true (refF 1) (consF true (datF 6) (consF true (datF 3) nilF))) (fL s o2 a2 (some (.d (.list (ws.map PyData.str)))) (some (.d (baseD st rs))) B5 (some (.d (.list ((parts rs).map PyData.str)))) (some (.d T)) a8 a9 a10 none none a13) = some (.own (.d (.list (ts.map Tm.d))), fL s o3 a2 (some (.d (.list (ws.map PyData.str)))) (some (.d (baseD st rs))) B5 (some (.d (.list ((parts rs).map PyData.str)))) (some (.d T)) a8 a9 a10 none none a13) :=
      (call_ok (G := G__law_terminals) (fs := consF true (refF 1) (consF true (datF 6) (consF true (datF 3) nilF))) (fr := fL s o2 a2 (some (.d (.list (ws.map PyData.str)))) (some (.d (baseD st rs))) B5 (some (.d (.list ((parts rs).map PyData.str)))) (some (.d T)) a8 a9 a10 none none a13) (rs := [.ref 1 o2, .own (.d (.list ((parts rs).map PyData.str))), .own (.d (.list (ws.map PyData.str)))]) rfl e3).trans rfl
    exact (set_ok c (by decide)).trans rfl
  -- more held
  obtain ⟨hs, o4, e9, d4, hok, hlen⟩ : ∃ (hs : List Str) (o4 : O), setF [0] 9 (opF (one tupleO) (consF true (srtF (setE (lcF (anyI (bin true (two addO) (datF 3) (lstF (consF true (cF (.str "name")) nilF)))) (nmT [] 13) (tstF (bin true (two (eqA false)) (callF G__law_draw (consF true (refF 1) (consF true (cF (.int 3)) nilF))) (cF (.int 0)))) (datF 13) [13]))) nilF))
      (fL s o3 a2 (some W) (some (.d (baseD st rs))) B5 (some (.d (.list ((parts rs).map PyData.str)))) (some (.d T)) (some (.d (.list (ts.map Tm.d)))) a9 a10 none none a13) =
      some (.nx, fL s o4 a2 (some W) (some (.d (baseD st rs))) B5 (some (.d (.list ((parts rs).map PyData.str)))) (some (.d T)) (some (.d (.list (ts.map Tm.d)))) (some (.d (.tuple (hs.map PyData.str)))) a10 none none none) ∧ Dk (n + 200) o4 ∧ (∀ w ∈ hs, PyData.strOk w = true) ∧ hs.length ≤ 1000 := by
    have a1 : bin true (two addO) (datF 3) (lstF (consF true (cF (.str "name")) nilF)) (fL s o3 a2 (some W) (some (.d (baseD st rs))) B5 (some (.d (.list ((parts rs).map PyData.str)))) (some (.d T)) (some (.d (.list (ts.map Tm.d)))) a9 a10 none none a13) =
        some (.own (.l (((ws ++ nmL).map PyData.str).map O.d)), fL s o3 a2 (some W) (some (.d (baseD st rs))) B5 (some (.d (.list ((parts rs).map PyData.str)))) (some (.d T)) (some (.d (.list (ts.map Tm.d)))) a9 a10 none none a13) := by
      subst hW
      refine bin_ok (pb := true) (ra := .own (.d (.list (ws.map PyData.str)))) (rb := .own (.l ((nmL.map PyData.str).map O.d))) rfl rfl ?_
      show (if _ then _ else _) = _
      rw [if_pos (by rw [List.length_map, wl]; decide)]
      simp only [List.map_append]
      rfl
    obtain ⟨acc, fr', el, o4, m, hs, _, dm, hm, rfl, hg, hhl, rfl⟩ := lcL_tst (tgt := nmT [] 13) (tst := tstF (bin true (two (eqA false)) (callF G__law_draw (consF true (refF 1) (consF true (cF (.int 3)) nilF))) (cF (.int 0)))) (elt := datF 13) (vs := [13])
      (fun us acc fr => ∃ (o4 : O) (m : Nat) (hs : List Str), (∀ u ∈ us, ∃ w : Str, u = .str w ∧ Gw w) ∧ Dk m o4 ∧ m + us.length ≤ n + 200 ∧ acc = hs.map PyData.str ∧ (∀ w ∈ hs, Gw w) ∧ hs.length + us.length ≤ 100 ∧
        fr = fL s o4 a2 (some W) (some (.d (baseD st rs))) B5 (some (.d (.list ((parts rs).map PyData.str)))) (some (.d T)) (some (.d (.list (ts.map Tm.d)))) a9 a10 none none none) (by
      rintro u us acc fr ⟨o4, m, hs, hu, dm, hm, rfl, hh, hhl, rfl⟩
      have hm : m + (us.length + 1) ≤ n + 200 := hm
      have hhl : hs.length + (us.length + 1) ≤ 100 := hhl
      obtain ⟨w, rfl, hw⟩ := hu u List.mem_cons_self
      obtain ⟨r, o5, er, r0, r1, d5⟩ := draw1 (s := s) dm (by omega) (k := 3) (by decide) (by decide) [a2, some W, some (.d (baseD st rs)), B5, some (.d (.list ((parts rs).map PyData.str))), some (.d T), some (.d (.list (ts.map Tm.d))), a9, a10, none, none, some (.d (.str w))]
      have eq0 : eqA false (.d (.int r)) (.d (.int 0)) = some (.d (.bool (r == 0))) := by
        show eqO false (.d (.int r)) (.d (.int 0)) = _
        unfold eqO
        rw [if_pos (by refine ⟨rfl, rfl, ?_, ?_, ?_⟩ <;> simp [O.data, PyData.canLay0, PyData.depth])]
        simp [O.data, PyData.eqv]
      refine ⟨fL s o4 a2 (some W) (some (.d (baseD st rs))) B5 (some (.d (.list ((parts rs).map PyData.str)))) (some (.d T)) (some (.d (.list (ts.map Tm.d)))) a9 a10 none none (some (.d (.str w))), fL s o5 a2 (some W) (some (.d (baseD st rs))) B5 (some (.d (.list ((parts rs).map PyData.str)))) (some (.d T)) (some (.d (.list (ts.map Tm.d)))) a9 a10 none none (some (.d (.str w))), (r == 0), rfl, tst_ok (bin_dd er rfl eq0), fun _ => ?_, fun _ => ?_⟩
      · refine ⟨.str w, _, rfl, o5, m + 1, hs ++ [w], fun u m => hu u (List.mem_cons_of_mem _ m), d5, by omega, by rw [List.map_append]; rfl, fun z hz => ?_, by rw [List.length_append, List.length_singleton]; omega, rfl⟩
        rcases List.mem_append.mp hz with hz | hz
        · exact hh z hz
        · rw [List.mem_singleton.mp hz]; exact hw
      · exact ⟨o5, m + 1, hs, fun u m => hu u (List.mem_cons_of_mem _ m), d5, by omega, rfl, hh, by omega, rfl⟩) ((ws ++ nmL).map PyData.str) [] (fL s o3 a2 (some W) (some (.d (baseD st rs))) B5 (some (.d (.list ((parts rs).map PyData.str)))) (some (.d T)) (some (.d (.list (ts.map Tm.d)))) a9 a10 none none none)
      ⟨o3, n + 2 + 80 + 30, [], fun u m => by
        obtain ⟨w, m2, e⟩ := List.mem_map.mp m
        rcases List.mem_append.mp m2 with m3 | m3
        · exact ⟨w, e.symm, wg w m3⟩
        · exact ⟨w, e.symm, by rw [List.mem_singleton.mp m3]; exact fixed_gw _ (by simp [fixed])⟩, d3, by rw [List.length_map, List.length_append, wl]; show n + 2 + 80 + 30 + (12 + 1) ≤ n + 200; omega, rfl, (fun _ m => nomatch m), by rw [List.length_map, List.length_append, wl]; decide, rfl⟩ (by rw [List.length_map, List.length_append, wl]; decide)
    have hm : m ≤ n + 200 := hm
    have lc : lcF (anyI (bin true (two addO) (datF 3) (lstF (consF true (cF (.str "name")) nilF)))) (nmT [] 13) (tstF (bin true (two (eqA false)) (callF G__law_draw (consF true (refF 1) (consF true (cF (.int 3)) nilF))) (cF (.int 0)))) (datF 13) [13] (fL s o3 a2 (some W) (some (.d (baseD st rs))) B5 (some (.d (.list ((parts rs).map PyData.str)))) (some (.d T)) (some (.d (.list (ts.map Tm.d)))) a9 a10 none none a13) =
        some (.own (.l ((hs.map PyData.str).map O.d)), fL s o4 a2 (some W) (some (.d (baseD st rs))) B5 (some (.d (.list ((parts rs).map PyData.str)))) (some (.d T)) (some (.d (.list (ts.map Tm.d)))) a9 a10 none none none) := by
      have w1 : anyI (bin true (two addO) (datF 3) (lstF (consF true (cF (.str "name")) nilF))) (fL s o3 a2 (some W) (some (.d (baseD st rs))) B5 (some (.d (.list ((parts rs).map PyData.str)))) (some (.d T)) (some (.d (.list (ts.map Tm.d)))) a9 a10 none none a13) = some ((ws ++ nmL).map PyData.str, fL s o3 a2 (some W) (some (.d (baseD st rs))) B5 (some (.d (.list ((parts rs).map PyData.str)))) (some (.d T)) (some (.d (.list (ts.map Tm.d)))) a9 a10 none none a13) := by
        unfold anyI
        rw [a1]
        show (Option.bind (allD (((ws ++ nmL).map PyData.str).map O.d)) _) = _
        rw [allD_map]
        rfl
      unfold lcF
      rw [w1]
      show (Option.bind (lcL _ _ _ _ ((ws ++ nmL).map PyData.str) (([] : List PyData).map O.d) (fL s o3 a2 (some W) (some (.d (baseD st rs))) B5 (some (.d (.list ((parts rs).map PyData.str)))) (some (.d T)) (some (.d (.list (ts.map Tm.d)))) a9 a10 none none none)) _) = _
      rw [el]
      rfl
    have hsl : hs.length ≤ 100 := hhl
    have z := srt_set (xs := hs) lc (show asL (.l ((hs.map PyData.str).map O.d)) = some (hs.map PyData.str) from allD_map _) (Nat.lt_of_le_of_lt (Nat.succ_le_succ hsl) (by decide))
    refine ⟨srtU hs, o4, (set_ok (op1_ok z (o := .d (.tuple ((srtU hs).map PyData.str))) ?_) (by decide)).trans rfl, dm.mono hm, fun w m => ?_, Nat.le_trans (srtU_len _) (by omega)⟩
    · show (Option.bind (allD (((srtU hs).map PyData.str).map O.d)) _) = _
      rw [allD_map]
      rfl
    · exact (hg w (mem_srtU.mp m)).ok
  -- each that is held
  obtain ⟨ks, ek, ko, kl⟩ := kept_ok st rs (by omega) rok
  have w3 : anyI (opF tupO (consF true (callF G_kept_words (consF true (datF 4) nilF)) (consF true (datF 9) (consF true (opF tupO nilF) nilF)))) (fL s o4 a2 (some W) (some (.d (baseD st rs))) B5 (some (.d (.list ((parts rs).map PyData.str)))) (some (.d T)) (some (.d (.list (ts.map Tm.d)))) (some (.d (.tuple (hs.map PyData.str)))) a10 none none none) =
      some ([.tuple (ks.map PyData.str), .tuple (hs.map PyData.str), .tuple (([] : List Str).map PyData.str)], fL s o4 a2 (some W) (some (.d (baseD st rs))) B5 (some (.d (.list ((parts rs).map PyData.str)))) (some (.d T)) (some (.d (.list (ts.map Tm.d)))) (some (.d (.tuple (hs.map PyData.str)))) a10 none none none) := by
    have c : callF G_kept_words (consF true (datF 4) nilF) (fL s o4 a2 (some W) (some (.d (baseD st rs))) B5 (some (.d (.list ((parts rs).map PyData.str)))) (some (.d T)) (some (.d (.list (ts.map Tm.d)))) (some (.d (.tuple (hs.map PyData.str)))) a10 none none none) = some (.own (.d (.tuple (ks.map PyData.str))), fL s o4 a2 (some W) (some (.d (baseD st rs))) B5 (some (.d (.list ((parts rs).map PyData.str)))) (some (.d T)) (some (.d (.list (ts.map Tm.d)))) (some (.d (.tuple (hs.map PyData.str)))) a10 none none none) :=
      call_ok (rs := [.own (.d (baseD st rs))]) rfl ek
    unfold anyI
    rw [tup_ok (ts := [.tuple (ks.map PyData.str), .tuple (hs.map PyData.str), .tuple (([] : List Str).map PyData.str)]) (a_ok c (a_ok (r := .own (.d (.tuple (hs.map PyData.str)))) rfl (a_ok (r := .own (.d (.tuple []))) rfl n_ok))) (show 3 ≤ sizeLine by decide)]
    rfl
  obtain ⟨fr', e10, _, b10, rfl⟩ := for_ok (tgt := nmT [0] 10) (body := iffF (notF (tstF (callF G__law_all_meet (consF true (datF 10) (consF true (datF 8) nilF))))) (retF (cF (.bool false))) nxF) w3
    (fun us fr => (∀ u ∈ us, ∃ l : List Str, u = .tuple (l.map PyData.str) ∧ (∀ w ∈ l, PyData.strOk w = true) ∧ l.length ≤ 1000) ∧ ∃ b10, fr = fL s o4 a2 (some W) (some (.d (baseD st rs))) B5 (some (.d (.list ((parts rs).map PyData.str)))) (some (.d T)) (some (.d (.list (ts.map Tm.d)))) (some (.d (.tuple (hs.map PyData.str)))) b10 none none none)
    ⟨fun u m => by
      simp only [List.mem_cons, List.not_mem_nil, or_false] at m
      rcases m with e | e | e
      · exact ⟨ks, e, fun w m => (ko w m).ok, by omega⟩
      · exact ⟨hs, e, hok, hlen⟩
      · exact ⟨[], e, (fun _ m => nomatch m), by decide⟩, a10, rfl⟩ (by
      rintro u us fr ⟨hu, b10, rfl⟩
      obtain ⟨l, rfl, lo, ll⟩ := hu u List.mem_cons_self
      refine ⟨fL s o4 a2 (some W) (some (.d (baseD st rs))) B5 (some (.d (.list ((parts rs).map PyData.str)))) (some (.d T)) (some (.d (.list (ts.map Tm.d)))) (some (.d (.tuple (hs.map PyData.str)))) (some (.d (.tuple (l.map PyData.str)))) none none none, fL s o4 a2 (some W) (some (.d (baseD st rs))) B5 (some (.d (.list ((parts rs).map PyData.str)))) (some (.d T)) (some (.d (.list (ts.map Tm.d)))) (some (.d (.tuple (hs.map PyData.str)))) (some (.d (.tuple (l.map PyData.str)))) none none none, rfl, ?_, fun u m => hu u (List.mem_cons_of_mem _ m), _, rfl⟩
      have c : callF G__law_all_meet (consF true (datF 10) (consF true (datF 8) nilF)) (fL s o4 a2 (some W) (some (.d (baseD st rs))) B5 (some (.d (.list ((parts rs).map PyData.str)))) (some (.d T)) (some (.d (.list (ts.map Tm.d)))) (some (.d (.tuple (hs.map PyData.str)))) (some (.d (.tuple (l.map PyData.str)))) none none none) = some (.own (.d (.bool true)), fL s o4 a2 (some W) (some (.d (baseD st rs))) B5 (some (.d (.list ((parts rs).map PyData.str)))) (some (.d T)) (some (.d (.list (ts.map Tm.d)))) (some (.d (.tuple (hs.map PyData.str)))) (some (.d (.tuple (l.map PyData.str)))) none none none) :=
        call_ok (rs := [.own (.d (.tuple (l.map PyData.str))), .own (.d (.list (ts.map Tm.d)))]) rfl (all_meet_ok lo ll ts tok)
      rw [if_false' (fr1 := fL s o4 a2 (some W) (some (.d (baseD st rs))) B5 (some (.d (.list ((parts rs).map PyData.str)))) (some (.d T)) (some (.d (.list (ts.map Tm.d)))) (some (.d (.tuple (hs.map PyData.str)))) (some (.d (.tuple (l.map PyData.str)))) none none none) (by unfold notF; rw [tst_ok c]; rfl)]
      rfl)
  refine ⟨o4, some W, some (.d (baseD st rs)), B5, some (.d (.list ((parts rs).map PyData.str))), some (.d T), some (.d (.list (ts.map Tm.d))), some (.d (.tuple (hs.map PyData.str))), b10, none, none, none, ?_, d4⟩
  show turnL _ = _
  unfold turnL tail1
  rw [seq_nx s3, seq_nx s4, seq_nx s5, seq_nx s6, seq_nx s7, seq_nx i1, seq_nx s8, seq_nx e9, seq_nx e10]
  have tf : tstF (bin true (two (eqA true)) (opF (one reprO) (consF true (callF G_phantom (consF true (datF 4) nilF)) nilF)) (opF (one reprO) (consF true (datF 7) nilF))) (fL s o4 a2 (some W) (some (.d (baseD st rs))) B5 (some (.d (.list ((parts rs).map PyData.str)))) (some (.d T)) (some (.d (.list (ts.map Tm.d)))) (some (.d (.tuple (hs.map PyData.str)))) b10 none none none) =
      some (false, fL s o4 a2 (some W) (some (.d (baseD st rs))) B5 (some (.d (.list ((parts rs).map PyData.str)))) (some (.d T)) (some (.d (.list (ts.map Tm.d)))) (some (.d (.tuple (hs.map PyData.str)))) b10 none none none) :=
    tst_ok (bin_dd (repr_ok (ph _ rfl) rfl rfl m1) (repr_ok (r := .own (.d T)) rfl rfl rfl m1) ne_same)
  rw [if_false' tf]
  rfl
theorem G_true (ns : List Int) (h : ns.length ≤ 63) : ∃ os', G_law [.sc ns] = some (.d (.bool true), os') := by
  obtain ⟨o, e1, d⟩ := deck_ok ns h
  have s1 : setF [0] 1 (callF G__law_deck (consF true (refF 0) nilF)) (some (.sc ns) :: List.replicate 13 none) = some (.nx, fL (.sc ns) o none none none none none none none none none none none none) := by
    have c : callF G__law_deck (consF true (refF 0) nilF) (some (.sc ns) :: List.replicate 13 none) = some (.own o, some (.sc ns) :: List.replicate 13 none) := (call_ok (G := GDeck) (fs := consF true (refF 0) nilF) (fr := some (.sc ns) :: List.replicate 13 none) (rs := [.ref 0 (.sc ns)]) rfl e1).trans rfl
    exact (set_ok c (by decide)).trans rfl
  obtain ⟨fr', e2, o2, m, a2, a3, a4, a5, a6, a7, a8, a9, a10, a11, a12, a13, d2, hm, rfl⟩ := for_ok (it := rng1 (consF true (cF (.int 4)) nilF)) (tgt := nmT [0] 2) (body := turnL) (fr := fL (.sc ns) o none none none none none none none none none none none none) (fr1 := fL (.sc ns) o none none none none none none none none none none none none) (ts := Bv.intsFrom 0 4) rfl
    (fun us fr => ∃ (o2 : O) (m : Nat) (a2 a3 a4 a5 a6 a7 a8 a9 a10 a11 a12 a13 : Option O), Dk m o2 ∧ m + 200 * us.length ≤ 1000 ∧ fr = fL (.sc ns) o2 a2 a3 a4 a5 a6 a7 a8 a9 a10 a11 a12 a13)
    ⟨o, 0, none, none, none, none, none, none, none, none, none, none, none, none, d, by rw [ints_len]; decide, rfl⟩ (by
      rintro u us fr ⟨o2, m, a2, a3, a4, a5, a6, a7, a8, a9, a10, a11, a12, a13, d2, hm, rfl⟩
      have hm : m + 200 * (us.length + 1) ≤ 1000 := hm
      obtain ⟨o3, b3, b4, b5, b6, b7, b8, b9, b10, b11, b12, b13, e, d3⟩ := turnL_ok (s := .sc ns) d2 (by omega) (some (.d u)) a3 a4 a5 a6 a7 a8 a9 a10 a11 a12 a13
      exact ⟨fL (.sc ns) o2 (some (.d u)) a3 a4 a5 a6 a7 a8 a9 a10 a11 a12 a13, _, rfl, e, o3, m + 200, _, _, _, _, _, _, _, _, _, _, _, _, d3, by omega, rfl⟩)
  refine ⟨_, g_rt (os := [.sc ns]) (o := .d (.bool true)) (fr := fL (.sc ns) o2 a2 a3 a4 a5 a6 a7 a8 a9 a10 a11 a12 a13) rfl ?_⟩
  show b_law (some (.sc ns) :: List.replicate 13 none) = _
  unfold b_law
  rw [seq_nx s1, seq_nx e2]
  rfl
end K12
set_option Elab.async false
set_option linter.all false
set_option maxRecDepth 100000
set_option maxHeartbeats 16000000
namespace K12
open PySem PySem.Spec PyProof.Rows L2 Bv
/-- what the top has written -/
theorem all_mk {l : PySem.W.OpenLaw} {w : World} {K : PySem.W.Frag} {h : Heap} {mg : Str → Option Value} {fa : Addr} (X : K.In h) (G : h.Ns mainGlobals mg) (hfa : mg "law" = some (.ref fa))
    {f0 : Addr} {od0 an0 : Option Addr} {sl0 : Array (Option Value)} {oc0 kV0 dc0 pm0 cd0 ct0 : Value} {f1 : Addr} {od1 an1 : Option Addr} {sl1 : Array (Option Value)} {oc1 kV1 dc1 pm1 cd1 ct1 : Value} {f2 : Addr} {od2 an2 : Option Addr} {sl2 : Array (Option Value)} {oc2 kV2 dc2 pm2 cd2 ct2 : Value} {f3 : Addr} {od3 an3 : Option Addr} {sl3 : Array (Option Value)} {oc3 kV3 dc3 pm3 cd3 ct3 : Value} {f4 : Addr} {od4 an4 : Option Addr} {sl4 : Array (Option Value)} {oc4 kV4 dc4 pm4 cd4 ct4 : Value} {f5 : Addr} {od5 an5 : Option Addr} {sl5 : Array (Option Value)} {oc5 kV5 dc5 pm5 cd5 ct5 : Value} {f6 : Addr} {od6 an6 : Option Addr} {sl6 : Array (Option Value)} {oc6 kV6 dc6 pm6 cd6 ct6 : Value} {f7 : Addr} {od7 an7 : Option Addr} {sl7 : Array (Option Value)} {oc7 kV7 dc7 pm7 cd7 ct7 : Value} {f8 : Addr} {od8 an8 : Option Addr} {sl8 : Array (Option Value)} {oc8 kV8 dc8 pm8 cd8 ct8 : Value} {f9 : Addr} {od9 an9 : Option Addr} {sl9 : Array (Option Value)} {oc9 kV9 dc9 pm9 cd9 ct9 : Value} {f10 : Addr} {od10 an10 : Option Addr} {sl10 : Array (Option Value)} {oc10 kV10 dc10 pm10 cd10 ct10 : Value} {f11 : Addr} {od11 an11 : Option Addr} {sl11 : Array (Option Value)} {oc11 kV11 dc11 pm11 cd11 ct11 : Value} {f12 : Addr} {od12 an12 : Option Addr} {sl12 : Array (Option Value)} {oc12 kV12 dc12 pm12 cd12 ct12 : Value} {f13 : Addr} {od13 an13 : Option Addr} {sl13 : Array (Option Value)} {oc13 kV13 dc13 pm13 cd13 ct13 : Value} {f14 : Addr} {od14 an14 : Option Addr} {sl14 : Array (Option Value)} {oc14 kV14 dc14 pm14 cd14 ct14 : Value} {f15 : Addr} {od15 an15 : Option Addr} {sl15 : Array (Option Value)} {oc15 kV15 dc15 pm15 cd15 ct15 : Value} {f16 : Addr} {od16 an16 : Option Addr} {sl16 : Array (Option Value)} {oc16 kV16 dc16 pm16 cd16 ct16 : Value} {f17 : Addr} {od17 an17 : Option Addr} {sl17 : Array (Option Value)} {oc17 kV17 dc17 pm17 cd17 ct17 : Value} {f18 : Addr} {od18 an18 : Option Addr} {sl18 : Array (Option Value)} {oc18 kV18 dc18 pm18 cd18 ct18 : Value} {tk_LETTERS : Tok} {tk_LONGEST : Tok} {tk_WORD_rules : Tok} {tk_LEAD : Tok} {tk_PART : Tok} {tk_AFTER : Tok} {tk_WORD_terminals : Tok} {r_NAME : Addr} {tk_NAME_0 : Tok} {n_NAME : Nat} {d_NAME : Option Addr} {s_NAME : Array (Option Value)}
    (a0 : PySem.W.nsIn K mainGlobals "is_of" = some (some (.ref f0))) (l0 : K.lookup f0 = some ⟨oc0, od0, .func (PySem.W.fnOf "is_of" "is_of" (defArgs st_is_of) (defBody st_is_of) (defScope st_is_of) .none kV0 dc0 pm0 an0 cd0 ct0), sl0⟩) (c0 : PySem.W.codeIn K cd0 "is_of" = true) (k0 : PySem.W.keepIn K (.ref f0) = true) (a1 : PySem.W.nsIn K mainGlobals "is_name" = some (some (.ref f1))) (l1 : K.lookup f1 = some ⟨oc1, od1, .func (PySem.W.fnOf "is_name" "is_name" (defArgs st_is_name) (defBody st_is_name) (defScope st_is_name) .none kV1 dc1 pm1 an1 cd1 ct1), sl1⟩) (c1 : PySem.W.codeIn K cd1 "is_name" = true) (k1 : PySem.W.keepIn K (.ref f1) = true) (a2 : PySem.W.nsIn K mainGlobals "words_told" = some (some (.ref f2))) (l2 : K.lookup f2 = some ⟨oc2, od2, .func (PySem.W.fnOf "words_told" "words_told" (defArgs st_words_told) (defBody st_words_told) (defScope st_words_told) .none kV2 dc2 pm2 an2 cd2 ct2), sl2⟩) (c2 : PySem.W.codeIn K cd2 "words_told" = true) (k2 : PySem.W.keepIn K (.ref f2) = true) (a3 : PySem.W.nsIn K mainGlobals "kept_words" = some (some (.ref f3))) (l3 : K.lookup f3 = some ⟨oc3, od3, .func (PySem.W.fnOf "kept_words" "kept_words" (defArgs st_kept_words) (defBody st_kept_words) (defScope st_kept_words) .none kV3 dc3 pm3 an3 cd3 ct3), sl3⟩) (c3 : PySem.W.codeIn K cd3 "kept_words" = true) (k3 : PySem.W.keepIn K (.ref f3) = true) (a4 : PySem.W.nsIn K mainGlobals "parts_of" = some (some (.ref f4))) (l4 : K.lookup f4 = some ⟨oc4, od4, .func (PySem.W.fnOf "parts_of" "parts_of" (defArgs st_parts_of) (defBody st_parts_of) (defScope st_parts_of) .none kV4 dc4 pm4 an4 cd4 ct4), sl4⟩) (c4 : PySem.W.codeIn K cd4 "parts_of" = true) (k4 : PySem.W.keepIn K (.ref f4) = true) (a5 : PySem.W.nsIn K mainGlobals "phantom" = some (some (.ref f5))) (l5 : K.lookup f5 = some ⟨oc5, od5, .func (PySem.W.fnOf "phantom" "phantom" (defArgs st_phantom) (defBody st_phantom) (defScope st_phantom) .none kV5 dc5 pm5 an5 cd5 ct5), sl5⟩) (c5 : PySem.W.codeIn K cd5 "phantom" = true) (k5 : PySem.W.keepIn K (.ref f5) = true) (a6 : PySem.W.nsIn K mainGlobals "is_free" = some (some (.ref f6))) (l6 : K.lookup f6 = some ⟨oc6, od6, .func (PySem.W.fnOf "is_free" "is_free" (defArgs st_is_free) (defBody st_is_free) (defScope st_is_free) .none kV6 dc6 pm6 an6 cd6 ct6), sl6⟩) (c6 : PySem.W.codeIn K cd6 "is_free" = true) (k6 : PySem.W.keepIn K (.ref f6) = true) (a7 : PySem.W.nsIn K mainGlobals "do_meet" = some (some (.ref f7))) (l7 : K.lookup f7 = some ⟨oc7, od7, .func (PySem.W.fnOf "do_meet" "do_meet" (defArgs st_do_meet) (defBody st_do_meet) (defScope st_do_meet) .none kV7 dc7 pm7 an7 cd7 ct7), sl7⟩) (c7 : PySem.W.codeIn K cd7 "do_meet" = true) (k7 : PySem.W.keepIn K (.ref f7) = true) (a8 : PySem.W.nsIn K mainGlobals "_law_deck" = some (some (.ref f8))) (l8 : K.lookup f8 = some ⟨oc8, od8, .func (PySem.W.fnOf "_law_deck" "_law_deck" (defArgs st__law_deck) (defBody st__law_deck) (defScope st__law_deck) .none kV8 dc8 pm8 an8 cd8 ct8), sl8⟩) (c8 : PySem.W.codeIn K cd8 "_law_deck" = true) (k8 : PySem.W.keepIn K (.ref f8) = true) (a9 : PySem.W.nsIn K mainGlobals "_law_draw" = some (some (.ref f9))) (l9 : K.lookup f9 = some ⟨oc9, od9, .func (PySem.W.fnOf "_law_draw" "_law_draw" (defArgs st__law_draw) (defBody st__law_draw) (defScope st__law_draw) .none kV9 dc9 pm9 an9 cd9 ct9), sl9⟩) (c9 : PySem.W.codeIn K cd9 "_law_draw" = true) (k9 : PySem.W.keepIn K (.ref f9) = true) (a10 : PySem.W.nsIn K mainGlobals "_law_pick" = some (some (.ref f10))) (l10 : K.lookup f10 = some ⟨oc10, od10, .func (PySem.W.fnOf "_law_pick" "_law_pick" (defArgs st__law_pick) (defBody st__law_pick) (defScope st__law_pick) .none kV10 dc10 pm10 an10 cd10 ct10), sl10⟩) (c10 : PySem.W.codeIn K cd10 "_law_pick" = true) (k10 : PySem.W.keepIn K (.ref f10) = true) (a11 : PySem.W.nsIn K mainGlobals "_law_called" = some (some (.ref f11))) (l11 : K.lookup f11 = some ⟨oc11, od11, .func (PySem.W.fnOf "_law_called" "_law_called" (defArgs st__law_called) (defBody st__law_called) (defScope st__law_called) .none kV11 dc11 pm11 an11 cd11 ct11), sl11⟩) (c11 : PySem.W.codeIn K cd11 "_law_called" = true) (k11 : PySem.W.keepIn K (.ref f11) = true) (a12 : PySem.W.nsIn K mainGlobals "_law_rule" = some (some (.ref f12))) (l12 : K.lookup f12 = some ⟨oc12, od12, .func (PySem.W.fnOf "_law_rule" "_law_rule" (defArgs st__law_rule) (defBody st__law_rule) (defScope st__law_rule) .none kV12 dc12 pm12 an12 cd12 ct12), sl12⟩) (c12 : PySem.W.codeIn K cd12 "_law_rule" = true) (k12 : PySem.W.keepIn K (.ref f12) = true) (a13 : PySem.W.nsIn K mainGlobals "_law_base" = some (some (.ref f13))) (l13 : K.lookup f13 = some ⟨oc13, od13, .func (PySem.W.fnOf "_law_base" "_law_base" (defArgs st__law_base) (defBody st__law_base) (defScope st__law_base) .none kV13 dc13 pm13 an13 cd13 ct13), sl13⟩) (c13 : PySem.W.codeIn K cd13 "_law_base" = true) (k13 : PySem.W.keepIn K (.ref f13) = true) (a14 : PySem.W.nsIn K mainGlobals "_law_is_open" = some (some (.ref f14))) (l14 : K.lookup f14 = some ⟨oc14, od14, .func (PySem.W.fnOf "_law_is_open" "_law_is_open" (defArgs st__law_is_open) (defBody st__law_is_open) (defScope st__law_is_open) .none kV14 dc14 pm14 an14 cd14 ct14), sl14⟩) (c14 : PySem.W.codeIn K cd14 "_law_is_open" = true) (k14 : PySem.W.keepIn K (.ref f14) = true) (a15 : PySem.W.nsIn K mainGlobals "_law_meets" = some (some (.ref f15))) (l15 : K.lookup f15 = some ⟨oc15, od15, .func (PySem.W.fnOf "_law_meets" "_law_meets" (defArgs st__law_meets) (defBody st__law_meets) (defScope st__law_meets) .none kV15 dc15 pm15 an15 cd15 ct15), sl15⟩) (c15 : PySem.W.codeIn K cd15 "_law_meets" = true) (k15 : PySem.W.keepIn K (.ref f15) = true) (a16 : PySem.W.nsIn K mainGlobals "_law_terminals" = some (some (.ref f16))) (l16 : K.lookup f16 = some ⟨oc16, od16, .func (PySem.W.fnOf "_law_terminals" "_law_terminals" (defArgs st__law_terminals) (defBody st__law_terminals) (defScope st__law_terminals) .none kV16 dc16 pm16 an16 cd16 ct16), sl16⟩) (c16 : PySem.W.codeIn K cd16 "_law_terminals" = true) (k16 : PySem.W.keepIn K (.ref f16) = true) (a17 : PySem.W.nsIn K mainGlobals "_law_all_meet" = some (some (.ref f17))) (l17 : K.lookup f17 = some ⟨oc17, od17, .func (PySem.W.fnOf "_law_all_meet" "_law_all_meet" (defArgs st__law_all_meet) (defBody st__law_all_meet) (defScope st__law_all_meet) .none kV17 dc17 pm17 an17 cd17 ct17), sl17⟩) (c17 : PySem.W.codeIn K cd17 "_law_all_meet" = true) (k17 : PySem.W.keepIn K (.ref f17) = true) (a18 : PySem.W.nsIn K mainGlobals "law" = some (some (.ref f18))) (l18 : K.lookup f18 = some ⟨oc18, od18, .func (PySem.W.fnOf "law" "law" (defArgs st_law) (defBody st_law) (defScope st_law) .none kV18 dc18 pm18 an18 cd18 ct18), sl18⟩) (c18 : PySem.W.codeIn K cd18 "law" = true) (k18 : PySem.W.keepIn K (.ref f18) = true) (z_isinstance : PySem.W.nsIn K mainGlobals "isinstance" = some none) (z_str : PySem.W.nsIn K mainGlobals "str" = some none) (z_len : PySem.W.nsIn K mainGlobals "len" = some none) (z_all : PySem.W.nsIn K mainGlobals "all" = some none) (z_tuple : PySem.W.nsIn K mainGlobals "tuple" = some none) (z_sorted : PySem.W.nsIn K mainGlobals "sorted" = some none) (z_list : PySem.W.nsIn K mainGlobals "list" = some none) (z_range : PySem.W.nsIn K mainGlobals "range" = some none) (z_repr : PySem.W.nsIn K mainGlobals "repr" = some none) (z_set : PySem.W.nsIn K mainGlobals "set" = some none) (g_LETTERS : PySem.W.nsIn K mainGlobals "LETTERS" = some (some (.str "abcdefghijklmnopqrstuvwxyz" tk_LETTERS))) (g_LONGEST : PySem.W.nsIn K mainGlobals "LONGEST" = some (some (.int 6 tk_LONGEST))) (g_WORD_rules : PySem.W.nsIn K mainGlobals "WORD_rules" = some (some (.str "word" tk_WORD_rules))) (g_LEAD : PySem.W.nsIn K mainGlobals "LEAD" = some (some (.str "lead" tk_LEAD))) (g_PART : PySem.W.nsIn K mainGlobals "PART" = some (some (.str "part" tk_PART))) (g_AFTER : PySem.W.nsIn K mainGlobals "AFTER" = some (some (.str "after" tk_AFTER))) (g_WORD_terminals : PySem.W.nsIn K mainGlobals "WORD_terminals" = some (some (.str "word" tk_WORD_terminals))) (g_NAME : PySem.W.nsIn K mainGlobals "NAME" = some (some (.ref r_NAME))) (h_NAME : K.lookup r_NAME = some ⟨.type "tuple", d_NAME, .seq #[.str "name" tk_NAME_0] n_NAME, s_NAME⟩) :
    ∃ fd : FuncData, (∀ (s : Shared) (v : Value), BindsTo s fd ⟨[v], []⟩ [("_law_script", v)]) ∧ ∀ base : Heap, K.In base → base.Ns mainGlobals mg → FnG l.prog w K mg base 6 fa fd ["_law_script"] (SpF K 1 G_law) := by
  have e := hfa.symm.trans (PySem.W.mg_of X G a18)
  cases e
  have c_LETTERS : GC K mg "LETTERS" t_LETTERS := ⟨.str _, _, PySem.W.mg_of X G g_LETTERS, ⟨_, rfl⟩, fun _ => .str _⟩
  have c_LONGEST : GC K mg "LONGEST" t_LONGEST := ⟨.int _, _, PySem.W.mg_of X G g_LONGEST, ⟨_, rfl⟩, fun _ => .int _⟩
  have c_WORD_rules : GC K mg "WORD_rules" t_WORD_rules := ⟨.str _, _, PySem.W.mg_of X G g_WORD_rules, ⟨_, rfl⟩, fun _ => .str _⟩
  have c_LEAD : GC K mg "LEAD" t_LEAD := ⟨.str _, _, PySem.W.mg_of X G g_LEAD, ⟨_, rfl⟩, fun _ => .str _⟩
  have c_PART : GC K mg "PART" t_PART := ⟨.str _, _, PySem.W.mg_of X G g_PART, ⟨_, rfl⟩, fun _ => .str _⟩
  have c_AFTER : GC K mg "AFTER" t_AFTER := ⟨.str _, _, PySem.W.mg_of X G g_AFTER, ⟨_, rfl⟩, fun _ => .str _⟩
  have c_WORD_terminals : GC K mg "WORD_terminals" t_WORD_terminals := ⟨.str _, _, PySem.W.mg_of X G g_WORD_terminals, ⟨_, rfl⟩, fun _ => .str _⟩
  have c_NAME : GC K mg "NAME" t_NAME := ⟨.ref r_NAME, _, PySem.W.mg_of X G g_NAME, rfl, fun _ => .tup (vs := [.str "name"]) (.inr ⟨_, _, _, h_NAME, rfl, rfl, show 1 ≤ sizeLine by decide, (.cons ⟨_, rfl⟩ .nil)⟩) (.cons (.str _) .nil)⟩
  have z_isinstance := PySem.W.mg_none_of X G z_isinstance
  have z_str := PySem.W.mg_none_of X G z_str
  have z_len := PySem.W.mg_none_of X G z_len
  have z_all := PySem.W.mg_none_of X G z_all
  have z_tuple := PySem.W.mg_none_of X G z_tuple
  have z_sorted := PySem.W.mg_none_of X G z_sorted
  have z_list := PySem.W.mg_none_of X G z_list
  have z_range := PySem.W.mg_none_of X G z_range
  have z_repr := PySem.W.mg_none_of X G z_repr
  have z_set := PySem.W.mg_none_of X G z_set
  have F0 := fun_mk (st := st_is_of) l0 c0 k0
  have m0 := PySem.W.mg_of X G a0
  have F1 := fun_mk (st := st_is_name) l1 c1 k1
  have m1 := PySem.W.mg_of X G a1
  have F2 := fun_mk (st := st_words_told) l2 c2 k2
  have m2 := PySem.W.mg_of X G a2
  have F3 := fun_mk (st := st_kept_words) l3 c3 k3
  have m3 := PySem.W.mg_of X G a3
  have F4 := fun_mk (st := st_parts_of) l4 c4 k4
  have m4 := PySem.W.mg_of X G a4
  have F5 := fun_mk (st := st_phantom) l5 c5 k5
  have m5 := PySem.W.mg_of X G a5
  have F6 := fun_mk (st := st_is_free) l6 c6 k6
  have m6 := PySem.W.mg_of X G a6
  have F7 := fun_mk (st := st_do_meet) l7 c7 k7
  have m7 := PySem.W.mg_of X G a7
  have F8 := fun_mk (st := st__law_deck) l8 c8 k8
  have m8 := PySem.W.mg_of X G a8
  have F9 := fun_mk (st := st__law_draw) l9 c9 k9
  have m9 := PySem.W.mg_of X G a9
  have F10 := fun_mk (st := st__law_pick) l10 c10 k10
  have m10 := PySem.W.mg_of X G a10
  have F11 := fun_mk (st := st__law_called) l11 c11 k11
  have m11 := PySem.W.mg_of X G a11
  have F12 := fun_mk (st := st__law_rule) l12 c12 k12
  have m12 := PySem.W.mg_of X G a12
  have F13 := fun_mk (st := st__law_base) l13 c13 k13
  have m13 := PySem.W.mg_of X G a13
  have F14 := fun_mk (st := st__law_is_open) l14 c14 k14
  have m14 := PySem.W.mg_of X G a14
  have F15 := fun_mk (st := st__law_meets) l15 c15 k15
  have m15 := PySem.W.mg_of X G a15
  have F16 := fun_mk (st := st__law_terminals) l16 c16 k16
  have m16 := PySem.W.mg_of X G a16
  have F17 := fun_mk (st := st__law_all_meet) l17 c17 k17
  have m17 := PySem.W.mg_of X G a17
  have F18 := fun_mk (st := st_law) l18 c18 k18
  have m18 := PySem.W.mg_of X G a18
  refine ⟨PySem.W.fnOf "law" "law" (defArgs st_law) (defBody st_law) (defScope st_law) .none kV18 dc18 pm18 an18 cd18 ct18, fun s v => .of_eq rfl, fun base _ _ => ?_⟩
  have d_is_of := ok_is_of (P := l.prog) (w := w) (base := base) F0 m0 z_isinstance z_str z_len z_all
  have d_is_name := ok_is_name (P := l.prog) (w := w) (base := base) F1 m1 c_LETTERS c_LONGEST d_is_of
  have d_words_told := ok_words_told (P := l.prog) (w := w) (base := base) F2 m2 c_WORD_rules
  have d_kept_words := ok_kept_words (P := l.prog) (w := w) (base := base) F3 m3 z_tuple z_sorted d_words_told d_is_name
  have d_parts_of := ok_parts_of (P := l.prog) (w := w) (base := base) F4 m4 z_tuple z_sorted
  have d_phantom := ok_phantom (P := l.prog) (w := w) (base := base) F5 m5 z_tuple c_LEAD c_PART c_AFTER d_parts_of
  have k_phantom_base : FctK l.prog w K mg base 2 "phantom" ["base"] ["base"] [0] 1 G_phantom := ⟨_, _, m5, F5.kp, ⟨fun s ws _ hl => match ws, hl with | [_], _ => .of_eq (by first | rfl | with_unfolding_all rfl)⟩, p_phantom (P := l.prog) (w := w) (base := base) F5 m5 z_tuple c_LEAD c_PART c_AFTER d_parts_of⟩
  have d_is_free := ok_is_free (P := l.prog) (w := w) (base := base) F6 m6 c_WORD_terminals d_is_name
  have d_do_meet := ok_do_meet (P := l.prog) (w := w) (base := base) F7 m7 c_NAME d_is_free
  have k_do_meet_other_one_kept : FctK l.prog w K mg base 4 "do_meet" ["kept", "one", "other"] ["other", "one", "kept"] [2, 1, 0] 3 G_do_meet := ⟨_, _, m7, F7.kp, ⟨fun s ws _ hl => match ws, hl with | [_, _, _], _ => .of_eq (by first | rfl | with_unfolding_all rfl)⟩, p_do_meet (P := l.prog) (w := w) (base := base) F7 m7 c_NAME d_is_free⟩
  have d__law_deck := ok__law_deck (P := l.prog) (w := w) (base := base) F8 m8 z_list
  have d__law_draw := ok__law_draw (P := l.prog) (w := w) (base := base) F9 m9
  have d__law_pick := ok__law_pick (P := l.prog) (w := w) (base := base) F10 m10 z_len d__law_draw
  have d__law_called := ok__law_called (P := l.prog) (w := w) (base := base) F11 m11 z_range d__law_draw
  have d__law_rule := ok__law_rule (P := l.prog) (w := w) (base := base) F12 m12 z_tuple
  have d__law_base := ok__law_base (P := l.prog) (w := w) (base := base) F13 m13 z_len z_range z_tuple d__law_draw d__law_pick d__law_rule
  have d__law_is_open := ok__law_is_open (P := l.prog) (w := w) (base := base) F14 m14
  have d__law_meets := ok__law_meets (P := l.prog) (w := w) (base := base) F15 m15 d__law_is_open
  have d__law_terminals := ok__law_terminals (P := l.prog) (w := w) (base := base) F16 m16 z_range d__law_pick
  have d__law_all_meet := ok__law_all_meet (P := l.prog) (w := w) (base := base) F17 m17 z_repr d__law_meets d_do_meet k_do_meet_other_one_kept
  exact p_law F18 m18 z_range z_repr z_sorted z_set z_tuple d__law_deck d__law_called d__law_base d_phantom d__law_terminals d__law_draw d_kept_words d__law_all_meet k_phantom_base
end K12
open PySem PySem.W PyProof.Rows
set_option maxHeartbeats 0 in
theorem PySem.Challenge.cw_strangerwords_k12_phantoms_and_what_meet_holds : PySem.Challenge.rw_strangerwords_k12_phantoms_and_what_meet.Holds := by
  w_on; o_law; k_head; (case hw => w_witness2)
  k_fill
  refine Bv.walk_ofG (l := PySem.Challenge.rw_strangerwords_k12_phantoms_and_what_meet) (n := 63) (k := 6) (x := "_law_script") (G := fun _ _ => K12.G_law) rfl (by decide) rfl ⟨rfl, by decide, by decide⟩ (fun w h Y => PySem.W.kIn_of Y) ?F (fun _ ns hl => K12.G_true ns hl)
  case F =>
    intro w mg fa h KX G hmg
    refine' K12.all_mk KX G hmg ?a0 ?l0 ?c0 ?k0 ?a1 ?l1 ?c1 ?k1 ?a2 ?l2 ?c2 ?k2 ?a3 ?l3 ?c3 ?k3 ?a4 ?l4 ?c4 ?k4 ?a5 ?l5 ?c5 ?k5 ?a6 ?l6 ?c6 ?k6 ?a7 ?l7 ?c7 ?k7 ?a8 ?l8 ?c8 ?k8 ?a9 ?l9 ?c9 ?k9 ?a10 ?l10 ?c10 ?k10 ?a11 ?l11 ?c11 ?k11 ?a12 ?l12 ?c12 ?k12 ?a13 ?l13 ?c13 ?k13 ?a14 ?l14 ?c14 ?k14 ?a15 ?l15 ?c15 ?k15 ?a16 ?l16 ?c16 ?k16 ?a17 ?l17 ?c17 ?k17 ?a18 ?l18 ?c18 ?k18 ?z_isinstance ?z_str ?z_len ?z_all ?z_tuple ?z_sorted ?z_list ?z_range ?z_repr ?z_set ?g_LETTERS ?g_LONGEST ?g_WORD_rules ?g_LEAD ?g_PART ?g_AFTER ?g_WORD_terminals ?g_NAME ?h_NAME
    (case a0 => k_is)
    (case l0 => k_is)
    (case c0 => k_is)
    (case k0 => k_is)
    (case a1 => k_is)
    (case l1 => k_is)
    (case c1 => k_is)
    (case k1 => k_is)
    (case a2 => k_is)
    (case l2 => k_is)
    (case c2 => k_is)
    (case k2 => k_is)
    (case a3 => k_is)
    (case l3 => k_is)
    (case c3 => k_is)
    (case k3 => k_is)
    (case a4 => k_is)
    (case l4 => k_is)
    (case c4 => k_is)
    (case k4 => k_is)
    (case a5 => k_is)
    (case l5 => k_is)
    (case c5 => k_is)
    (case k5 => k_is)
    (case a6 => k_is)
    (case l6 => k_is)
    (case c6 => k_is)
    (case k6 => k_is)
    (case a7 => k_is)
    (case l7 => k_is)
    (case c7 => k_is)
    (case k7 => k_is)
    (case a8 => k_is)
    (case l8 => k_is)
    (case c8 => k_is)
    (case k8 => k_is)
    (case a9 => k_is)
    (case l9 => k_is)
    (case c9 => k_is)
    (case k9 => k_is)
    (case a10 => k_is)
    (case l10 => k_is)
    (case c10 => k_is)
    (case k10 => k_is)
    (case a11 => k_is)
    (case l11 => k_is)
    (case c11 => k_is)
    (case k11 => k_is)
    (case a12 => k_is)
    (case l12 => k_is)
    (case c12 => k_is)
    (case k12 => k_is)
    (case a13 => k_is)
    (case l13 => k_is)
    (case c13 => k_is)
    (case k13 => k_is)
    (case a14 => k_is)
    (case l14 => k_is)
    (case c14 => k_is)
    (case k14 => k_is)
    (case a15 => k_is)
    (case l15 => k_is)
    (case c15 => k_is)
    (case k15 => k_is)
    (case a16 => k_is)
    (case l16 => k_is)
    (case c16 => k_is)
    (case k16 => k_is)
    (case a17 => k_is)
    (case l17 => k_is)
    (case c17 => k_is)
    (case k17 => k_is)
    (case a18 => k_is)
    (case l18 => k_is)
    (case c18 => k_is)
    (case k18 => k_is)
    (case z_isinstance => k_is)
    (case z_str => k_is)
    (case z_len => k_is)
    (case z_all => k_is)
    (case z_tuple => k_is)
    (case z_sorted => k_is)
    (case z_list => k_is)
    (case z_range => k_is)
    (case z_repr => k_is)
    (case z_set => k_is)
    (case g_LETTERS => k_is)
    (case g_LONGEST => k_is)
    (case g_WORD_rules => k_is)
    (case g_LEAD => k_is)
    (case g_PART => k_is)
    (case g_AFTER => k_is)
    (case g_WORD_terminals => k_is)
    (case g_NAME => k_is)
    (case h_NAME => k_is)
