import PyProof.Rows.All
import Wide.All
import OpenK.AllK
import HandS.ForMost
import KE.OsRunLaw
import Wide.FinOn
import HandS.ForExc
import HandS.AnyAll
import HandS.Wide
import HandS.StrMore
import HandS.IsInst
import HandS.Codes
import HandS.EndOwn
import HandS.ExcIs
import HandS.TryMany
import HandS.Conv
import HandS.Style
import HandS.SetBool
import HandS.SetKeys
import KE.GoesEnumKw
import KE.GoesEnum
import HandS.CallSlots
import HandS.Dict
import HandS.Text
import HandS.Deep
import PyProof.Rows.SetFrom
import HandS.FltList
import HandS.DictTup
import HandS.Iter
import KE.KExcSuper
import HandS.ExcInit
import KE.KExcIs
import HandS.ExcField
import HandS.FStr
import HandS.RaiseMore
import HandS.Zip
import KE.GoesMore
import HandS.TupLe
import HandS.Lambda
import HandS.Keys
import KE.SortKeyHeap
import KE.KSuper
import HandS.Nested
import HandS.ClsMeth
import KE.KOpsOwn
import HandS.IterVal
import HandS.OwnIter
import KE.SortData
import KE.SortLaws
import PySem.Challenge.RW_pressroots_k05_whole_kinds_nest
set_option Elab.async false
set_option linter.all false
set_option maxRecDepth 100000
namespace PZh
open PySem PySem.W PySem.Calls PyProof.Rows HeadRun
end PZh
namespace PZh
open PySem PySem.W PySem.Calls PyProof.Rows HeadRun
theorem ofF {P : Prop} (F : False) : P := F.elim
noncomputable def tt (_ : True) : Prop := True
noncomputable def P0 : Params := { strHash := fun _ => 0, shareClass := fun _ => 0, mergeTok := fun t => t, idOf := fun _ => 0, idOfShared := fun _ _ => 0, followText := fun _ => false, idOfImm := fun _ => 0 }
theorem cutL {S : Type} {o : Option S} {F : S → Addr → Option Obj} {as : List Addr} {bs : List (Option Obj)} (n : Nat) (e1 : o.map (fun s => (as.take n).map (F s)) = some (bs.take n)) (e2 : o.map (fun s => (as.drop n).map (F s)) = some (bs.drop n)) :
    o.map (fun s => as.map (F s)) = some bs := by
  cases o with
  | none => cases e1
  | some s =>
    have h1 : (as.take n).map (F s) = bs.take n := Option.some.inj e1
    have h2 : (as.drop n).map (F s) = bs.drop n := Option.some.inj e2
    show some (as.map (F s)) = some bs
    rw [← List.take_append_drop n as, List.map_append, h1, h2, List.take_append_drop]
end PZh
namespace PZh
open PySem PySem.W PySem.Calls PyProof.Rows HeadRun
noncomputable def c1 {A B : Type} (x : A × B) : A := Prod.casesOn x fun a _ => a
noncomputable def c2 {A B : Type} (x : A × B) : B := Prod.casesOn x fun _ b => b
theorem glue {S A1 A2 A3 A4 A5 A6 A7 A8 A9 C : Type} {o : Option S} {l : S → Bool} {f : S → A1 × A2 × A3 × A4 × A5 × A6 × A7 × A8 × A9} {g : S → C} {a1 : A1} {a2 : A2} {a3 : A3} {a4 : A4} {a5 : A5} {a6 : A6} {a7 : A7} {a8 : A8} {a9 : A9} {c : C}
    (e1 : o.map (fun s => (c1 (f s), c1 (c2 (f s)), c1 (c2 (c2 (c2 (c2 (c2 (c2 (f s))))))), c2 (c2 (c2 (c2 (c2 (c2 (c2 (c2 (f s))))))))  )) = some (a1, a2, a7, a9))
    (e2 : o.map (fun s => c1 (c2 (c2 (f s)))) = some a3) (e2' : o.map (fun s => c1 (c2 (c2 (c2 (f s))))) = some a4)
    (e3 : o.map (fun s => c1 (c2 (c2 (c2 (c2 (f s)))))) = some a5) (e3' : o.map (fun s => c1 (c2 (c2 (c2 (c2 (c2 (f s))))))) = some a6)
    (e4 : o.map (fun s => (c1 (c2 (c2 (c2 (c2 (c2 (c2 (c2 (f s)))))))), l s)) = some (a8, true))
    (e5 : o.map g = some c) : o.map (fun s => (l s, f s, g s)) = some (true, (a1, a2, a3, a4, a5, a6, a7, a8, a9), c) := by
  cases o with
  | none => cases e5
  | some s =>
    have h1 := Option.some.inj e1
    have h2 := Option.some.inj e2
    have h2' := Option.some.inj e2'
    have h3 := Option.some.inj e3
    have h3' := Option.some.inj e3'
    have h4 := Option.some.inj e4
    have h5 : g s = c := Option.some.inj e5
    dsimp only at h1 h2 h2' h3 h3' h4
    generalize hx : f s = x at *
    obtain ⟨x1, x2, x3, x4, x5, x6, x7, x8, x9⟩ := x
    simp only [c1, c2, Prod.mk.injEq] at h1 h2 h2' h3 h3' h4
    obtain ⟨rfl, rfl, rfl, rfl⟩ := h1
    subst h2 h2' h3 h3'
    obtain ⟨rfl, h4⟩ := h4
    show some (l s, f s, g s) = _
    rw [hx, h4, h5]
end PZh
set_option Elab.async false
set_option linter.all false
set_option maxRecDepth 100000
set_option maxHeartbeats 0
namespace HH
open PySem PySem.W PySem.Calls PyProof.Rows HeadRun
section
local macro_rules
  | `(tactic| kernel_rfl) => do
    let h := Lean.mkIdent `zzF
    `(tactic| (rename_i a b; revert a b; refine PZh.ofF ?$h))
set_option maxHeartbeats 0 in
theorem made : PZh.tt (by
  refine (?f : (OpenLaw.row PySem.Challenge.rw_pressroots_k05_whole_kinds_nest).Holds → True) ?x
  case f => exact fun _ => trivial
  case x =>
    k_headL
    all_goals exact PZh.ofF ?zzF) := trivial
end
noncomputable abbrev R : OpenRow := OpenLaw.row PySem.Challenge.rw_pressroots_k05_whole_kinds_nest
noncomputable abbrev q : Program := made.view_1
noncomputable abbrev loose : List PySem.Str := []
noncomputable def as : List Addr := (made.heap_1 PZh.P0).map (·.1)
theorem ek : ∀ P, as = (made.heap_1 P).map (·.1) := fun _ => by kernel_rfl
noncomputable abbrev Xt : Shared → Bool := fun s => xlAt q [] s && recOk (RowW.records R.toRowW) s
noncomputable abbrev H : Hook := kHook made.heap_1 as ek
noncomputable abbrev run (w : World) (os : OsState) : Option SharedT := endF (stepQ (denQ tabQ) R.prog w) 40000 R.prog w os
noncomputable abbrev f (s : SharedT) := seenQ q loose (importedModules R.prog.main.body) Xt s.abs
theorem run1 (w : World) (os : OsState) : (run w os).map (fun s => ((PZh.c1 (f s)), (PZh.c1 (PZh.c2 (f s))), (PZh.c1 (PZh.c2 (PZh.c2 (PZh.c2 (PZh.c2 (PZh.c2 (PZh.c2 (f s)))))))), (PZh.c2 (PZh.c2 (PZh.c2 (PZh.c2 (PZh.c2 (PZh.c2 (PZh.c2 (PZh.c2 (f s))))))))))) = some (expectedOf q, bltViewBooted, plainGoodD q loose, clsGoodW q loose) := by
  kernel_rfl
theorem run2 (w : World) (os : OsState) : (run w os).map (fun s => (PZh.c1 (PZh.c2 (PZh.c2 (f s))))) = some (true) := by
  kernel_rfl
theorem run3 (w : World) (os : OsState) : (run w os).map (fun s => (PZh.c1 (PZh.c2 (PZh.c2 (PZh.c2 (f s)))))) = some (true) := by
  kernel_rfl
theorem run4 (w : World) (os : OsState) : (run w os).map (fun s => (PZh.c1 (PZh.c2 (PZh.c2 (PZh.c2 (PZh.c2 (f s))))))) = some (pinGoodD (drecsOf q)) := by
  kernel_rfl
theorem run5 (w : World) (os : OsState) : (run w os).map (fun s => (PZh.c1 (PZh.c2 (PZh.c2 (PZh.c2 (PZh.c2 (PZh.c2 (f s)))))))) = some (plainGoodE q (looseW q loose)) := by
  kernel_rfl
theorem run6 (w : World) (os : OsState) : (run w os).map (fun s => ((PZh.c1 (PZh.c2 (PZh.c2 (PZh.c2 (PZh.c2 (PZh.c2 (PZh.c2 (PZh.c2 (f s))))))))), looksF R.prog (boot_heap w.params) s.abs)) = some (wideGood q, true) := by
  kernel_rfl
noncomputable abbrev bs (w : World) : List (Option Obj) := (made.heap_1 w.params).map fun x => some x.2
theorem runC1 (w : World) (os : OsState) : (run w os).map (fun s => ((as).take 50).map (getT s)) = some ((bs w).take 50) := by
  kernel_rfl
theorem runC2 (w : World) (os : OsState) : (run w os).map (fun s => ((as).drop 50).map (getT s)) = some ((bs w).drop 50) := by
  kernel_rfl
theorem left : LeftO R.prog q loose Xt (Hook.obs H) (Hook.val H) 41000 true :=
  left_oneK (M := 40000) (by kernel_rfl) (by rfl) (fun s => by kernel_rfl) (by rfl) fun w os => PZh.glue (run1 w os) (run2 w os) (run3 w os) (run4 w os) (run5 w os) (run6 w os) (PZh.cutL 50 (runC1 w os) (runC2 w os))
end HH
set_option Elab.async false
set_option linter.all false
set_option maxRecDepth 100000
set_option maxHeartbeats 1000000
/-! Pure data over the hand layer: values, mirrors, ownership. -/
namespace PD
open PySem PySem.Spec PyProof.Rows L2

/-- a dict's key -/
inductive DKey where
  | i (n : Int) | s (t : List Nat)
deriving DecidableEq
noncomputable def DKey.k : DKey → L2.Key
  | .i n => .inl n
  | .s t => .inr ⟨t.toArray⟩
inductive D where
  | non | bl (b : Bool) | int (i : Int) | str (s : List Nat) | lst (xs : List D) | tup (xs : List D) | scr (xs : List Int) | rng (lo hi : Int) | obj (c : Str) (ks : List Str) (vs : List D) | dic (ks : List DKey) (vs : List D) | dct (ks : List (List DKey)) (vs : List D)

inductive R (α : Type) where
  | ok (a : α) | err (c : Str) (fs : List (Str × D)) | stuck
noncomputable def R.bind {α β : Type} (m : R α) (f : α → R β) : R β := match m with
  | .ok a => f a
  | .err c fs => .err c fs
  | .stuck => .stuck
noncomputable instance : Monad R where
  pure := R.ok
  bind := R.bind
theorem bind_ok {α β : Type} (a : α) (f : α → R β) : (R.ok a >>= f) = f a := rfl
theorem bind_err {α β : Type} (c : Str) (fs : List (Str × D)) (f : α → R β) : ((R.err c fs : R α) >>= f) = R.err c fs := rfl
theorem bind_stuck {α β : Type} (f : α → R β) : ((R.stuck : R α) >>= f) = R.stuck := rfl

noncomputable abbrev Env := List (Option D)
inductive Fl where
  | nx (ρ : Env) | rt (d : D) | bk (ρ : Env) | ct (ρ : Env) | ex (c : Str) (fs : List (Str × D)) (ρ : Env)

/-! ### heaps -/
noncomputable def isTbl : HO → Bool
  | .tbl _ => true
  | .frz _ (.ext _) => true
  | _ => false
noncomputable def isTup : HO → Bool
  | .tup _ => true
  | _ => false
/-- no table and no tuple -/
noncomputable def isTT (o : HO) : Bool := isTbl o || isTup o
theorem tt_tbl {o : HO} (h : isTT o = false) : isTbl o = false := (Bool.or_eq_false_iff.mp h).1
theorem tt_of {o : HO} (h : isTbl o = false) (t : isTup o = false) : isTT o = false := Bool.or_eq_false_iff.mpr ⟨h, t⟩
theorem tt_tup {o : HO} (h : isTT o = false) : isTup o = false := (Bool.or_eq_false_iff.mp h).2
noncomputable instance {o : HO} : Coe (isTT o = false) (isTbl o = false) := ⟨tt_tbl⟩
/-- tuples stay -/
noncomputable def TupK (H H' : Hp) : Prop := ∀ a vs, H a = some (.tup vs) → H' a = some (.tup vs)
theorem TupK.refl {H : Hp} : TupK H H := fun _ _ h => h
theorem TupK.upd {H H0 : Hp} {p : Addr} {o u : HO} (k : TupK H H0) (hp : H0 p = some o) (t : isTup o = false) : TupK H (upd H0 p u) := fun a vs h => by
  have h0 := k a vs h
  have z : a ≠ p := fun z => by
    rw [z, hp] at h0
    cases h0
    cases t
  rw [upd_ne z]; exact h0
theorem TupK.new {H H0 : Hp} {p : Addr} {u : HO} (k : TupK H H0) (hp : H0 p = none) : TupK H (L2.upd H0 p u) := fun a vs h => by
  have h0 := k a vs h
  have z : a ≠ p := fun z => by
    rw [z, hp] at h0
    cases h0
  rw [upd_ne z]; exact h0
/-- all that was tracked is as it was, but for tables of code objects -/
noncomputable def Sm (H H' : Hp) : Prop := ∀ a o, H a = some o → isTbl o = false → H' a = some o
theorem Sm.refl (H : Hp) : Sm H H := fun _ _ h _ => h
theorem Sm.trans {H H1 H2 : Hp} (a : Sm H H1) (b : Sm H1 H2) : Sm H H2 := fun c o h n => b c o (a c o h n) n
theorem _root_.L2.Same.sm {H H' : Hp} (e : Same H H') : Sm H H' := fun a o h _ => e a o h
noncomputable def NoT (F : Hp) : Prop := ∀ a o, F a = some o → isTbl o = false
theorem Sm.same {H H' : Hp} (e : Sm H H') (n : NoT H) : Same H H' := fun a o h => e a o h (n a o h)
/-- no tracked object but, at most, a table -/
noncomputable def Nw (H : Hp) (a : Addr) : Prop := ∀ o, H a = some o → isTbl o = true
theorem Nw.of {H : Hp} {a : Addr} (h : H a = none) : Nw H a := fun o e => by rw [h] at e; cases e
theorem Nw.no {H : Hp} {a : Addr} {o : HO} (n : Nw H a) (e : H a = some o) (t : isTbl o = false) : False := by
  rw [n o e] at t; cases t
theorem Nw.back {H H' : Hp} {a : Addr} (n : Nw H' a) (e : Sm H H') : Nw H a := fun o h => by
  cases t : isTbl o with
  | true => rfl
  | false => exact (n.no (e a o h t) t).elim
theorem Nw.none {F H : Hp} {a : Addr} (n : Nw H a) (s : Same F H) (t : NoT F) : F a = Option.none := by
  cases q : F a with
  | none => rfl
  | some o => exact (n.no (s a o q) (t a o q)).elim
theorem sm_rd {H H' : Hp} {a : Addr} {u : HO} (e : Sm H H') (nu : isTbl u = false) (nf : ∀ o, isTbl (.frz o u) = false) (h : Rd H a u) : Rd H' a u := by
  rcases h with h | ⟨o, h⟩
  · exact .inl (e _ _ h nu)
  · exact .inr ⟨o, e _ _ h (nf o)⟩
theorem sm_l {K : PySem.W.Frag} {H H' : Hp} {a : Addr} {xs : List V} (e : Sm H H') (h : SqL K H a xs) : SqL K H' a xs := by
  rcases h with h | h
  · exact .inl (sm_rd e rfl (fun _ => rfl) h)
  · exact .inr h
theorem sm_t {K : PySem.W.Frag} {H H' : Hp} {a : Addr} {xs : List V} (e : Sm H H') (h : SqT K H a xs) : SqT K H' a xs := by
  rcases h with h | h
  · exact .inl (sm_rd e rfl (fun _ => rfl) h)
  · exact .inr h

/-! ### data -/
mutual
inductive Dat (K : PySem.W.Frag) (F : Hp) : V → D → Prop
  | non : Dat K F .non .non
  | bl {b : Bool} : Dat K F (.bl b) (.bl b)
  | int {i : Int} : Dat K F (.int i) (.int i)
  | str {s : List Nat} : Dat K F (.str ⟨s.toArray⟩) (.str s)
  | lst {a : Addr} {vs : List V} {ds : List D} : F a = some (.lst vs) → DatL K F vs ds → Dat K F (.ref a) (.lst ds)
  | scr {a : Addr} {ns : List Int} : SqL K F a (ns.map V.int) → Dat K F (.ref a) (.scr ns)
  | tup {a : Addr} {vs : List V} {ds : List D} : SqT K F a vs → DatL K F vs ds → Dat K F (.ref a) (.tup ds)
  | rng {a : Addr} {lo hi : Int} : F a = some (.rng lo hi) → Dat K F (.ref a) (.rng lo hi)
  | obj {a C dx : Addr} {c : Str} {ks : List Str} {us : List V} {ds : List D} : PySem.W.nsIn K mainGlobals c = some (some (.ref C)) → F a = some (.ins C dx (ks.zip us)) → ks.length = us.length → DatL K F us ds → Dat K F (.ref a) (.obj c ks ds)
  | dic {a : Addr} {ks : List DKey} {us : List V} {ds : List D} : F a = some (.dK ((ks.map DKey.k).zip us)) → ks.length = us.length → DatL K F us ds → Dat K F (.ref a) (.dic ks ds)
  | dct {a : Addr} {ks : List (List DKey)} {us : List V} {ds : List D} : F a = some (.dT ((ks.map (List.map DKey.k)).zip us)) → ks.length = us.length → DatL K F us ds → Dat K F (.ref a) (.dct ks ds)
inductive DatL (K : PySem.W.Frag) (F : Hp) : List V → List D → Prop
  | nil : DatL K F [] []
  | cons {v : V} {d : D} {vs : List V} {ds : List D} : Dat K F v d → DatL K F vs ds → DatL K F (v :: vs) (d :: ds)
end
section
variable {K : PySem.W.Frag} {F F' H H' : Hp}
mutual
theorem Dat.mono (e : Sm F F') : ∀ {v : V} {d : D}, Dat K F v d → Dat K F' v d
  | _, _, .non => .non
  | _, _, .bl => .bl
  | _, _, .int => .int
  | _, _, .str => .str
  | _, _, .lst h r => .lst (e _ _ h rfl) (DatL.mono e r)
  | _, _, .scr h => .scr (sm_l e h)
  | _, _, .tup h r => .tup (sm_t e h) (DatL.mono e r)
  | _, _, .rng h => .rng (e _ _ h rfl)
  | _, _, .obj c h l r => .obj c (e _ _ h rfl) l (DatL.mono e r)
  | _, _, .dic h l r => .dic (e _ _ h rfl) l (DatL.mono e r)
  | _, _, .dct h l r => .dct (e _ _ h rfl) l (DatL.mono e r)
theorem DatL.mono (e : Sm F F') : ∀ {vs : List V} {ds : List D}, DatL K F vs ds → DatL K F' vs ds
  | _, _, .nil => .nil
  | _, _, .cons h r => .cons (Dat.mono e h) (DatL.mono e r)
end
theorem DatL.length : ∀ {vs : List V} {ds : List D}, DatL K F vs ds → vs.length = ds.length
  | _, _, .nil => rfl
  | _, _, .cons _ r => by rw [List.length_cons, List.length_cons, DatL.length r]
theorem DatL.get : ∀ {vs : List V} {ds : List D} {i : Nat} {d : D}, DatL K F vs ds → ds[i]? = some d → ∃ v, vs[i]? = some v ∧ Dat K F v d
  | _, _, _, _, .nil, e => by simp at e
  | _, _, 0, _, .cons h _, e => by simp at e; subst e; exact ⟨_, rfl, h⟩
  | _, _, i + 1, _, .cons _ r, e => by
    obtain ⟨v, a, b⟩ := DatL.get (i := i) r (by simpa using e)
    exact ⟨v, by simpa using a, b⟩
theorem DatL.get' : ∀ {vs : List V} {ds : List D} {i : Nat} {v : V}, DatL K F vs ds → vs[i]? = some v → ∃ d, ds[i]? = some d ∧ Dat K F v d
  | _, _, _, _, .nil, e => by simp at e
  | _, _, 0, _, .cons h _, e => by simp at e; subst e; exact ⟨_, rfl, h⟩
  | _, _, i + 1, _, .cons _ r, e => by
    obtain ⟨v, a, b⟩ := DatL.get' (i := i) r (by simpa using e)
    exact ⟨v, by simpa using a, b⟩
theorem DatL.append : ∀ {vs ws : List V} {ds es : List D}, DatL K F vs ds → DatL K F ws es → DatL K F (vs ++ ws) (ds ++ es)
  | _, _, _, _, .nil, s => s
  | _, _, _, _, .cons h r, s => .cons h (DatL.append r s)
theorem DatL.take : ∀ {vs : List V} {ds : List D} (n : Nat), DatL K F vs ds → DatL K F (vs.take n) (ds.take n)
  | _, _, 0, _ => .nil
  | _, _, _ + 1, .nil => .nil
  | _, _, n + 1, .cons h r => .cons h (DatL.take n r)
theorem DatL.drop : ∀ {vs : List V} {ds : List D} (n : Nat), DatL K F vs ds → DatL K F (vs.drop n) (ds.drop n)
  | _, _, 0, r => r
  | _, _, _ + 1, .nil => .nil
  | _, _, n + 1, .cons _ r => DatL.drop n r
theorem DatL.set {v : V} {d : D} (h : Dat K F v d) : ∀ {vs : List V} {ds : List D} (i : Nat), DatL K F vs ds → DatL K F (vs.set i v) (ds.set i d)
  | _, _, _, .nil => .nil
  | _, _, 0, .cons _ r => .cons h r
  | _, _, i + 1, .cons a r => .cons a (DatL.set h i r)
end

/-! ### ownership: s shared, b borrowed, l a list of one's own, n all lists in it new -/
inductive Sh where
  | d (bw : Bool) | l (e : Sh) | n | x (v : V) (eo : Option (Addr × List (Str × V))) | i (p C dx : Addr) | q | qt | ql
noncomputable abbrev Sh.s : Sh := .d false
noncomputable abbrev Sh.b : Sh := .d true
noncomputable def Sh.noB : Sh → Bool
  | .d bw => !bw
  | .l e => e.noB
  | .n => true
  | .x _ _ => false
  | .i _ _ _ => true
  | .q => true
  | .qt => true
  | .ql => true
/-- a slot that holds just this value, whatever it is -/
noncomputable def Sh.isX : Sh → Bool
  | .x _ _ => true
  | _ => false
theorem Sh.noX {sh : Sh} (h : sh.noB = true) : sh.isX = false := by
  cases sh with
  | x _ _ => cases h
  | _ => rfl
noncomputable def isAtom : D → Bool
  | .lst _ => false
  | .tup _ => false
  | .scr _ => false
  | .rng _ _ => false
  | .obj _ _ _ => false
  | .dic _ _ => false
  | .dct _ _ => false
  | _ => true
mutual
inductive Own (K : PySem.W.Frag) (F H : Hp) : Sh → V → D → List Addr → Prop
  | d {bw : Bool} {v : V} {d : D} : Dat K (cond bw H F) v d → Own K F H (.d bw) v d []
  | l {e : Sh} {p : Addr} {vs : List V} {ds : List D} {S : List Addr} : H p = some (.lst vs) → OwnL K F H e vs ds S → Own K F H (.l e) (.ref p) (.lst ds) (p :: S)
  | na {v : V} {d : D} : isAtom d = true → Dat K F v d → Own K F H .n v d []
  | nl {p : Addr} {vs : List V} {ds : List D} {S : List Addr} : H p = some (.lst vs) → OwnL K F H .n vs ds S → Own K F H .n (.ref p) (.lst ds) (p :: S)
  | nt {p : Addr} {vs : List V} {ds : List D} {S : List Addr} : H p = some (.tup vs) → OwnL K F H .n vs ds S → Own K F H .n (.ref p) (.tup ds) S
  | i {p C dx : Addr} {c : Str} {ks : List Str} {us : List V} {ds : List D} : PySem.W.nsIn K mainGlobals c = some (some (.ref C)) → H p = some (.ins C dx (ks.zip us)) → ks.length = us.length → DatL K F us ds → Own K F H (.i p C dx) (.ref p) (.obj c ks ds) [p]
  | q {p : Addr} {ks : List DKey} {us : List V} {ds : List D} : H p = some (.dK ((ks.map DKey.k).zip us)) → ks.length = us.length → DatL K F us ds → Own K F H .q (.ref p) (.dic ks ds) [p]
  | qt {p : Addr} {ks : List (List DKey)} {us : List V} {ds : List D} : H p = some (.dT ((ks.map (List.map DKey.k)).zip us)) → ks.length = us.length → DatL K F us ds → Own K F H .qt (.ref p) (.dct ks ds) [p]
  | ql {p : Addr} {ks : List DKey} {us : List V} {ds : List D} {S : List Addr} : H p = some (.dK ((ks.map DKey.k).zip us)) → ks.length = us.length → OwnL K F H (.l (.d false)) us ds S → Own K F H .ql (.ref p) (.dic ks ds) (p :: S)
inductive OwnL (K : PySem.W.Frag) (F H : Hp) : Sh → List V → List D → List Addr → Prop
  | nil {e : Sh} : OwnL K F H e [] [] []
  | cons {e : Sh} {v : V} {d : D} {vs : List V} {ds : List D} {S S' : List Addr} : Own K F H e v d S → OwnL K F H e vs ds S' → OwnL K F H e (v :: vs) (d :: ds) (S ++ S')
end
section
variable {K : PySem.W.Frag} {F F' H H' : Hp}
mutual
theorem Own.mono (e : Sm F F') (g : Sm H H') : ∀ {sh : Sh} {v : V} {d : D} {S : List Addr}, Own K F H sh v d S → Own K F' H' sh v d S
  | _, _, _, _, .d (bw := false) h => .d (bw := false) (h.mono e)
  | _, _, _, _, .d (bw := true) h => .d (bw := true) (h.mono g)
  | _, _, _, _, .l h r => .l (g _ _ h rfl) (OwnL.mono e g r)
  | _, _, _, _, .na a h => .na a (h.mono e)
  | _, _, _, _, .nl h r => .nl (g _ _ h rfl) (OwnL.mono e g r)
  | _, _, _, _, .nt h r => .nt (g _ _ h rfl) (OwnL.mono e g r)
  | _, _, _, _, .i c h l r => .i c (g _ _ h rfl) l (r.mono e)
  | _, _, _, _, .q h l r => .q (g _ _ h rfl) l (r.mono e)
  | _, _, _, _, .qt h l r => .qt (g _ _ h rfl) l (r.mono e)
  | _, _, _, _, .ql h l r => .ql (g _ _ h rfl) l (OwnL.mono e g r)
theorem OwnL.mono (e : Sm F F') (g : Sm H H') : ∀ {sh : Sh} {vs : List V} {ds : List D} {S : List Addr}, OwnL K F H sh vs ds S → OwnL K F' H' sh vs ds S
  | _, _, _, _, .nil => .nil
  | _, _, _, _, .cons h r => .cons (Own.mono e g h) (OwnL.mono e g r)
end
mutual
/-- where only the owned addresses matter -/
theorem Own.at (e : Sm F F') (tp : TupK H H') : ∀ {sh : Sh} {v : V} {d : D} {S : List Addr}, sh.noB = true → Own K F H sh v d S → (∀ a ∈ S, H' a = H a) → Own K F' H' sh v d S
  | _, _, _, _, _, .d (bw := false) h, _ => .d (bw := false) (h.mono e)
  | _, _, _, _, n, .d (bw := true) _, _ => nomatch n
  | _, _, _, _, n, .l h r, k => .l ((k _ List.mem_cons_self).trans h) (OwnL.at e tp n r fun a m => k a (List.mem_cons_of_mem _ m))
  | _, _, _, _, _, .na a h, _ => .na a (h.mono e)
  | _, _, _, _, _, .nl h r, k => .nl ((k _ List.mem_cons_self).trans h) (OwnL.at e tp rfl r fun a m => k a (List.mem_cons_of_mem _ m))
  | _, _, _, _, _, .nt h r, k => .nt (tp _ _ h) (OwnL.at e tp rfl r k)
  | _, _, _, _, _, .i c h l r, k => .i c ((k _ List.mem_cons_self).trans h) l (r.mono e)
  | _, _, _, _, _, .q h l r, k => .q ((k _ List.mem_cons_self).trans h) l (r.mono e)
  | _, _, _, _, _, .qt h l r, k => .qt ((k _ List.mem_cons_self).trans h) l (r.mono e)
  | _, _, _, _, _, .ql h l r, k => .ql ((k _ List.mem_cons_self).trans h) l (OwnL.at e tp rfl r fun a m => k a (List.mem_cons_of_mem _ m))
theorem OwnL.at (e : Sm F F') (tp : TupK H H') : ∀ {sh : Sh} {vs : List V} {ds : List D} {S : List Addr}, sh.noB = true → OwnL K F H sh vs ds S → (∀ a ∈ S, H' a = H a) → OwnL K F' H' sh vs ds S
  | _, _, _, _, _, .nil, _ => .nil
  | _, _, _, _, n, .cons h r, k => .cons (Own.at e tp n h fun a m => k a (List.mem_append_left _ m)) (OwnL.at e tp n r fun a m => k a (List.mem_append_right _ m))
end
mutual
theorem Own.toB (e : Sm F H) : ∀ {sh : Sh} {v : V} {d : D} {S : List Addr}, Own K F H sh v d S → Dat K H v d
  | _, _, _, _, .d (bw := false) h => h.mono e
  | _, _, _, _, .d (bw := true) h => h
  | _, _, _, _, .l h r => .lst h (OwnL.toB e r)
  | _, _, _, _, .na _ h => h.mono e
  | _, _, _, _, .nl h r => .lst h (OwnL.toB e r)
  | _, _, _, _, .nt h r => .tup (SqT.of h) (OwnL.toB e r)
  | _, _, _, _, .i c h l r => .obj c h l (r.mono e)
  | _, _, _, _, .q h l r => .dic h l (r.mono e)
  | _, _, _, _, .qt h l r => .dct h l (r.mono e)
  | _, _, _, _, .ql h l r => .dic h l (OwnL.toB e r)
theorem OwnL.toB (e : Sm F H) : ∀ {sh : Sh} {vs : List V} {ds : List D} {S : List Addr}, OwnL K F H sh vs ds S → DatL K H vs ds
  | _, _, _, _, .nil => .nil
  | _, _, _, _, .cons h r => .cons (Own.toB e h) (OwnL.toB e r)
end
mutual
/-- frozen: F' has what is owned, too -/
theorem Own.frz (e : Sm F F') (tp : TupK H F') : ∀ {sh : Sh} {v : V} {d : D} {S : List Addr}, sh.noB = true → Own K F H sh v d S → (∀ a ∈ S, F' a = H a) → Dat K F' v d
  | _, _, _, _, _, .d (bw := false) h, _ => h.mono e
  | _, _, _, _, n, .d (bw := true) _, _ => nomatch n
  | _, _, _, _, n, .l h r, k => .lst ((k _ List.mem_cons_self).trans h) (OwnL.frz e tp (by exact n) r fun a m => k a (List.mem_cons_of_mem _ m))
  | _, _, _, _, _, .na _ h, _ => h.mono e
  | _, _, _, _, _, .nl h r, k => .lst ((k _ List.mem_cons_self).trans h) (OwnL.frz e tp rfl r fun a m => k a (List.mem_cons_of_mem _ m))
  | _, _, _, _, _, .nt h r, k => .tup (SqT.of (tp _ _ h)) (OwnL.frz e tp rfl r k)
  | _, _, _, _, _, .i c h l r, k => .obj c ((k _ List.mem_cons_self).trans h) l (r.mono e)
  | _, _, _, _, _, .q h l r, k => .dic ((k _ List.mem_cons_self).trans h) l (r.mono e)
  | _, _, _, _, _, .qt h l r, k => .dct ((k _ List.mem_cons_self).trans h) l (r.mono e)
  | _, _, _, _, _, .ql h l r, k => .dic ((k _ List.mem_cons_self).trans h) l (OwnL.frz e tp rfl r fun a m => k a (List.mem_cons_of_mem _ m))
theorem OwnL.frz (e : Sm F F') (tp : TupK H F') : ∀ {sh : Sh} {vs : List V} {ds : List D} {S : List Addr}, sh.noB = true → OwnL K F H sh vs ds S → (∀ a ∈ S, F' a = H a) → DatL K F' vs ds
  | _, _, _, _, _, .nil, _ => .nil
  | _, _, _, _, n, .cons h r, k => .cons (Own.frz e tp n h fun a m => k a (List.mem_append_left _ m)) (OwnL.frz e tp n r fun a m => k a (List.mem_append_right _ m))
end
mutual
/-- what is owned is there, and no table and no tuple -/
theorem Own.there : ∀ {sh : Sh} {v : V} {d : D} {S : List Addr}, Own K F H sh v d S → ∀ a ∈ S, ∃ o, H a = some o ∧ isTT o = false
  | _, _, _, _, .d _, _, m => by cases m
  | _, _, _, _, .l h r, a, m => by
    rcases List.mem_cons.mp m with e | m
    · subst e; exact ⟨_, h, rfl⟩
    · exact OwnL.there r a m
  | _, _, _, _, .na _ _, _, m => by cases m
  | _, _, _, _, .nl h r, a, m => by
    rcases List.mem_cons.mp m with e | m
    · subst e; exact ⟨_, h, rfl⟩
    · exact OwnL.there r a m
  | _, _, _, _, .nt h r, a, m => OwnL.there r a m
  | _, _, _, _, .i c h l r, a, m => by
    rcases List.mem_cons.mp m with e | m
    · subst e; exact ⟨_, h, rfl⟩
    · exact (nomatch m)
  | _, _, _, _, .q h l r, a, m => by
    rcases List.mem_cons.mp m with e | m
    · subst e; exact ⟨_, h, rfl⟩
    · exact (nomatch m)
  | _, _, _, _, .qt h l r, a, m => by
    rcases List.mem_cons.mp m with e | m
    · subst e; exact ⟨_, h, rfl⟩
    · exact (nomatch m)
  | _, _, _, _, .ql h l r, a, m => by
    rcases List.mem_cons.mp m with e | m
    · subst e; exact ⟨_, h, rfl⟩
    · exact OwnL.there r a m
theorem OwnL.there : ∀ {sh : Sh} {vs : List V} {ds : List D} {S : List Addr}, OwnL K F H sh vs ds S → ∀ a ∈ S, ∃ o, H a = some o ∧ isTT o = false
  | _, _, _, _, .nil, _, m => by cases m
  | _, _, _, _, .cons h r, a, m => by
    rcases List.mem_append.mp m with m | m
    · exact Own.there h a m
    · exact OwnL.there r a m
end
theorem OwnL.length : ∀ {e : Sh} {vs : List V} {ds : List D} {S : List Addr}, OwnL K F H e vs ds S → vs.length = ds.length
  | _, _, _, _, .nil => rfl
  | _, _, _, _, .cons _ r => by rw [List.length_cons, List.length_cons, OwnL.length r]
theorem OwnL.ofDat : ∀ {vs : List V} {ds : List D}, DatL K F vs ds → OwnL K F H .s vs ds []
  | _, _, .nil => .nil
  | _, _, .cons h r => OwnL.cons (S := []) (S' := []) (.d (bw := false) h) (OwnL.ofDat r)
theorem OwnL.datS : ∀ {vs : List V} {ds : List D} {S : List Addr}, OwnL K F H .s vs ds S → DatL K F vs ds ∧ S = []
  | _, _, _, .nil => ⟨.nil, rfl⟩
  | _, _, _, .cons (.d h) r => by
    obtain ⟨a, b⟩ := OwnL.datS r
    exact ⟨.cons h a, by rw [b]; rfl⟩
end

/-! ### tables of code objects -/
/-- the table at P: of generator expressions; of lambdas of the name q -/
inductive Tab where
  | g (P : Addr) | s (P : Addr) (q : Str)
noncomputable def Tab.a : Tab → Addr
  | .g P => P
  | .s P _ => P
/-- the table at P: each code object that it tells bears the name q -/
noncomputable def TabC (H : Hp) (P : Addr) (q : Str) : Prop := ∃ ps : Array Value, H P = some (.tbl ps) ∧ TriplesOk ps.toList ∧ ∀ (z : Pos) (cv : Value), codeAmong z ps.toList = some cv → ∃ (c : Addr) (o : Obj) (vs : Array Value) (t : Tok) (φ : Heap → Prop), cv = .ref c ∧ H c = some (.frz o (.ext φ)) ∧ o.data = .fields vs ∧ vs[1]? = some (.str q t)
noncomputable def TabH (H : Hp) : Tab → Prop
  | .g P => GxR.TabG H P
  | .s P q => TabC H P q
/-- where tables and code objects stay -/
theorem tabH_same {H H' : Hp} (k : ∀ a o, H a = some o → isTbl o = true → H' a = some o) : ∀ {t : Tab}, TabH H t → TabH H' t
  | .g P, ⟨ps, e, w⟩ => ⟨ps, k _ _ e rfl, w⟩
  | .s P q, ⟨ps, e, w, r⟩ => ⟨ps, k _ _ e rfl, w, fun z cv hc => by
    obtain ⟨c, o, vs, t, φ, e1, e2, e3⟩ := r z cv hc
    exact ⟨c, o, vs, t, φ, e1, k _ _ e2 rfl, e3⟩⟩
/-- t is in T, and the only one at its address -/
noncomputable def InT (T : List Tab) (t : Tab) : Prop := t ∈ T ∧ ∀ u ∈ T, u.a = t.a → u = t
/-! ### the law's environment -/
structure LE where
  K : PySem.W.Frag
  ca : Str → Addr
  T : List Tab

/-- an exception of the class c, its attributes -/
noncomputable def ErrOk (L : LE) (c : Str) (fs : List (Str × D)) (cls : Value) (d : Option Addr) (F : Hp) (H : Hp) : Prop :=
  cls = .ref (L.ca c) ∧ match fs with
    | [] => d = none
    | _ => ∃ dx ws, d = some dx ∧ F dx = some (.xd ws) ∧ ∀ p ∈ fs, ∃ v, ws.lookup p.1 = some v ∧ isAtom p.2 = true ∧ Dat L.K F v p.2

/-- from F in H to F' in H': nothing that stood has changed -/
structure Ext (T : List Tab) (F H F' H' : Hp) : Prop where
  hh : Sm H H'
  ht : ∀ P ∈ T, TabH H P → TabH H' P
  ff : Same F F'
  fh : Same F' H'
  hid : ∀ a o, H a = some o → isTT o = false → F a = none → F' a = none
  nt : NoT F'
section
variable {T : List Tab} {F H F' H' F2 H2 : Hp}
theorem Ext.tup (e : Ext T F H F' H') : TupK H H' := fun a _ h => e.hh a _ h rfl
theorem Ext.refl (a : Same F H) (n : NoT F) : Ext T F H F H := ⟨.refl _, fun _ _ h => h, .refl _, a, fun _ _ _ _ h => h, n⟩
theorem Ext.back (e : Ext T F H F' H') {a : Addr} (h : Nw H' a) : Nw H a := h.back e.hh
theorem Ext.trans (a : Ext T F H F' H') (b : Ext T F' H' F2 H2) : Ext T F H F2 H2 :=
  ⟨a.hh.trans b.hh, fun P m h => b.ht P m (a.ht P m h), a.ff.trans b.ff, b.fh, fun c o h t n => b.hid c o (a.hh c o h t) t (a.hid c o h t n), b.nt⟩
theorem Same.none {F H : Hp} (s : Same F H) {p : Addr} (h : H p = none) : F p = none := s.free h
theorem sm_upd {H : Hp} {p : Addr} {o : HO} (h : H p = Option.none) : Sm H (upd H p o) := fun b u e _ => by
  rw [upd_ne (ne_of_none e h)]; exact e
theorem same_upd {H : Hp} {p : Addr} {o : HO} (h : H p = Option.none) : Same H (upd H p o) := fun b u e => by
  rw [upd_ne (ne_of_none e h)]; exact e
theorem tab_upd {H : Hp} {p : Addr} {P : Tab} {o : HO} (h : H p = Option.none) (t : TabH H P) : TabH (upd H p o) P :=
  tabH_same (fun a u e _ => by rw [upd_ne (ne_of_none e h)]; exact e) t
/-- a new object, hidden -/
theorem Ext.newH {p : Addr} {o : HO} (s : Same F H) (n : NoT F) (h : H p = Option.none) : Ext T F H F (upd H p o) :=
  ⟨sm_upd h, fun _ _ t => tab_upd h t, .refl _, s.trans (same_upd h), fun _ _ _ _ q => q, n⟩
/-- a new object, frozen -/
theorem Ext.newF {p : Addr} {o : HO} (s : Same F H) (n : NoT F) (h : H p = Option.none) (t : isTbl o = false) : Ext T F H (upd F p o) (upd H p o) := by
  have hF : F p = Option.none := s.free h
  refine ⟨sm_upd h, fun _ _ t => tab_upd h t, same_upd hF, fun a u e => ?_, fun a u e _ q => ?_, fun a u e => ?_⟩
  · by_cases z : a = p
    · subst z; rw [upd_same] at e ⊢; exact e
    · rw [upd_ne z] at e ⊢; exact s a u e
  · rw [upd_ne (ne_of_none e h)]; exact q
  · by_cases z : a = p
    · subst z; rw [upd_same] at e; cases e; exact t
    · rw [upd_ne z] at e; exact n a u e
/-- what is owned and new becomes frozen, and so do all tuples -/
noncomputable def tupAt (H : Hp) (a : Addr) : Prop := ∃ vs, H a = some (.tup vs)
open Classical in
noncomputable def frzH (F H : Hp) (S : List Addr) : Hp := fun a => if a ∈ S ∨ tupAt H a then H a else F a
theorem frzH_in {S : List Addr} {a : Addr} (h : a ∈ S) : frzH F H S a = H a := if_pos (.inl h)
theorem frzH_tup {S : List Addr} : TupK H (frzH F H S) := fun a vs h => by
  unfold frzH; rw [if_pos (.inr ⟨vs, h⟩)]; exact h
theorem frzH_out {S : List Addr} {a : Addr} (h : a ∉ S) (t : ¬ tupAt H a) : frzH F H S a = F a := if_neg fun z => z.elim h t
theorem not_tupAt {a : Addr} {o : HO} (h : H a = some o) (t : isTup o = false) : ¬ tupAt H a := fun ⟨vs, e⟩ => by
  rw [h] at e; cases e; cases t
theorem frzH_same {S : List Addr} (s : Same F H) : Same F (frzH F H S) := fun a o e => by
  unfold frzH
  split
  · exact s a o e
  · exact e
theorem frzH_to {S : List Addr} (s : Same F H) : Same (frzH F H S) H := fun a o e => by
  unfold frzH at e
  split at e
  · exact e
  · exact s a o e
theorem frzH_nt {S : List Addr} (n : NoT F) (t : ∀ a ∈ S, ∃ o, H a = Option.some o ∧ isTT o = false) : NoT (frzH F H S) := fun a o e => by
  unfold frzH at e
  split at e
  · rename_i z
    rcases z with m | ⟨vs, h⟩
    · obtain ⟨o', h1, h2⟩ := t a m
      rw [h1] at e; cases e; exact tt_tbl h2
    · rw [h] at e; cases e; rfl
  · exact n a o e
/-- what was hidden and stays out of S stays hidden, but for tuples -/
theorem frzH_hid {S : List Addr} {a : Addr} {o : HO} (h : H a = some o) (t : isTT o = false) (m : a ∉ S) (n : F a = Option.none) : frzH F H S a = Option.none := by
  rw [frzH_out m (not_tupAt h (tt_tup t))]; exact n
end

/-! ### state -/
structure Bs (L : LE) (F B H : Hp) : Prop where
  fh : Same F H
  bh : Same B H
  fb : ∀ a o, B a = some o → isTup o = false → F a = none
  nf : NoT F
  nb : NoT B
  tab : ∀ P ∈ L.T, TabH H P
structure Rep (L : LE) (fl : List Sh) (F B : Hp) (σ : L2.St) (H : Hp) (ρ : Env) : Prop where
  bs : Bs L F B H
  ls : σ.length = fl.length
  lr : ρ.length = fl.length
  px : ∀ (i : Nat) (v : V) (eo : Option (Addr × List (Str × V))), fl[i]? = some (Sh.x v eo) → σ[i]? = some (some v) ∧ ∀ dx ws, eo = some (dx, ws) → F dx = some (.xd ws)
  sl : ∃ Ss : Nat → List Addr, (∀ i d, ρ[i]? = some (some d) → ∃ v sh, σ[i]? = some (some v) ∧ fl[i]? = some sh ∧ sh.noB = true ∧ Own L.K F H sh v d (Ss i)) ∧
    (∀ i j a, a ∈ Ss i → a ∈ Ss j → i = j) ∧ (∀ i, (Ss i).Nodup) ∧ (∀ i a, a ∈ Ss i → F a = none ∧ B a = none ∧ ∃ o, H a = some o ∧ isTT o = false)
section
variable {L : LE} {fl : List Sh} {F B H F' H' : Hp} {σ : L2.St} {ρ : Env}
theorem Bs.ext (r : Bs L F B H) (e : Ext L.T F H F' H') : Bs L F' B H' where
  fh := e.fh
  bh := fun a o h => e.hh a o (r.bh a o h) (r.nb a o h)
  fb := fun a o h t => e.hid a o (r.bh a o h) (tt_of (r.nb a o h) t) (r.fb a o h t)
  nf := e.nt
  nb := r.nb
  tab := fun P h => e.ht P h (r.tab P h)
theorem Rep.ext (r : Rep L fl F B σ H ρ) (e : Ext L.T F H F' H') : Rep L fl F' B σ H' ρ := by
  refine ⟨r.bs.ext e, r.ls, r.lr, fun i v eo q => ⟨(r.px i v eo q).1, fun dx ws z => e.ff _ _ ((r.px i v eo q).2 dx ws z)⟩, ?_⟩
  obtain ⟨Ss, h1, h2, h3, h4⟩ := r.sl
  refine ⟨Ss, fun i d q => ?_, h2, h3, fun i a m => ?_⟩
  · obtain ⟨v, sh, a1, a2, a3, a4⟩ := h1 i d q
    exact ⟨v, sh, a1, a2, a3, a4.mono e.ff.sm e.hh⟩
  · obtain ⟨a1, a2, o, a3, a4⟩ := h4 i a m
    exact ⟨e.hid a o a3 a4 a1, a2, o, e.hh a o a3 a4, a4⟩
theorem Rep.refl (r : Rep L fl F B σ H ρ) : Ext L.T F H F H := .refl r.bs.fh r.bs.nf
theorem Rep.get (r : Rep L fl F B σ H ρ) {i : Nat} {d : D} (h : ρ[i]? = some (some d)) : ∃ v, σ[i]? = some (some v) ∧ Dat L.K H v d := by
  obtain ⟨Ss, h1, _⟩ := r.sl
  obtain ⟨v, sh, a1, _, _, a4⟩ := h1 i d h
  exact ⟨v, a1, a4.toB r.bs.fh.sm⟩
theorem Rep.getS (r : Rep L fl F B σ H ρ) {i : Nat} {d : D} (h : ρ[i]? = some (some d)) (hs : fl[i]? = some .s) : ∃ v, σ[i]? = some (some v) ∧ Dat L.K F v d := by
  obtain ⟨Ss, h1, _⟩ := r.sl
  obtain ⟨v, sh, a1, a2, _, a4⟩ := h1 i d h
  rw [hs] at a2
  cases a2
  generalize Ss i = S at a4
  cases a4 with
  | d h => exact ⟨v, a1, h⟩
end
end PD
set_option Elab.async false
set_option linter.all false
set_option maxRecDepth 100000
set_option maxHeartbeats 1000000
namespace PD
open PySem PySem.Spec PyProof.Rows L2

theorem _root_.L2.PE.imp {X : Cx} {e : Expr} {t t' : TE} (h : PE X e t) (k : ∀ σ H Q, t' σ H Q → t σ H Q) : PE X e t' := ⟨fun pins s σ H Q I hw => h.run pins s σ H Q I (k _ _ _ hw)⟩
theorem _root_.L2.PT.imp {X : Cx} {e : Expr} {t t' : TT} (h : PT X e t) (k : ∀ σ H Q, t' σ H Q → t σ H Q) : PT X e t' := ⟨fun pins s σ H Q I hw => h.run pins s σ H Q I (k _ _ _ hw)⟩
theorem _root_.L2.PW.imp {X : Cx} {e : Expr} {t t' : TT} (h : PW X e t) (k : ∀ σ H Q, t' σ H Q → t σ H Q) : PW X e t' := ⟨fun wh pins s σ H Q I hw => h.run wh pins s σ H Q I (k _ _ _ hw)⟩
theorem _root_.L2.PA.imp {X : Cx} {e : List Expr} {t t' : TA} (h : PA X e t) (k : ∀ σ H Q, t' σ H Q → t σ H Q) : PA X e t' := ⟨fun p pins s σ H Q I hw => h.run p pins s σ H Q I (k _ _ _ hw)⟩
theorem _root_.L2.PS.imp {X : Cx} {e : Stmt} {t t' : TS} (h : PS X e t) (k : ∀ D σ H, t' D σ H → t D σ H) : PS X e t' := ⟨fun pins s σ H D I hw => h.run pins s σ H D I (k _ _ _ hw)⟩
theorem _root_.L2.PSs.imp {X : Cx} {e : List Stmt} {t t' : TS} (h : PSs X e t) (k : ∀ D σ H, t' D σ H → t D σ H) : PSs X e t' := ⟨fun pins s σ H D I hw => h.run pins s σ H D I (k _ _ _ hw)⟩

/-! ### readings -/
noncomputable def PostE (L : LE) (F H : Hp) (sh : Sh) (r : R D) (W : WX) (σ : L2.St) (Q : VK) : Prop := match r with
  | .ok d => ∀ v F' H' S, Ext L.T F H F' H' → Own L.K F' H' sh v d S → S.Nodup → (∀ a ∈ S, F' a = none ∧ Nw H a) → Q v H'
  | .err c fs => ∀ cls d F' H', Ext L.T F H F' H' → ErrOk L c fs cls d F' H' → W cls d σ H'
  | .stuck => False
noncomputable def PostT (L : LE) (F H : Hp) (r : R Bool) (W : WX) (σ : L2.St) (Q : Bool → Hp → Prop) : Prop := match r with
  | .ok b => ∀ F' H', Ext L.T F H F' H' → Q b H'
  | .err c fs => ∀ cls d F' H', Ext L.T F H F' H' → ErrOk L c fs cls d F' H' → W cls d σ H'
  | .stuck => False
noncomputable def PostA (L : LE) (F H : Hp) (bw : Bool) (r : R (List D)) (W : WX) (σ : L2.St) (Q : List V → Hp → Prop) : Prop := match r with
  | .ok ds => ∀ vs F' H', Ext L.T F H F' H' → DatL L.K (cond bw H' F') vs ds → Q vs H'
  | .err c fs => ∀ cls d F' H', Ext L.T F H F' H' → ErrOk L c fs cls d F' H' → W cls d σ H'
  | .stuck => False
noncomputable def tD (L : LE) (fl : List Sh) (sh : Sh) (W : WX) (f : Env → R D) : TE := fun σ H Q => ∃ F B ρ, Rep L fl F B σ H ρ ∧ PostE L F H sh (f ρ) W σ Q
noncomputable def tT (L : LE) (fl : List Sh) (W : WX) (f : Env → R Bool) : TT := fun σ H Q => ∃ F B ρ, Rep L fl F B σ H ρ ∧ PostT L F H (f ρ) W σ Q
noncomputable def tA (L : LE) (fl : List Sh) (bw : Bool) (W : WX) (f : Env → R (List D)) : TA := fun σ H Q => ∃ F B ρ, Rep L fl F B σ H ρ ∧ PostA L F H bw (f ρ) W σ Q

/-! ### mirrors of expressions -/
noncomputable def oR {α : Type} : Option α → R α
  | some a => .ok a
  | none => .stuck
noncomputable def mV (i : Nat) : Env → R D := fun ρ => match ρ[i]? with
  | some (some d) => .ok d
  | _ => .stuck
noncomputable def mC (d : D) : Env → R D := fun _ => .ok d
noncomputable def m1 (g : D → Option D) (fa : Env → R D) : Env → R D := fun ρ => fa ρ >>= fun x => oR (g x)
noncomputable def m2 (g : D → D → Option D) (fa fb : Env → R D) : Env → R D := fun ρ => fa ρ >>= fun x => fb ρ >>= fun y => oR (g x y)
noncomputable def mN (g : List D → Option D) (fs : Env → R (List D)) : Env → R D := fun ρ => fs ρ >>= fun xs => oR (g xs)
noncomputable def mNil : Env → R (List D) := fun _ => .ok []
noncomputable def mCons (fa : Env → R D) (fr : Env → R (List D)) : Env → R (List D) := fun ρ => fa ρ >>= fun x => fr ρ >>= fun xs => .ok (x :: xs)
noncomputable def dBool : D → Option Bool
  | .bl b => some b
  | _ => none
noncomputable def mB (f : Env → R D) : Env → R Bool := fun ρ => f ρ >>= fun d => oR (dBool d)
noncomputable def mAnd (f g : Env → R Bool) : Env → R Bool := fun ρ => f ρ >>= fun b => if b = true then g ρ else .ok false
noncomputable def mOr (f g : Env → R Bool) : Env → R Bool := fun ρ => f ρ >>= fun b => if b = true then .ok true else g ρ
noncomputable def mNot (f : Env → R Bool) : Env → R Bool := fun ρ => f ρ >>= fun b => .ok (!b)
noncomputable def mIf (c : Env → R Bool) (f g : Env → R D) : Env → R D := fun ρ => c ρ >>= fun b => if b = true then f ρ else g ρ
noncomputable def mAndV (f g : Env → R D) : Env → R D := fun ρ => f ρ >>= fun d => oR (dBool d) >>= fun b => if b = true then g ρ else .ok (.bl false)
noncomputable def mOrV (f g : Env → R D) : Env → R D := fun ρ => f ρ >>= fun d => oR (dBool d) >>= fun b => if b = true then .ok (.bl true) else g ρ

section
variable {L : LE} {fl : List Sh} {W : WX} {F F' H H' B : Hp} {sh : Sh} {σ : L2.St} {ρ : Env} {r : R D}
theorem dat_cond {K : PySem.W.Frag} {T : List Tab} {bw : Bool} {F H F' H' : Hp} {v : V} {d : D} (h : Dat K (cond bw H F) v d) (e : Ext T F H F' H') : Dat K (cond bw H' F') v d := by
  cases bw with
  | true => exact Dat.mono e.hh h
  | false => exact Dat.mono e.ff.sm h
theorem dat_lift {K : PySem.W.Frag} {bw : Bool} {F H : Hp} {v : V} {d : D} (s : Same F H) (h : Dat K F v d) : Dat K (cond bw H F) v d := by
  cases bw with
  | true => exact Dat.mono s.sm h
  | false => exact h
/-- an atom is shared, wherever it is read -/
theorem dat_atom {K : PySem.W.Frag} {F H : Hp} {v : V} {d : D} (a : isAtom d = true) (h : Dat K H v d) : Dat K F v d := by
  cases h with
  | non => exact .non
  | bl => exact .bl
  | int => exact .int
  | str => exact .str
  | lst _ _ => cases a
  | tup _ _ => cases a
  | scr _ => cases a
  | rng _ => cases a
  | obj _ _ _ _ => cases a
  | dic _ _ _ => cases a
  | dct _ _ _ => cases a
theorem own_d {K : PySem.W.Frag} {bw : Bool} {F H : Hp} {v : V} {d : D} {S : List Addr} (h : Own K F H (.d bw) v d S) : Dat K (cond bw H F) v d ∧ S = [] := by
  cases h with
  | d h => exact ⟨h, rfl⟩
/-- an expression's result, atomic or shared -/
theorem postE_ok {d : D} {v : V} {Q : VK} {bw : Bool} (p : PostE L F H (.d bw) (.ok d) W σ Q) (e : Ext L.T F H F' H') (h : Dat L.K (cond bw H' F') v d) : Q v H' :=
  p v F' H' [] e (.d h) List.nodup_nil (fun a m => nomatch m)
end

/-! ### rules for expressions -/
section
variable {X : Cx} {L : LE} {fl : List Sh} {W : WX} {pos : Pos}
theorem e_varS (i : Nat) {x : Str} {pos : Pos} (hs : fl[i]? = some .s := by rfl) (hN : X.N[i]? = some x := by rfl) (hv : Vis X.env.scope x := by first | exact Or.inl rfl | exact Or.inr (Or.inl rfl) | exact Or.inr (Or.inr rfl)) (hd : (x == ("__debug__" : Str)) = false := by decide)
    (hcd : (x == ("__classdict__" : Str)) = false := by decide) {bw : Bool} : PE X (.Name x pos) (tD L fl (.d bw) W (mV i)) := by
  refine (pv i hN hv hd hcd).imp fun σ H Q ⟨F, B, ρ, r, p⟩ => ?_
  unfold mV at p
  split at p
  · rename_i d e
    obtain ⟨v, a1, a2⟩ := r.getS e hs
    exact ⟨v, a1, postE_ok p r.refl (dat_lift r.bs.fh a2)⟩
  · exact p.elim
theorem e_int {i : Int} {j : Nat} {bw : Bool} : PE X (.Constant (.int i) j pos) (tD L fl (.d bw) W (mC (.int i))) :=
  pe_int.imp fun σ H Q ⟨F, B, ρ, r, p⟩ => postE_ok p r.refl .int
theorem e_bl {b : Bool} {j : Nat} {bw : Bool} : PE X (.Constant (.bool b) j pos) (tD L fl (.d bw) W (mC (.bl b))) :=
  pe_bl.imp fun σ H Q ⟨F, B, ρ, r, p⟩ => postE_ok p r.refl .bl
theorem e_non {j : Nat} {bw : Bool} : PE X (.Constant .none j pos) (tD L fl (.d bw) W (mC .non)) :=
  pe_non.imp fun σ H Q ⟨F, B, ρ, r, p⟩ => postE_ok p r.refl .non
theorem str_eq {x : Str} {s : List Nat} (h : x.cps.toList = s) : (⟨s.toArray⟩ : Str) = x := by
  subst h
  cases x
  simp
theorem e_str (s : List Nat) {x : Str} {j : Nat} {bw : Bool} (hx : x.cps.toList = s := by decide +kernel) : PE X (.Constant (.str x) j pos) (tD L fl (.d bw) W (mC (.str s))) :=
  pe_str.imp fun σ H Q ⟨F, B, ρ, r, p⟩ => postE_ok p r.refl (by rw [← str_eq hx]; exact .str)
/-- a module's constant: an int, a text -/
theorem e_gint {i : Int} {t : Tok} {x : Str} {bw : Bool} (hm : X.mg x = some (.int i t)) (hg : Gl X x := by rfl) (hd : (x == ("__debug__" : Str)) = false := by decide) : PE X (.Name x pos) (tD L fl (.d bw) W (mC (.int i))) :=
  (pe_glob (v := .int i) hg hm ⟨t, rfl⟩ hd).imp fun σ H Q ⟨F, B, ρ, r, p⟩ => postE_ok p r.refl .int
/-- what is shared or owned may be borrowed -/
theorem e_toB {e : Expr} {sh : Sh} {f : Env → R D} (h : PE X e (tD L fl sh W f)) : PE X e (tD L fl .b W f) :=
  h.imp fun σ H Q ⟨F, B, ρ, r, p⟩ => ⟨F, B, ρ, r, by
    unfold PostE at p ⊢
    split at p
    · exact fun v F' H' S e o nd fr => p v F' H' [] e (.d (bw := true) (o.toB e.fh.sm)) List.nodup_nil (fun a m => nomatch m)
    · exact p
    · exact p⟩
/-- what is owned and new is frozen -/
theorem e_frz {e : Expr} {sh : Sh} {f : Env → R D} (h : PE X e (tD L fl sh W f)) (n : sh.noB = true := by rfl) {bw : Bool} : PE X e (tD L fl (.d bw) W f) :=
  h.imp fun σ H Q ⟨F, B, ρ, r, p⟩ => ⟨F, B, ρ, r, by
    unfold PostE at p ⊢
    split at p
    · refine fun v F' H' S e o nd fr => ?_
      have s1 : Same F' (frzH F' H' S) := frzH_same e.fh
      have s2 : Same (frzH F' H' S) H' := frzH_to e.fh
      refine p v (frzH F' H' S) H' [] ⟨e.hh, e.ht, e.ff.trans s1, s2, fun a o' h1 t1 h2 => ?_, frzH_nt e.nt o.there⟩ (.d (dat_lift s2 (o.frz s1.sm frzH_tup n fun a m => frzH_in m))) List.nodup_nil (fun a m => nomatch m)
      by_cases m : a ∈ S
      · exact ((fr a m).2.no h1 t1).elim
      · exact frzH_hid (e.hh a o' h1 t1) t1 m (e.hid a o' h1 t1 h2)
    · exact p
    · exact p⟩
/-- a borrowed atom is shared -/
noncomputable def mAt (f : Env → R D) : Env → R D := fun ρ => f ρ >>= fun d => if isAtom d = true then .ok d else .stuck
/-- running one expression, then going on -/
theorem tD_bind {ta : TE} {sh : Sh} {f : Env → R D} {F B H : Hp} {σ : L2.St} {ρ : Env} (hta : ta = tD L fl sh W f) (r : Rep L fl F B σ H ρ) {Q Q' : VK} {k : D → R D} {sh' : Sh}
    (p : PostE L F H sh' (f ρ >>= k) W σ Q')
    (hk : ∀ d v F' H' S, f ρ = .ok d → Ext L.T F H F' H' → Rep L fl F' B σ H' ρ → Own L.K F' H' sh v d S → S.Nodup → (∀ a ∈ S, F' a = none ∧ Nw H a) → PostE L F H sh' (k d) W σ Q' → Q v H') : ta σ H Q := by
  subst hta
  refine ⟨F, B, ρ, r, ?_⟩
  cases q : f ρ with
  | ok d =>
    rw [q, bind_ok] at p
    exact fun v F' H' S e o nd fr => hk d v F' H' S q e (r.ext e) o nd fr p
  | err c fs => rw [q, bind_err] at p; exact p
  | stuck => rw [q, bind_stuck] at p; exact p
theorem PostE.weak {F H F' H' : Hp} {sh : Sh} {r : R D} {σ : L2.St} {Q : VK} (p : PostE L F H sh r W σ Q) (e : Ext L.T F H F' H') : PostE L F' H' sh r W σ Q := by
  unfold PostE at p ⊢
  split at p
  · exact fun v F2 H2 S e2 o nd fr => p v F2 H2 S (e.trans e2) o nd fun a m => ⟨(fr a m).1, e.back (fr a m).2⟩
  · exact fun cls d F2 H2 e2 x => p cls d F2 H2 (e.trans e2) x
  · exact p
theorem PostT.weak {F H F' H' : Hp} {r : R Bool} {σ : L2.St} {Q : Bool → Hp → Prop} (p : PostT L F H r W σ Q) (e : Ext L.T F H F' H') : PostT L F' H' r W σ Q := by
  unfold PostT at p ⊢
  split at p
  · exact fun F2 H2 e2 => p F2 H2 (e.trans e2)
  · exact fun cls d F2 H2 e2 x => p cls d F2 H2 (e.trans e2) x
  · exact p
theorem PostA.weak {F H F' H' : Hp} {bw : Bool} {r : R (List D)} {σ : L2.St} {Q : List V → Hp → Prop} (p : PostA L F H bw r W σ Q) (e : Ext L.T F H F' H') : PostA L F' H' bw r W σ Q := by
  unfold PostA at p ⊢
  split at p
  · exact fun vs F2 H2 e2 d => p vs F2 H2 (e.trans e2) d
  · exact fun cls d F2 H2 e2 x => p cls d F2 H2 (e.trans e2) x
  · exact p

/-- a two-place operation on values: operands borrowed (bw) or shared -/
noncomputable def OpD (L : LE) (r : R2) (bw : Bool) (sh : Sh) (g : D → D → Option D) : Prop := ∀ (F H : Hp) (x y : V) (dx dy d : D), Same F H → NoT F → Dat L.K (cond bw H F) x dx → Dat L.K (cond bw H F) y dy → g dx dy = some d →
  ∀ Q : VK, (∀ v F' H' S, Ext L.T F H F' H' → Own L.K F' H' sh v d S → S.Nodup → (∀ a ∈ S, F' a = none ∧ Nw H a) → Q v H') → r x y H Q
theorem t_op2 {r : R2} {bw : Bool} {sh : Sh} {g : D → D → Option D} {fa fb : Env → R D} (hd : OpD L r bw sh g) {σ : L2.St} {H : Hp} {Q : VK} (h : tD L fl sh W (m2 g fa fb) σ H Q) :
    tOp r (tD L fl (.d bw) W fa) (tD L fl (.d bw) W fb) σ H Q := by
  obtain ⟨F, B, ρ, rp, p⟩ := h
  refine tD_bind rfl rp (k := fun x => fb ρ >>= fun y => oR (g x y)) p fun dx x F1 H1 S1 _ e1 r1 o1 _ _ p1 => ?_
  refine tD_bind rfl r1 (k := fun y => oR (g dx y)) (p1.weak e1) fun dy y F2 H2 S2 _ e2 r2 o2 _ _ p2 => ?_
  have p3 := p2.weak e2
  cases q : g dx dy with
  | none => rw [q] at p3; exact p3.elim
  | some d =>
    rw [q] at p3
    exact hd F2 H2 x y dx dy d r2.bs.fh r2.bs.nf (dat_cond (own_d o1).1 e2) (own_d o2).1 q Q p3
theorem e_op2 {a b : Expr} {op : Operator} {r : R2} {bw : Bool} {sh : Sh} {g : D → D → Option D} {fa fb : Env → R D} (ho : OpR X (binaryOp op) r) (hd : OpD L r bw sh g)
    (ha : PE X a (tD L fl (.d bw) W fa)) (hb : PE X b (tD L fl (.d bw) W fb)) : PE X (.BinOp a op b pos) (tD L fl sh W (m2 g fa fb)) := (pe_op ho ha hb).imp fun _ _ _ h => t_op2 hd h
theorem e_cmp {a b : Expr} {op : CmpOp} {r : R2} {bw : Bool} {sh : Sh} {g : D → D → Option D} {fa fb : Env → R D} (ho : OpR X (compareOp op) r) (hd : OpD L r bw sh g)
    (ha : PE X a (tD L fl (.d bw) W fa)) (hb : PE X b (tD L fl (.d bw) W fb)) (hm : behindInMarks op b = false := by first | exact nomark _ | rfl) : PE X (.Compare a [op] [b] pos) (tD L fl sh W (m2 g fa fb)) := (pe_cmpR ho ha hb hm).imp fun _ _ _ h => t_op2 hd h
/-- a bool's reading as a test -/
theorem tT_of {f : Env → R D} {σ : L2.St} {H : Hp} {Q : Bool → Hp → Prop} (h : tT L fl W (mB f) σ H Q) : tD L fl .s W f σ H fun v H' => ∃ k, v = .bl k ∧ Q k H' := by
  obtain ⟨F, B, ρ, r, p⟩ := h
  refine ⟨F, B, ρ, r, ?_⟩
  unfold mB at p
  cases q : f ρ with
  | ok d =>
    rw [q, bind_ok] at p
    intro v F' H' S e o _ _
    have dv := (own_d o).1
    cases d with
    | bl b =>
      cases dv
      exact ⟨b, rfl, p F' H' e⟩
    | _ => exact p.elim
  | err c fs => rw [q, bind_err] at p; exact p
  | stuck => rw [q, bind_stuck] at p; exact p
theorem t_cmp {a b : Expr} {op : CmpOp} {r : R2} {bw : Bool} {g : D → D → Option D} {fa fb : Env → R D} (ho : OpR X (compareOp op) r) (hd : OpD L r bw .s g)
    (ha : PE X a (tD L fl (.d bw) W fa)) (hb : PE X b (tD L fl (.d bw) W fb)) (hm : behindInMarks op b = false := by first | exact nomark _ | rfl) : PT X (.Compare a [op] [b] pos) (tT L fl W (mB (m2 g fa fb))) :=
  (pt_cmpR ho ha hb hm).imp fun _ _ _ h => t_op2 hd (tT_of h)
/-- an expression that yields a bool, as a test -/
theorem t_val {e : Expr} {f : Env → R D} (he : PE X e (tD L fl .s W f)) (hw : ∀ whole, isTrue e X.env whole = (do let v ← whole; standAt e.pos; holding [v] (truthy v)) := by intro _; rfl) : PT X e (tT L fl W (mB f)) :=
  (pt_val he hw).imp fun _ _ _ h => tT_of h
theorem t_and2 {a : Expr} {b : Expr} {rest : List Expr} {f g : Env → R Bool} (ha : PT X a (tT L fl W f)) (hb : PW X (.BoolOp .And (b :: rest) pos) (tT L fl W g)) : PW X (.BoolOp .And (a :: b :: rest) pos) (tT L fl W (mAnd f g)) :=
  (pw_and ha hb).imp fun σ H Q ⟨F, B, ρ, r, p⟩ => ⟨F, B, ρ, r, by
    unfold mAnd at p
    cases q : f ρ with
    | ok c =>
      rw [q, bind_ok] at p
      intro F' H' e
      cases c with
      | true => rw [if_pos rfl] at p ⊢; exact ⟨F', B, ρ, r.ext e, p.weak e⟩
      | false => rw [if_neg Bool.false_ne_true] at p ⊢; exact p F' H' e
    | err c fs => rw [q, bind_err] at p; exact p
    | stuck => rw [q, bind_stuck] at p; exact p⟩
theorem t_or2 {a : Expr} {b : Expr} {rest : List Expr} {f g : Env → R Bool} (ha : PT X a (tT L fl W f)) (hb : PW X (.BoolOp .Or (b :: rest) pos) (tT L fl W g)) : PW X (.BoolOp .Or (a :: b :: rest) pos) (tT L fl W (mOr f g)) :=
  (pw_or ha hb).imp fun σ H Q ⟨F, B, ρ, r, p⟩ => ⟨F, B, ρ, r, by
    unfold mOr at p
    cases q : f ρ with
    | ok c =>
      rw [q, bind_ok] at p
      intro F' H' e
      cases c with
      | true => rw [if_pos rfl] at p ⊢; exact p F' H' e
      | false => rw [if_neg Bool.false_ne_true] at p ⊢; exact ⟨F', B, ρ, r.ext e, p.weak e⟩
    | err c fs => rw [q, bind_err] at p; exact p
    | stuck => rw [q, bind_stuck] at p; exact p⟩
theorem t_and1 {a : Expr} {f : Env → R Bool} (ha : PT X a (tT L fl W f)) : PW X (.BoolOp .And [a] pos) (tT L fl W f) := pw_and1 ha
theorem t_or1 {a : Expr} {f : Env → R Bool} (ha : PT X a (tT L fl W f)) : PW X (.BoolOp .Or [a] pos) (tT L fl W f) := pw_or1 ha
theorem t_not {a : Expr} {f : Env → R Bool} (ha : PT X a (tT L fl W f)) : PT X (.UnaryOp .Not a pos) (tT L fl W (mNot f)) :=
  (pt_not ha).imp fun σ H Q ⟨F, B, ρ, r, p⟩ => ⟨F, B, ρ, r, by
    unfold mNot at p
    cases q : f ρ with
    | ok c => rw [q, bind_ok] at p; exact fun F' H' e => p F' H' e
    | err c fs => rw [q, bind_err] at p; exact p
    | stuck => rw [q, bind_stuck] at p; exact p⟩
/-- and, or, not as values -/
theorem e_one {op : BoolOp} {a : Expr} {sh : Sh} {f : Env → R D} (h : PE X a (tD L fl sh W f)) : PE X (.BoolOp op [a] pos) (tD L fl sh W f) := pe_one h
theorem e_and {a b : Expr} {rest : List Expr} {f g : Env → R D} {bw : Bool} (ha : PE X a (tD L fl .s W f)) (hb : PE X (.BoolOp .And (b :: rest) pos) (tD L fl (.d bw) W g)) : PE X (.BoolOp .And (a :: b :: rest) pos) (tD L fl (.d bw) W (mAndV f g)) :=
  (pe_and ha hb).imp fun σ H Q ⟨F, B, ρ, r, p⟩ => by
    refine tD_bind rfl r (k := fun d => oR (dBool d) >>= fun b => if b = true then g ρ else .ok (.bl false)) p fun d v F1 H1 S1 _ e1 r1 o1 _ _ p1 => ?_
    have dv := (own_d o1).1
    cases d with
    | bl c =>
      cases dv
      refine ⟨c, rfl, ?_⟩
      have p2 : PostE L F H (.d bw) (if c = true then g ρ else .ok (.bl false)) W σ Q := p1
      cases c with
      | true => rw [if_pos rfl] at p2 ⊢; exact ⟨F1, B, ρ, r1, p2.weak e1⟩
      | false => rw [if_neg Bool.false_ne_true] at p2 ⊢; exact postE_ok p2 e1 .bl
    | _ => exact p1.elim
theorem e_or {a b : Expr} {rest : List Expr} {f g : Env → R D} {bw : Bool} (ha : PE X a (tD L fl .s W f)) (hb : PE X (.BoolOp .Or (b :: rest) pos) (tD L fl (.d bw) W g)) : PE X (.BoolOp .Or (a :: b :: rest) pos) (tD L fl (.d bw) W (mOrV f g)) :=
  (pe_or ha hb).imp fun σ H Q ⟨F, B, ρ, r, p⟩ => by
    refine tD_bind rfl r (k := fun d => oR (dBool d) >>= fun b => if b = true then .ok (.bl true) else g ρ) p fun d v F1 H1 S1 _ e1 r1 o1 _ _ p1 => ?_
    have dv := (own_d o1).1
    cases d with
    | bl c =>
      cases dv
      refine ⟨c, rfl, ?_⟩
      have p2 : PostE L F H (.d bw) (if c = true then .ok (.bl true) else g ρ) W σ Q := p1
      cases c with
      | true => rw [if_pos rfl] at p2 ⊢; exact postE_ok p2 e1 .bl
      | false => rw [if_neg Bool.false_ne_true] at p2 ⊢; exact ⟨F1, B, ρ, r1, p2.weak e1⟩
    | _ => exact p1.elim
noncomputable def dNot : D → Option D
  | .bl b => some (.bl !b)
  | _ => none
theorem e_not {a : Expr} {f : Env → R D} {bw : Bool} (ha : PE X a (tD L fl .s W f)) : PE X (.UnaryOp .Not a pos) (tD L fl (.d bw) W (m1 dNot f)) :=
  (pe_not ha).imp fun σ H Q ⟨F, B, ρ, r, p⟩ => by
    refine tD_bind rfl r (k := fun d => oR (dNot d)) p fun d v F1 H1 S1 _ e1 r1 o1 _ _ p1 => ?_
    have dv := (own_d o1).1
    cases d with
    | bl c =>
      cases dv
      exact ⟨c, rfl, postE_ok (d := .bl (!c)) p1 e1 .bl⟩
    | _ => exact p1.elim
/-- a chain of two comparisons -/
noncomputable def mChain (g g' : D → D → Option D) (fa fb fc : Env → R D) : Env → R D := fun ρ => fa ρ >>= fun x => fb ρ >>= fun y => oR (g x y) >>= fun z => oR (dBool z) >>= fun k => if k = true then fc ρ >>= fun u => oR (g' y u) else .ok (.bl false)
theorem t_chain {r r' : R2} {bw : Bool} {g g' : D → D → Option D} {fa fb fc : Env → R D} (hd : OpD L r bw .s g) (hd' : OpD L r' bw .s g') {σ : L2.St} {H : Hp} {Q : VK} {bw2 : Bool}
    (h : tD L fl (.d bw2) W (mChain g g' fa fb fc) σ H Q) : tChain r r' (tD L fl (.d bw) W fa) (tD L fl (.d bw) W fb) (tD L fl (.d bw) W fc) σ H Q := by
  obtain ⟨F, B, ρ, rp, p⟩ := h
  refine tD_bind rfl rp (k := fun x => fb ρ >>= fun y => oR (g x y) >>= fun z => oR (dBool z) >>= fun k => if k = true then fc ρ >>= fun u => oR (g' y u) else .ok (.bl false)) p fun dx x F1 H1 S1 _ e1 r1 o1 _ _ p1 => ?_
  refine tD_bind rfl r1 (k := fun y => oR (g dx y) >>= fun z => oR (dBool z) >>= fun k => if k = true then fc ρ >>= fun u => oR (g' y u) else .ok (.bl false)) (p1.weak e1) fun dy y F2 H2 S2 _ e2 r2 o2 _ _ p2 => ?_
  have p3 := p2.weak e2
  cases q : g dx dy with
  | none => rw [q] at p3; exact p3.elim
  | some d =>
    rw [q] at p3
    refine hd F2 H2 x y dx dy d r2.bs.fh r2.bs.nf (dat_cond (own_d o1).1 e2) (own_d o2).1 q _ fun v F3 H3 S3 e3 o3 _ _ => ?_
    have dv := (own_d o3).1
    cases d with
    | bl c =>
      cases dv
      refine ⟨c, rfl, ?_⟩
      have p4 : PostE L F2 H2 (.d bw2) (if c = true then fc ρ >>= fun u => oR (g' dy u) else .ok (.bl false)) W σ Q := p3
      cases c with
      | true =>
        rw [if_pos rfl] at p4 ⊢
        refine tD_bind rfl (r2.ext e3) (k := fun u => oR (g' dy u)) (p4.weak e3) fun du u F4 H4 S4 _ e4 r4 o4 _ _ p5 => ?_
        have p6 := p5.weak e4
        cases q' : g' dy du with
        | none => rw [q'] at p6; exact p6.elim
        | some d' =>
          rw [q'] at p6
          refine hd' F4 H4 y u dy du d' r4.bs.fh r4.bs.nf (dat_cond (dat_cond (own_d o2).1 e3) e4) (own_d o4).1 q' _ fun v F5 H5 S5 e5 o5 _ _ => ?_
          obtain ⟨dv, _⟩ := own_d o5
          exact postE_ok p6 e5 (dat_lift e5.fh dv)
      | false => rw [if_neg Bool.false_ne_true] at p4 ⊢; exact postE_ok p4 e3 .bl
    | _ => exact p3.elim
theorem e_chain {a b c : Expr} {op op' : CmpOp} {r r' : R2} {bw bw2 : Bool} {g g' : D → D → Option D} {fa fb fc : Env → R D} (ho : OpR X (compareOp op) r) (hd : OpD L r bw .s g) (ho' : OpR X (compareOp op') r') (hd' : OpD L r' bw .s g')
    (ha : PE X a (tD L fl (.d bw) W fa)) (hb : PE X b (tD L fl (.d bw) W fb)) (hc : PE X c (tD L fl (.d bw) W fc)) (hm : lastMarks [op, op'] [b, c] = false := by with_unfolding_all rfl) : PE X (.Compare a [op, op'] [b, c] pos) (tD L fl (.d bw2) W (mChain g g' fa fb fc)) :=
  (pe_chain ho ho' ha hb hc hm).imp fun _ _ _ h => t_chain hd hd' h
/-! ### truth -/
noncomputable def LN : Nat := 1000000
theorem LN_le : LN ≤ sizeLine := by rw [sizeLine_eq]; decide
theorem le_line {n : Nat} (h : n ≤ LN) : n ≤ sizeLine := Nat.le_trans h LN_le
theorem lt_line {n : Nat} (h : n < LN) : n < sizeLine := Nat.lt_of_lt_of_le h LN_le
noncomputable def dTru : D → Option Bool
  | .non => some false
  | .bl b => some b
  | .int i => some (i != 0)
  | .str s => if s.length ≤ LN then some (!s.isEmpty) else none
  | .lst xs => some (!xs.isEmpty)
  | .tup xs => some (!xs.isEmpty)
  | .scr xs => some (!xs.isEmpty)
  | .rng _ _ => none
  | .obj _ _ _ => none
  | .dic _ _ => none
  | .dct _ _ => none
noncomputable def mTru (f : Env → R D) : Env → R Bool := fun ρ => f ρ >>= fun d => oR (dTru d)
/-! ### arguments -/
theorem a_nil {bw : Bool} : PA X [] (tA L fl bw W mNil) := pa_nil.imp fun σ H Q ⟨F, B, ρ, r, p⟩ => p [] F H r.refl .nil
theorem PostA.bindE {F H : Hp} {bw : Bool} {σ : L2.St} {Q : List V → Hp → Prop} {r : R D} {k : D → R (List D)} {P : VK} (p : PostA L F H bw (r >>= k) W σ Q) (h : ∀ d v F' H', r = .ok d → PostA L F H bw (k d) W σ Q → Ext L.T F H F' H' → Dat L.K (cond bw H' F') v d → P v H') : PostE L F H (.d bw) r W σ P := by
  cases r with
  | ok d => exact fun v F' H' S e o _ _ => h d v F' H' rfl p e (own_d o).1
  | err c fs => exact p
  | stuck => exact p
theorem a_cons {e : Expr} {es : List Expr} {bw : Bool} {f : Env → R D} {fs : Env → R (List D)} (he : PE X e (tD L fl (.d bw) W f)) (hr : PA X es (tA L fl bw W fs)) (hs : starEach (e :: es) X.env = (false, eval e X.env) :: starEach es X.env := by rfl) :
    PA X (e :: es) (tA L fl bw W (mCons f fs)) :=
  (pa_cons he hr hs).imp fun σ H Q ⟨F, B, ρ, r, p⟩ => ⟨F, B, ρ, r, PostA.bindE p fun d v F1 H1 _ p1 e1 d1 => ⟨F1, B, ρ, r.ext e1, by
    have p2 := p1.weak e1
    cases q : fs ρ with
    | ok ds =>
      rw [q, bind_ok] at p2
      exact fun vs F2 H2 e2 d2 => p2 (v :: vs) F2 H2 e2 (.cons (dat_cond d1 e2) d2)
    | err c xs => rw [q, bind_err] at p2; exact p2
    | stuck => rw [q, bind_stuck] at p2; exact p2⟩⟩
/-- displays -/
noncomputable def dTup (xs : List D) : Option D := if xs.length ≤ LN then some (.tup xs) else none
noncomputable def dLst (xs : List D) : Option D := if xs.length ≤ LN then some (.lst xs) else none
theorem tA_bind {ta : TA} {bw : Bool} {f : Env → R (List D)} {F B H : Hp} {σ : L2.St} {ρ : Env} (hta : ta = tA L fl bw W f) (r : Rep L fl F B σ H ρ) {Q : List V → Hp → Prop} {Q' : VK} {k : List D → R D} {sh' : Sh}
    (p : PostE L F H sh' (f ρ >>= k) W σ Q')
    (hk : ∀ ds vs F' H', f ρ = .ok ds → Ext L.T F H F' H' → Rep L fl F' B σ H' ρ → DatL L.K (cond bw H' F') vs ds → PostE L F' H' sh' (k ds) W σ Q' → Q vs H') : ta σ H Q := by
  subst hta
  refine ⟨F, B, ρ, r, ?_⟩
  cases q : f ρ with
  | ok ds =>
    rw [q, bind_ok] at p
    exact fun vs F' H' e o => hk ds vs F' H' q e (r.ext e) o (p.weak e)
  | err c fs => rw [q, bind_err] at p; exact p
  | stuck => rw [q, bind_stuck] at p; exact p
theorem e_tup {es : List Expr} {x1 : Nat} {bw : Bool} {fs : Env → R (List D)} (h : PA X es (tA L fl false W fs)) : PE X (.Tuple es x1 pos) (tD L fl (.d bw) W (mN dTup fs)) :=
  (pe_tup h).imp fun σ H Q ⟨F, B, ρ, r, p⟩ => by
    refine tA_bind rfl r (k := fun xs => oR (dTup xs)) p fun ds vs F1 H1 _ e1 r1 d1 p1 => ?_
    have hl := d1.length
    unfold dTup at p1
    by_cases q : ds.length ≤ LN
    · rw [if_pos q] at p1
      refine ⟨le_line (by omega), fun a hp => ?_⟩
      have e2 := Ext.newF (T := L.T) (o := .tup vs) r1.bs.fh r1.bs.nf hp rfl
      exact postE_ok p1 e2 (dat_lift e2.fh (.tup (SqT.of upd_same) (d1.mono e2.ff.sm)))
    · rw [if_neg q] at p1; exact p1.elim
theorem e_lst {es : List Expr} {fs : Env → R (List D)} (h : PA X es (tA L fl false W fs)) : PE X (.List es pos) (tD L fl (.l .s) W (mN dLst fs)) :=
  (pe_lst h).imp fun σ H Q ⟨F, B, ρ, r, p⟩ => by
    refine tA_bind rfl r (k := fun xs => oR (dLst xs)) p fun ds vs F1 H1 _ e1 r1 d1 p1 => ?_
    have hl := d1.length
    unfold dLst at p1
    by_cases q : ds.length ≤ LN
    · rw [if_pos q] at p1
      refine ⟨le_line (by omega), fun a hp => ?_⟩
      refine p1 _ F1 _ [a] (Ext.newH (T := L.T) r1.bs.fh r1.bs.nf hp) (.l upd_same (OwnL.ofDat d1)) (by simp) fun b m => ?_
      have e : b = a := by simpa using m
      subst e
      exact ⟨r1.bs.fh.free hp, .of hp⟩
    · rw [if_neg q] at p1; exact p1.elim
/-- built-ins on values -/
noncomputable def CallD (L : LE) (r : List V → Hp → VK → Prop) (bw : Bool) (sh : Sh) (g : List D → Option D) : Prop := ∀ (F H : Hp) (vs : List V) (ds : List D) (d : D), Same F H → NoT F → DatL L.K (cond bw H F) vs ds → g ds = some d →
  ∀ Q : VK, (∀ v F' H' S, Ext L.T F H F' H' → Own L.K F' H' sh v d S → S.Nodup → (∀ a ∈ S, F' a = none ∧ Nw H a) → Q v H') → r vs H Q
theorem t_call {r : List V → Hp → VK → Prop} {bw : Bool} {sh : Sh} {g : List D → Option D} {fs : Env → R (List D)} (hd : CallD L r bw sh g) {σ : L2.St} {H : Hp} {Q : VK} (h : tD L fl sh W (mN g fs) σ H Q) : tCB r (tA L fl bw W fs) σ H Q := by
  obtain ⟨F, B, ρ, rp, p⟩ := h
  refine tA_bind rfl rp (k := fun xs => oR (g xs)) p fun ds vs F1 H1 _ e1 r1 d1 p1 => ?_
  cases q : g ds with
  | none => rw [q] at p1; exact p1.elim
  | some d => rw [q] at p1; exact hd F1 H1 vs ds d r1.bs.fh r1.bs.nf d1 q Q p1
theorem e_callB {id : String} {x : Str} {p : Pos} {e : Expr} {es : List Expr} {r : List V → Hp → VK → Prop} {bw : Bool} {sh : Sh} {g : List D → Option D} {fs : Env → R (List D)} (hc : CallR X (.builtin id) r) (hd : CallD L r bw sh g) (hm : X.mg x = none) (hv : bootBuiltins x = some (.builtin id))
    (ha : PA X (e :: es) (tA L fl bw W fs)) (hg : Gl X x := by rfl) (hn : x ≠ "__name__" := by decide) (hdb : (x == ("__debug__" : Str)) = false := by decide) (he : starEach (e :: es) X.env = (false, eval e X.env) :: starEach es X.env := by rfl) (hpl : (backTo pos (starEach es X.env)).any (·.1) = false := by rfl) :
    PE X (.Call (.Name x p) (e :: es) [] pos) (tD L fl sh W (mN g fs)) := (pe_callB hc hg hm hv ha hn hdb he hpl).imp fun _ _ _ h => t_call hd h
theorem e_callT {T : String} {x : Str} {p : Pos} {e : Expr} {es : List Expr} {r : List V → Hp → VK → Prop} {bw : Bool} {sh : Sh} {g : List D → Option D} {fs : Env → R (List D)} (hc : CallR X (.type T) r) (hd : CallD L r bw sh g) (hm : X.mg x = none) (hv : bootBuiltins x = some (.type T))
    (ha : PA X (e :: es) (tA L fl bw W fs)) (hg : Gl X x := by rfl) (hn : x ≠ "__name__" := by decide) (hdb : (x == ("__debug__" : Str)) = false := by decide) (he : starEach (e :: es) X.env = (false, eval e X.env) :: starEach es X.env := by rfl) (hpl : (backTo pos (starEach es X.env)).any (·.1) = false := by rfl) :
    PE X (.Call (.Name x p) (e :: es) [] pos) (tD L fl sh W (mN g fs)) := (pe_callTy hc hg hm hv ha hn hdb he hpl).imp fun _ _ _ h => t_call hd h
end
end PD
set_option Elab.async false
set_option linter.all false
set_option maxRecDepth 100000
set_option maxHeartbeats 1000000
namespace PD
open PySem PySem.Spec PyProof.Rows L2

structure Jn where
  rs : Sh
  fk : List Sh
  fc : List Sh
noncomputable def PostS (L : LE) (J : Jn) (fl' : List Sh) (F B : Hp) (W : WX) (D : Ends) (r : R Fl) : Prop := match r with
  | .ok (.nx ρ) => ∀ σ' F' H', Same F F' → Rep L fl' F' B σ' H' ρ → D.nx σ' H'
  | .ok (.rt d) => ∀ v F' H' S, Same F F' → Bs L F' B H' → Own L.K F' H' J.rs v d S → S.Nodup → (∀ a ∈ S, F' a = none ∧ B a = none) → D.rt v H'
  | .ok (.bk ρ) => ∀ σ' F' H', Same F F' → Rep L J.fk F' B σ' H' ρ → D.bk σ' H'
  | .ok (.ct ρ) => ∀ σ' F' H', Same F F' → Rep L J.fc F' B σ' H' ρ → D.ct σ' H'
  | .ok (.ex c fs ρ) => ∀ cls d fl0 σ' F' H', Same F F' → Rep L fl0 F' B σ' H' ρ → ErrOk L c fs cls d F' H' → W cls d σ' H'
  | .err _ _ => False
  | .stuck => False
noncomputable def tS (L : LE) (J : Jn) (fl fl' : List Sh) (W : WX) (f : Env → R Fl) : TS := fun D σ H => ∃ F B ρ, Rep L fl F B σ H ρ ∧ PostS L J fl' F B W D (f ρ)

/-! ### mirrors of statements -/
noncomputable def liftE {α : Type} (r : R α) (ρ : Env) (k : α → R Fl) : R Fl := match r with
  | .ok d => k d
  | .err c fs => .ok (.ex c fs ρ)
  | .stuck => .stuck
noncomputable def sNx : Env → R Fl := fun ρ => .ok (.nx ρ)
noncomputable def sSeq (f g : Env → R Fl) : Env → R Fl := fun ρ => f ρ >>= fun r => match r with
  | .nx ρ' => g ρ'
  | r => .ok r
noncomputable def sSet (i : Nat) (f : Env → R D) : Env → R Fl := fun ρ => liftE (f ρ) ρ fun d => .ok (.nx (ρ.set i (some d)))
noncomputable def sDrop (f : Env → R D) : Env → R Fl := fun ρ => liftE (f ρ) ρ fun _ => .ok (.nx ρ)
noncomputable def sRet (f : Env → R D) : Env → R Fl := fun ρ => liftE (f ρ) ρ fun d => .ok (.rt d)
noncomputable def sRetN : Env → R Fl := fun _ => .ok (.rt .non)
noncomputable def sIf (c : Env → R Bool) (f g : Env → R Fl) : Env → R Fl := fun ρ => liftE (c ρ) ρ fun b => if b = true then f ρ else g ρ
noncomputable def sBk : Env → R Fl := fun ρ => .ok (.bk ρ)
noncomputable def sCt : Env → R Fl := fun ρ => .ok (.ct ρ)
noncomputable def sRaise (c : Str) : Env → R Fl := fun ρ => .ok (.ex c [] ρ)
noncomputable def asLst : D → Option (List D)
  | .lst xs => some xs
  | _ => none
noncomputable def getL (ρ : Env) (i : Nat) : Option (List D) := match ρ[i]? with
  | some (some d) => asLst d
  | _ => none
noncomputable def sApp (i : Nat) (f : Env → R D) : Env → R Fl := fun ρ => match getL ρ i with
  | some xs => liftE (f ρ) ρ fun d => if xs.length < LN then .ok (.nx (ρ.set i (some (.lst (xs ++ [d]))))) else .stuck
  | none => .stuck

section
variable {L : LE} {J : Jn} {fl fl' : List Sh} {W : WX} {F B H F' H' : Hp} {σ σ' : L2.St} {ρ ρ' : Env} {D : Ends}
theorem PostS.weak {r : R Fl} (p : PostS L J fl' F B W D r) (e : Same F F') : PostS L J fl' F' B W D r := by
  unfold PostS at p ⊢
  split at p
  · exact fun σ2 F2 H2 s r => p σ2 F2 H2 (e.trans s) r
  · exact fun v F2 H2 S s b o nd fr => p v F2 H2 S (e.trans s) b o nd fr
  · exact fun σ2 F2 H2 s r => p σ2 F2 H2 (e.trans s) r
  · exact fun σ2 F2 H2 s r => p σ2 F2 H2 (e.trans s) r
  · exact fun cls d fl0 σ2 F2 H2 s r x => p cls d fl0 σ2 F2 H2 (e.trans s) r x
  · exact p
  · exact p
/-- a statement's expression, then its rest -/
theorem PostS.bindE {r : R PD.D} {k : PD.D → R Fl} {sh : Sh} {P : VK} (rp : Rep L fl F B σ H ρ) (p : PostS L J fl' F B W D (liftE r ρ k))
    (h : ∀ d v F' H' S, r = .ok d → Ext L.T F H F' H' → Rep L fl F' B σ H' ρ → Own L.K F' H' sh v d S → S.Nodup → (∀ a ∈ S, F' a = none ∧ Nw H a) → PostS L J fl' F' B W D (k d) → P v H') : PostE L F H sh r W σ P := by
  cases r with
  | ok d => exact fun v F' H' S e o nd fr => h d v F' H' S rfl e (rp.ext e) o nd fr (PostS.weak p e.ff)
  | err c fs => exact fun cls d F' H' e x => p cls d fl σ F' H' e.ff (rp.ext e) x
  | stuck => exact p
theorem PostS.bindT {r : R Bool} {k : Bool → R Fl} {P : Bool → Hp → Prop} (rp : Rep L fl F B σ H ρ) (p : PostS L J fl' F B W D (liftE r ρ k))
    (h : ∀ b F' H', r = .ok b → Ext L.T F H F' H' → Rep L fl F' B σ H' ρ → PostS L J fl' F' B W D (k b) → P b H') : PostT L F H r W σ P := by
  cases r with
  | ok d => exact fun F' H' e => h d F' H' rfl e (rp.ext e) (PostS.weak p e.ff)
  | err c fs => exact fun cls d F' H' e x => p cls d fl σ F' H' e.ff (rp.ext e) x
  | stuck => exact p
noncomputable def fput (Ss : Nat → List Addr) (i : Nat) (S : List Addr) : Nat → List Addr := fun j => if j = i then S else Ss j
theorem fput_eq {Ss : Nat → List Addr} {i j : Nat} {S : List Addr} (h : j = i) : fput Ss i S j = S := if_pos h
theorem fput_ne {Ss : Nat → List Addr} {i j : Nat} {S : List Addr} (h : ¬ j = i) : fput Ss i S j = Ss j := if_neg h
/-- a name gets a value -/
theorem Rep.setE {sh : Sh} {v : V} {d : PD.D} {S : List Addr} {i : Nat} (r : Rep L fl F B σ H ρ) (e : Ext L.T F H F' H') (o : Own L.K F' H' sh v d S) (nb : sh.noB = true) (nd : S.Nodup) (fr : ∀ a ∈ S, F' a = none ∧ Nw H a) :
    Rep L (fl.set i sh) F' B (σ.set i (some v)) H' (ρ.set i (some d)) := by
  have r' := r.ext e
  refine ⟨r'.bs, by rw [List.length_set, List.length_set]; exact r.ls, by rw [List.length_set, List.length_set]; exact r.lr, fun j u eo q => ?_, ?_⟩
  · by_cases z : j = i
    · subst z
      have hl : j < fl.length := by
        have := (List.getElem?_eq_some_iff.mp q).1
        rwa [List.length_set] at this
      rw [List.getElem?_set_self hl] at q
      cases q
      cases nb
    · rw [List.getElem?_set_ne (Ne.symm z)] at q ⊢
      exact r'.px j u eo q
  obtain ⟨Ss, h1, h2, h3, h4⟩ := r.sl
  have new : ∀ j a, a ∈ Ss j → a ∉ S := fun j a m z => by
    obtain ⟨_, _, u, q, t⟩ := h4 j a m
    exact (fr a z).2.no q t
  refine ⟨fput Ss i S, fun j d' q => ?_, fun j k a m1 m2 => ?_, fun j => ?_, fun j a m => ?_⟩
  · by_cases z : j = i
    · subst z
      rw [fput_eq rfl]
      have hl : j < ρ.length := by
        have := (List.getElem?_eq_some_iff.mp q).1
        rwa [List.length_set] at this
      rw [List.getElem?_set_self hl] at q
      cases q
      refine ⟨v, sh, List.getElem?_set_self (by rw [r.ls, ← r.lr]; exact hl), List.getElem?_set_self (by rw [← r.lr]; exact hl), nb, o⟩
    · rw [fput_ne z]
      rw [List.getElem?_set_ne (Ne.symm z)] at q
      obtain ⟨v', sh', a1, a2, a3, a4⟩ := h1 j d' q
      exact ⟨v', sh', by rw [List.getElem?_set_ne (Ne.symm z)]; exact a1, by rw [List.getElem?_set_ne (Ne.symm z)]; exact a2, a3, a4.mono e.ff.sm e.hh⟩
  · by_cases z1 : j = i <;> by_cases z2 : k = i
    · rw [z1, z2]
    · rw [fput_eq z1] at m1; rw [fput_ne z2] at m2; exact (new k a m2 m1).elim
    · rw [fput_ne z1] at m1; rw [fput_eq z2] at m2; exact (new j a m1 m2).elim
    · rw [fput_ne z1] at m1; rw [fput_ne z2] at m2; exact h2 j k a m1 m2
  · by_cases z : j = i
    · rw [fput_eq z]; exact nd
    · rw [fput_ne z]; exact h3 j
  · by_cases z : j = i
    · rw [fput_eq z] at m
      obtain ⟨q1, q2⟩ := fr a m
      exact ⟨q1, q2.none r.bs.bh r.bs.nb, o.there a m⟩
    · rw [fput_ne z] at m
      obtain ⟨q1, q2, u, q3, q4⟩ := h4 j a m
      exact ⟨e.hid a u q3 q4 q1, q2, u, e.hh a u q3 q4, q4⟩
/-- what a slot owns becomes shared -/
theorem Rep.frz {sh : Sh} {i : Nat} (r : Rep L fl F B σ H ρ) : ∃ F', Same F F' ∧ Rep L (fl.set i .s) F' B σ H ρ := by
  obtain ⟨Ss, h1, h2, h3, h4⟩ := r.sl
  have s1 : Same F (frzH F H (Ss i)) := frzH_same r.bs.fh
  have s2 : Same (frzH F H (Ss i)) H := frzH_to r.bs.fh
  refine ⟨frzH F H (Ss i), s1, ⟨s2, r.bs.bh, fun a o q t => ?_, frzH_nt r.bs.nf fun a m => (h4 i a m).2.2, r.bs.nb, r.bs.tab⟩, by rw [List.length_set]; exact r.ls, by rw [List.length_set]; exact r.lr, fun j u eo q => ?_, ?_⟩
  · by_cases m : a ∈ Ss i
    · rw [(h4 i a m).2.1] at q; cases q
    · exact frzH_hid (r.bs.bh a o q) (tt_of (r.bs.nb a o q) t) m (r.bs.fb a o q t)
  · by_cases z : j = i
    · subst z
      have hl : j < fl.length := by
        have := (List.getElem?_eq_some_iff.mp q).1
        rwa [List.length_set] at this
      rw [List.getElem?_set_self hl] at q
      cases q
    · rw [List.getElem?_set_ne (Ne.symm z)] at q
      exact ⟨(r.px j u eo q).1, fun dx ws h => s1 _ _ ((r.px j u eo q).2 dx ws h)⟩
  · refine ⟨fput Ss i [], fun j d' q => ?_, fun j k a m1 m2 => ?_, fun j => ?_, fun j a m => ?_⟩
    · obtain ⟨v', sh', a1, a2, a3, a4⟩ := h1 j d' q
      by_cases z : j = i
      · subst z
        rw [fput_eq rfl]
        exact ⟨v', .s, a1, List.getElem?_set_self (List.getElem?_eq_some_iff.mp a2).1, rfl, .d (bw := false) (a4.frz s1.sm frzH_tup a3 fun a m => frzH_in m)⟩
      · rw [fput_ne z]
        exact ⟨v', sh', a1, by rw [List.getElem?_set_ne (Ne.symm z)]; exact a2, a3, a4.mono s1.sm (Sm.refl _)⟩
    · by_cases z1 : j = i
      · rw [fput_eq z1] at m1; cases m1
      · by_cases z2 : k = i
        · rw [fput_eq z2] at m2; cases m2
        · rw [fput_ne z1] at m1; rw [fput_ne z2] at m2; exact h2 j k a m1 m2
    · by_cases z : j = i
      · rw [fput_eq z]; exact List.nodup_nil
      · rw [fput_ne z]; exact h3 j
    · by_cases z : j = i
      · rw [fput_eq z] at m; cases m
      · rw [fput_ne z] at m
        obtain ⟨q1, q2, q3⟩ := h4 j a m
        refine ⟨?_, q2, q3⟩
        obtain ⟨o, w1, w2⟩ := q3
        exact frzH_hid w1 w2 (fun m2 => z (h2 j i a m m2)) q1
/-- a slot's own list changes -/
theorem Rep.mut {e : Sh} {i : Nat} {xs : List PD.D} (r : Rep L fl F B σ H ρ) (hs : fl[i]? = some (.l e)) (hx : ρ[i]? = some (some (.lst xs))) :
    ∃ p vs S, σ[i]? = some (some (.ref p)) ∧ H p = some (.lst vs) ∧ OwnL L.K F H e vs xs S ∧ p ∉ S ∧ F p = none ∧ B p = none ∧ S.Nodup ∧ (∀ a ∈ S, F a = none ∧ B a = none) ∧
      ∀ F' H0 vs' xs' S', Ext L.T F H F' H0 → OwnL L.K F' H0 e vs' xs' S' → p ∉ S' → S'.Nodup → (∀ a ∈ S', F' a = none ∧ B a = none) → (∀ a ∈ S', a ∈ S ∨ Nw H a) →
        Rep L fl F' B σ (upd H0 p (.lst vs')) (ρ.set i (some (.lst xs'))) := by
  obtain ⟨Ss, h1, h2, h3, h4⟩ := r.sl
  obtain ⟨v, sh, a1, a2, a3, a4⟩ := h1 i _ hx
  rw [hs] at a2
  cases a2
  have n3 := h3 i
  have n4 := h4 i
  have n2 := fun j a => h2 i j a
  generalize hS : Ss i = S0 at a4 n3 n4 n2
  cases a4 with
  | l hp ho =>
    rename_i p vs S
    have hpS : p ∉ S ∧ S.Nodup := List.nodup_cons.mp n3
    refine ⟨p, vs, S, a1, hp, ho, hpS.1, (n4 p List.mem_cons_self).1, (n4 p List.mem_cons_self).2.1, hpS.2, fun a m => ⟨(n4 a (List.mem_cons_of_mem _ m)).1, (n4 a (List.mem_cons_of_mem _ m)).2.1⟩, ?_⟩
    intro F' H0 vs' xs' S' ex ho' np' nd' fr' from_
    have r' := r.ext ex
    have Fp : F' p = none := ex.hid p _ hp rfl (n4 p List.mem_cons_self).1
    have Bp : B p = none := (n4 p List.mem_cons_self).2.1
    have at_ : ∀ a, a ≠ p → upd H0 p (.lst vs') a = H0 a := fun a z => upd_ne z
    have Sle : e.noB = true := a3
    refine ⟨⟨fun a o q => ?_, fun a o q => ?_, r'.bs.fb, r'.bs.nf, r'.bs.nb, fun P hP => ?_⟩, r.ls, by rw [List.length_set]; exact r.lr, r'.px, ?_⟩
    · rw [at_ a fun z => by rw [z, Fp] at q; cases q]; exact r'.bs.fh a o q
    · rw [at_ a fun z => by rw [z, Bp] at q; cases q]; exact r'.bs.bh a o q
    · have hp0 := ex.hh p _ hp rfl
      exact tabH_same (fun a o q t => by rw [at_ a fun z => by rw [z, hp0] at q; cases q; cases t]; exact q) (r'.bs.tab P hP)
    · refine ⟨fput Ss i (p :: S'), fun j d' q => ?_, fun j k a m1 m2 => ?_, fun j => ?_, fun j a m => ?_⟩
      · by_cases z : j = i
        · subst z
          rw [fput_eq rfl]
          have hl : j < ρ.length := (List.getElem?_eq_some_iff.mp hx).1
          rw [List.getElem?_set_self hl] at q
          cases q
          exact ⟨_, _, a1, hs, a3, .l upd_same (OwnL.at (Sm.refl _) (TupK.refl.upd (ex.hh p _ hp rfl) rfl) Sle ho' fun a m => at_ a fun z => np' (z ▸ m))⟩
        · rw [fput_ne z]
          rw [List.getElem?_set_ne (Ne.symm z)] at q
          obtain ⟨v', sh', b1, b2, b3, b4⟩ := h1 j d' q
          refine ⟨v', sh', b1, b2, b3, Own.at ex.ff.sm (ex.tup.upd (ex.hh p _ hp rfl) rfl) b3 b4 fun a m => ?_⟩
          have na : a ≠ p := fun w => z (h2 j i a m (by rw [hS, w]; exact List.mem_cons_self))
          rw [at_ a na]
          obtain ⟨_, _, u, q3, q4⟩ := h4 j a m
          rw [q3]
          exact ex.hh a u q3 q4
      · have key : ∀ j a, j ≠ i → a ∈ Ss j → a ∉ p :: S' := fun j a z m w => by
          rcases List.mem_cons.mp w with w | w
          · exact z (h2 j i a m (by rw [hS, w]; exact List.mem_cons_self))
          · rcases from_ a w with w | w
            · exact z (h2 j i a m (by rw [hS]; exact List.mem_cons_of_mem _ w))
            · obtain ⟨_, _, u, q, t⟩ := h4 j a m
              exact w.no q t
        by_cases z1 : j = i <;> by_cases z2 : k = i
        · rw [z1, z2]
        · rw [fput_eq z1] at m1; rw [fput_ne z2] at m2; exact (key k a z2 m2 m1).elim
        · rw [fput_ne z1] at m1; rw [fput_eq z2] at m2; exact (key j a z1 m1 m2).elim
        · rw [fput_ne z1] at m1; rw [fput_ne z2] at m2; exact h2 j k a m1 m2
      · by_cases z : j = i
        · rw [fput_eq z]; exact List.nodup_cons.mpr ⟨np', nd'⟩
        · rw [fput_ne z]; exact h3 j
      · by_cases z : j = i
        · rw [fput_eq z] at m
          rcases List.mem_cons.mp m with w | w
          · subst w; exact ⟨Fp, Bp, _, upd_same, rfl⟩
          · obtain ⟨o, q1, q2⟩ := ho'.there a w
            exact ⟨(fr' a w).1, (fr' a w).2, o, by rw [at_ a fun y => np' (y ▸ w)]; exact q1, q2⟩
        · rw [fput_ne z] at m
          obtain ⟨q1, q2, u, q3, q4⟩ := h4 j a m
          have na : a ≠ p := fun w => z (h2 j i a m (by rw [hS, w]; exact List.mem_cons_self))
          exact ⟨ex.hid a u q3 q4 q1, q2, u, by rw [at_ a na]; exact ex.hh a u q3 q4, q4⟩
end

/-! ### rules for statements -/
section
variable {X : Cx} {L : LE} {J : Jn} {fl fl1 fl' : List Sh} {W : WX} {pos : Pos}
theorem s_nil : PSs X [] (tS L J fl fl W sNx) := pss_nil.imp fun D σ H ⟨F, B, ρ, r, p⟩ => p σ F H (.refl _) r
theorem ss_frz (i : Nat) {st : List Stmt} {f : Env → R Fl} (h : PSs X st (tS L J (fl.set i .s) fl' W f)) : PSs X st (tS L J fl fl' W f) :=
  h.imp fun D σ H ⟨F, B, ρ, r, p⟩ => by
    obtain ⟨F', s, r'⟩ := r.frz (sh := .s) (i := i)
    exact ⟨F', B, ρ, r', p.weak s⟩
theorem s_cons {st : Stmt} {rest : List Stmt} {f g : Env → R Fl} (h1 : PS X st (tS L J fl fl1 W f)) (h2 : PSs X rest (tS L J fl1 fl' W g)) : PSs X (st :: rest) (tS L J fl fl' W (sSeq f g)) :=
  (pss_cons h1 h2).imp fun D σ H ⟨F, B, ρ, r, p⟩ => ⟨F, B, ρ, r, by
    unfold sSeq at p
    cases q : f ρ with
    | ok y =>
      rw [q, bind_ok] at p
      cases y with
      | nx ρ' => exact fun σ' F' H' s r' => ⟨F', B, ρ', r', p.weak s⟩
      | rt d => exact p
      | bk ρ' => exact p
      | ct ρ' => exact p
      | ex c fs ρ' => exact p
    | err c fs => rw [q, bind_err] at p; exact p
    | stuck => rw [q, bind_stuck] at p; exact p⟩
theorem s_one {st : Stmt} {f : Env → R Fl} (h1 : PS X st (tS L J fl fl' W f)) : PSs X [st] (tS L J fl fl' W f) := pss_one h1
theorem s_set (i : Nat) {x : Str} {e : Expr} {sh : Sh} {f : Env → R D} {pos' : Pos} (hN : X.N.Nodup) (he : PE X e (tD L fl sh W f)) (hf' : fl.set i sh = fl1 := by rfl) (hi : X.N[i]? = some x := by rfl) (hx : Loc X.env.scope x := by first | exact Or.inl rfl | exact Or.inr rfl) (nb : sh.noB = true := by rfl)
    (hs : swapsWith e (some (.Name x pos')) pos.line X.env = pure false := by rfl) (hf : X.fn x = true ∨ X.env.scope.names.lookup x = some .local := by first | exact .inl rfl | exact .inr rfl | assumption) :
    PS X (.Assign [.Name x pos'] e pos) (tS L J fl fl1 W (sSet i f)) :=
  (ps_set hN hi hx he hs hf).imp fun D σ H ⟨F, B, ρ, r, p⟩ => ⟨F, B, ρ, r, PostS.bindE r p fun d v F' H' S _ e _ o nd fr p1 => by
    subst hf'
    exact p1 _ F' H' (.refl _) (r.setE e o nb nd fr)⟩
theorem s_expr {e : Expr} {sh : Sh} {f : Env → R D} (he : PE X e (tD L fl sh W f)) (hs : swapsWith e none pos.line X.env = pure false := by rfl) : PS X (.Expr e pos) (tS L J fl fl W (sDrop f)) :=
  (ps_expr he hs).imp fun D σ H ⟨F, B, ρ, r, p⟩ => ⟨F, B, ρ, r, PostS.bindE r p fun d v F' H' S _ e r' o nd fr p1 => p1 σ F' H' (.refl _) r'⟩
theorem s_ret {e : Expr} {f : Env → R D} (he : PE X e (tD L fl J.rs W f)) : PS X (.Return (some e) pos) (tS L J fl fl' W (sRet f)) :=
  (ps_ret he).imp fun D σ H ⟨F, B, ρ, r, p⟩ => ⟨F, B, ρ, r, PostS.bindE r p fun d v F' H' S _ e r' o nd fr p1 => p1 v F' H' S (.refl _) r'.bs o nd fun a m => ⟨(fr a m).1, (fr a m).2.none r.bs.bh r.bs.nb⟩⟩
/-- a slot's own list is handed back -/
theorem s_retO (i : Nat) {x : Str} {pos' : Pos} (hs : fl[i]? = some J.rs := by rfl) (hN : X.N[i]? = some x := by rfl) (hv : Vis X.env.scope x := by first | exact Or.inl rfl | exact Or.inr (Or.inl rfl) | exact Or.inr (Or.inr rfl)) (hd : (x == ("__debug__" : Str)) = false := by decide)
    (hcd : (x == ("__classdict__" : Str)) = false := by decide) : PS X (.Return (some (.Name x pos')) pos) (tS L J fl fl' W (sRet (mV i))) :=
  (ps_ret (pv i hN hv hd hcd)).imp fun D σ H ⟨F, B, ρ, r, p⟩ => by
    unfold sRet mV at p
    cases q : ρ[i]? with
    | none => rw [q] at p; exact p.elim
    | some o =>
      cases o with
      | none => rw [q] at p; exact p.elim
      | some d =>
        rw [q] at p
        obtain ⟨Ss, h1, h2, h3, h4⟩ := r.sl
        obtain ⟨v, sh, a1, a2, a3, a4⟩ := h1 i d q
        rw [hs] at a2
        cases a2
        exact ⟨v, a1, p v F H (Ss i) (.refl _) r.bs a4 (h3 i) fun a m => ⟨(h4 i a m).1, (h4 i a m).2.1⟩⟩
theorem s_if {c : Expr} {a b : List Stmt} {fc : Env → R Bool} {f g : Env → R Fl} (hc : PT X c (tT L fl W fc)) (ha : PSs X a (tS L J fl fl' W f)) (hb : PSs X b (tS L J fl fl' W g)) : PS X (.If c a b pos) (tS L J fl fl' W (sIf fc f g)) :=
  (ps_if hc ha hb).imp fun D σ H ⟨F, B, ρ, r, p⟩ => ⟨F, B, ρ, r, PostS.bindT r p fun b F' H' _ e r' p1 => by
    cases b with
    | true => rw [if_pos rfl] at p1 ⊢; exact ⟨F', B, ρ, r', p1⟩
    | false => rw [if_neg Bool.false_ne_true] at p1 ⊢; exact ⟨F', B, ρ, r', p1⟩⟩
theorem getL_some {ρ : Env} {i : Nat} {xs : List D} (h : getL ρ i = some xs) : ρ[i]? = some (some (.lst xs)) := by
  unfold getL at h
  split at h
  · rename_i d e
    rw [e]
    unfold asLst at h
    split at h
    · cases h; rfl
    · cases h
  · cases h
theorem OwnL.append {K : PySem.W.Frag} {F H : Hp} {e : Sh} : ∀ {vs ws : List V} {ds es : List D} {S S' : List Addr}, OwnL K F H e vs ds S → OwnL K F H e ws es S' → OwnL K F H e (vs ++ ws) (ds ++ es) (S ++ S')
  | _, _, _, _, _, _, .nil, s => s
  | _, _, _, _, _, _, .cons h r, s => by
    rw [List.append_assoc]
    exact .cons h (OwnL.append r s)
theorem OwnL.one {K : PySem.W.Frag} {F H : Hp} {e : Sh} {v : V} {d : D} {S : List Addr} (h : Own K F H e v d S) : OwnL K F H e [v] [d] S := by
  have z := OwnL.cons h (.nil (e := e))
  rw [List.append_nil] at z
  exact z
/-- x.append(e) -/
theorem s_append (i : Nat) {x : Str} {e : Expr} {sh : Sh} {f : Env → R D} {xp apos cpos : Pos} (he : PE X e (tD L fl sh W f)) (hK : X.K = L.K := by rfl) (hs : fl[i]? = some (.l sh) := by rfl) (hN : X.N[i]? = some x := by rfl) (hv : Vis X.env.scope x := by first | exact Or.inl rfl | exact Or.inr (Or.inl rfl) | exact Or.inr (Or.inr rfl)) (hd : (x == ("__debug__" : Str)) = false := by decide)
    (hcd : (x == ("__classdict__" : Str)) = false := by decide) (hbase : attributeBase (.Name x xp) "append" X.env (eval (.Name x xp) X.env) = eval (.Name x xp) X.env := by rfl)
    (hfew : ((backTo cpos (starEach [e] X.env)).all (fun x => !x.1) && (backToKw cpos (keywordEach [] X.env)).all (fun x => x.1.isSome) && decide (([e] : List Expr).length + ([] : List Keyword).length + (if ([] : List Keyword).isEmpty then 0 else 1) < 30)) = true := by rfl)
    (hline : (apos.endLine == cpos.line) = true := by rfl) (hse : starEach [e] X.env = (false, eval e X.env) :: starEach [] X.env := by rfl) (hplain : (backTo cpos (starEach [] X.env)).any (·.1) = false := by rfl)
    (hsw : swapsWith (.Call (.Attribute (.Name x xp) "append" apos) [e] [] cpos) none pos.line X.env = pure false := by rfl) :
    PS X (.Expr (.Call (.Attribute (.Name x xp) "append" apos) [e] [] cpos) pos) (tS L J fl fl W (sApp i f)) :=
  (ps_expr (pe_bm PySem.F.plainAttrs_list PySem.F.slot_list_append PySem.F.type_list_append mt_append (pv i hN hv hd hcd) (pa_cons he pa_nil hse) hbase hfew hline hse hplain) hsw).imp fun D σ H ⟨F, B, ρ, r, p⟩ => by
    unfold sApp at p
    cases q : getL ρ i with
    | none =>
      rw [q] at p
      exact p.elim
    | some xs =>
      rw [q] at p
      have hx := getL_some q
      obtain ⟨l, vs, S, a1, a2, a3, a4, a5, a6, a7, a8, go⟩ := r.mut hs hx
      refine ⟨.ref l, a1, .inl ⟨rfl, _, SqL.of a2⟩, F, B, ρ, r, PostS.bindE r p fun d v F' H' S' _ e r' o nd fr p1 => ?_⟩
      by_cases hl : xs.length < LN
      · rw [if_pos hl] at p1
        have hlv := a3.length
        refine ⟨l, vs, v, rfl, rfl, e.hh l _ a2 rfl, lt_line (by omega), ?_⟩
        refine p1 σ F' _ (.refl _) (go F' H' _ _ (S ++ S') e ((a3.mono e.ff.sm e.hh).append (.one o)) ?_ ?_ ?_ ?_)
        · intro m
          rcases List.mem_append.mp m with m | m
          · exact a4 m
          · exact (fr l m).2.no a2 rfl
        · refine List.nodup_append.mpr ⟨a7, nd, fun a m b m2 z => ?_⟩
          subst z
          obtain ⟨u, w, t⟩ := a3.there a m
          exact (fr a m2).2.no w t
        · intro a m
          rcases List.mem_append.mp m with m | m
          · obtain ⟨u, w, t⟩ := a3.there a m
            exact ⟨e.hid a u w t (a8 a m).1, (a8 a m).2⟩
          · exact ⟨(fr a m).1, (fr a m).2.none r.bs.bh r.bs.nb⟩
        · intro a m
          rcases List.mem_append.mp m with m | m
          · exact .inl m
          · exact .inr (fr a m).2
      · rw [if_neg hl] at p1; exact p1.elim
end
end PD
set_option Elab.async false
set_option linter.all false
set_option maxRecDepth 100000
set_option maxHeartbeats 1000000
namespace PD
open PySem PySem.Spec PyProof.Rows L2

/-! ### what is walked -/
/-- J hands out ds -/
noncomputable def Wk (L : LE) (J : It) (F0 : Hp) (ds : List D) : Prop := ∀ F H, Same F0 F → Same F H → NoT F →
  (∀ i d, ds[i]? = some d → J.go i H ∧ ∀ x H', J.yld i H x H' → ∃ F', Ext L.T F H F' H' ∧ Dat L.K F' x d) ∧ ∀ i, ds.length ≤ i → J.stop i H
noncomputable def PostI (L : LE) (F H : Hp) (r : R (List D)) (W : WX) (σ : L2.St) (Q : It → Hp → Prop) : Prop := match r with
  | .ok ds => ∀ J F' H', Ext L.T F H F' H' → Wk L J F' ds → Q J H'
  | .err c fs => ∀ cls d F' H', Ext L.T F H F' H' → ErrOk L c fs cls d F' H' → W cls d σ H'
  | .stuck => False
noncomputable def tI (L : LE) (fl : List Sh) (W : WX) (f : Env → R (List D)) : TI := fun σ H Q => ∃ F B ρ, Rep L fl F B σ H ρ ∧ PostI L F H (f ρ) W σ Q
/-- targets -/
noncomputable def tG (L : LE) (fl fl1 : List Sh) (vs : List Nat) (T : D → Env → Option Env) : TG := fun v σ H Q => ∃ F B ρ d, Rep L fl F B σ H ρ ∧ Dat L.K F v d ∧ ∃ ρ', T d ρ = some ρ' ∧
  ∀ σ', (σ'.length = σ.length ∧ ∀ j, j ∉ vs → σ'[j]? = σ[j]?) → Rep L fl1 F B σ' H ρ' → Q σ' H
noncomputable def gL : D → Option (List D)
  | .lst xs => some xs
  | .scr ns => some (ns.map .int)
  | _ => none
noncomputable def gT : D → Option (List D)
  | .tup xs => some xs
  | _ => none
noncomputable def gS : D → Option (List D)
  | .str s => some (s.map fun c => .str [c])
  | _ => none
noncomputable def iOf (g : D → Option (List D)) (f : Env → R D) : Env → R (List D) := fun ρ => f ρ >>= fun d => oR (g d)
noncomputable def rngL (lo : Int) (n : Nat) : List D := (List.range n).map fun i => .int (lo + (i : Nat))
noncomputable def LR : Int := 1000000000
noncomputable def gR1 : List D → Option (List D)
  | [.int j] => if -LR ≤ j ∧ j ≤ LR then some (rngL 0 j.toNat) else none
  | _ => none
noncomputable def gR2 : List D → Option (List D)
  | [.int i, .int j] => if (-LR ≤ i ∧ i ≤ LR) ∧ (-LR ≤ j ∧ j ≤ LR) then some (rngL i (j - i).toNat) else none
  | _ => none
theorem gR1_inv {ds xs : List D} (h : gR1 ds = some xs) : ∃ j, ds = [.int j] ∧ (-LR ≤ j ∧ j ≤ LR) ∧ xs = rngL 0 j.toNat := by
  unfold gR1 at h
  split at h
  · split at h
    · cases h; exact ⟨_, rfl, by assumption, rfl⟩
    · cases h
  · cases h
theorem gR2_inv {ds xs : List D} (h : gR2 ds = some xs) : ∃ i j, ds = [.int i, .int j] ∧ ((-LR ≤ i ∧ i ≤ LR) ∧ (-LR ≤ j ∧ j ≤ LR)) ∧ xs = rngL i (j - i).toNat := by
  unfold gR2 at h
  split at h
  · split at h
    · cases h; exact ⟨_, _, rfl, by assumption, rfl⟩
    · cases h
  · cases h
noncomputable def iArgs (g : List D → Option (List D)) (f : Env → R (List D)) : Env → R (List D) := fun ρ => f ρ >>= fun d => oR (g d)

section
variable {X : Cx} {L : LE} {J : Jn} {fl fl1 fl' : List Sh} {W : WX} {pos : Pos} {tg : Expr}
theorem PostI.bindE {F H : Hp} {σ : L2.St} {Q : It → Hp → Prop} {r : R D} {k : D → R (List D)} {P : VK} {sh : Sh} (p : PostI L F H (r >>= k) W σ Q) (h : ∀ d v F' H' S, r = .ok d → PostI L F H (k d) W σ Q → Ext L.T F H F' H' → Own L.K F' H' sh v d S → P v H') : PostE L F H sh r W σ P := by
  cases r with
  | ok d => exact fun v F' H' S e o _ _ => h d v F' H' S rfl p e o
  | err c fs => exact p
  | stuck => exact p
theorem i_list {e : Expr} {f : Env → R D} (he : PE X e (tD L fl .s W f)) (hK : X.K = L.K := by rfl) : PI X tg e (tI L fl W (iOf gL f)) := by
  refine ⟨fun pins s σ H Q I h => (pi_list (tg := tg) he).run pins s σ H Q I ?_⟩
  obtain ⟨F, B, ρ, r, p⟩ := h
  refine ⟨F, B, ρ, r, PostI.bindE p fun d v F1 H1 S _ p1 e1 o1 => ?_⟩
  have dv := (own_d o1).1
  cases d with
  | lst xs =>
    cases dv with
    | lst hv hd =>
      rename_i a vs
      refine ⟨a, rfl, ⟨vs, SqL.of (e1.fh _ _ hv)⟩, p1 _ F1 H1 e1 fun F H s1 s2 nt => ⟨fun i d hi => ?_, fun i hi => ?_⟩⟩
      · obtain ⟨x, hx, hdx⟩ := hd.get hi
        refine ⟨⟨vs, x, SqL.of (s2 _ _ (s1 _ _ hv)), hx⟩, fun x' H' y => ?_⟩
        obtain ⟨rfl, y⟩ := y
        have ex : x' = x := Option.some.inj ((y vs (SqL.of (s2 _ _ (s1 _ _ hv)))).symm.trans hx)
        exact ⟨F, .refl s2 nt, by rw [ex]; exact hdx.mono s1.sm⟩
      · exact ⟨vs, SqL.of (s2 _ _ (s1 _ _ hv)), by rw [hd.length]; exact hi⟩
  | scr ns =>
    cases dv with
    | scr hv =>
      rename_i a
      refine ⟨a, rfl, ⟨_, by rw [hK]; exact sm_l e1.fh.sm hv⟩, p1 _ F1 H1 e1 fun F H s1 s2 nt => ⟨fun i d hi => ?_, fun i hi => ?_⟩⟩
      · have hq : SqL X.K H a (ns.map V.int) := by rw [hK]; exact sm_l s2.sm (sm_l s1.sm hv)
        rw [List.getElem?_map] at hi
        cases q : ns[i]? with
        | none => rw [q] at hi; cases hi
        | some n =>
          rw [q] at hi
          cases hi
          have hx : (ns.map V.int)[i]? = some (.int n) := by rw [List.getElem?_map, q]; rfl
          refine ⟨⟨_, _, hq, hx⟩, fun x' H' y => ?_⟩
          obtain ⟨rfl, y⟩ := y
          have ex : x' = .int n := Option.some.inj ((y _ hq).symm.trans hx)
          exact ⟨F, .refl s2 nt, by rw [ex]; exact .int⟩
      · exact ⟨_, by rw [hK]; exact sm_l s2.sm (sm_l s1.sm hv), by rw [List.length_map] at hi ⊢; exact hi⟩
  | _ => exact p1.elim
theorem i_tup {e : Expr} {f : Env → R D} (he : PE X e (tD L fl .s W f)) (hK : X.K = L.K := by rfl) : PI X tg e (tI L fl W (iOf gT f)) := by
  refine ⟨fun pins s σ H Q I h => (pi_tup (tg := tg) he).run pins s σ H Q I ?_⟩
  obtain ⟨F, B, ρ, r, p⟩ := h
  refine ⟨F, B, ρ, r, PostI.bindE p fun d v F1 H1 S _ p1 e1 o1 => ?_⟩
  have dv := (own_d o1).1
  cases d with
  | tup xs =>
    cases dv with
    | tup hv hd =>
      rename_i a vs
      have at_ : ∀ F H, Same F1 F → Same F H → SqT X.K H a vs := fun F H s1 s2 => by rw [hK]; exact sm_t s2.sm (sm_t s1.sm hv)
      refine ⟨a, rfl, ⟨vs, at_ F1 H1 (.refl _) e1.fh⟩, p1 _ F1 H1 e1 fun F H s1 s2 nt => ⟨fun i d hi => ?_, fun i hi => ?_⟩⟩
      · obtain ⟨x, hx, hdx⟩ := hd.get hi
        refine ⟨⟨vs, x, at_ F H s1 s2, hx⟩, fun x' H' y => ?_⟩
        obtain ⟨rfl, y⟩ := y
        have ex : x' = x := Option.some.inj ((y vs (at_ F _ s1 s2)).symm.trans hx)
        exact ⟨F, .refl s2 nt, by rw [ex]; exact hdx.mono s1.sm⟩
      · exact ⟨vs, at_ F H s1 s2, by rw [hd.length]; exact hi⟩
  | _ => exact p1.elim
theorem i_str {e : Expr} {f : Env → R D} (he : PE X e (tD L fl .s W f)) : PI X tg e (tI L fl W (iOf gS f)) := by
  refine ⟨fun pins s σ H Q I h => (pi_str (tg := tg) he).run pins s σ H Q I ?_⟩
  obtain ⟨F, B, ρ, r, p⟩ := h
  refine ⟨F, B, ρ, r, PostI.bindE p fun d v F1 H1 S _ p1 e1 o1 => ?_⟩
  have dv := (own_d o1).1
  cases d with
  | str z =>
    cases dv
    refine ⟨_, rfl, p1 _ F1 H1 e1 fun F H s1 s2 nt => ⟨fun i d hi => ?_, fun i hi => ?_⟩⟩
    · rw [List.getElem?_map] at hi
      cases q : z[i]? with
      | none => rw [q] at hi; cases hi
      | some c =>
        rw [q] at hi
        cases hi
        have hl := (List.getElem?_eq_some_iff.mp q).1
        refine ⟨(by show i < z.toArray.size; simpa using hl), fun x' H' y => ?_⟩
        obtain ⟨rfl, c', hc, rfl⟩ := y
        have ec : c' = c := by
          have hc2 : z[i]? = some c' := by simpa using hc
          rw [q] at hc2
          exact (Option.some.inj hc2).symm
        refine ⟨F, .refl s2 nt, ?_⟩
        rw [ec]
        exact .str (s := [c])
    · show z.toArray.size ≤ i
      simpa using hi
  | _ => exact p1.elim
theorem wk_rng (lo : Int) (n : Nat) (F : Hp) : Wk L (Itr lo n) F (rngL lo n) := fun F H s1 s2 nt => ⟨fun i d hi => by
    unfold rngL at hi
    rw [List.getElem?_map] at hi
    cases q : (List.range n)[i]? with
    | none => rw [q] at hi; cases hi
    | some k =>
      rw [q] at hi
      cases hi
      obtain ⟨hl, ek⟩ := List.getElem?_eq_some_iff.mp q
      rw [List.getElem_range] at ek
      rw [List.length_range] at hl
      refine ⟨hl, fun x' H' y => ?_⟩
      obtain ⟨rfl, rfl⟩ := y
      exact ⟨F, .refl s2 nt, by rw [ek]; exact .int⟩, fun i hi => by
    unfold rngL at hi
    rw [List.length_map, List.length_range] at hi
    exact hi⟩
theorem PostI.bindA {F H : Hp} {σ : L2.St} {Q : It → Hp → Prop} {r : R (List D)} {k : List D → R (List D)} {bw : Bool} {P : List V → Hp → Prop} (p : PostI L F H (r >>= k) W σ Q) (h : ∀ ds vs F' H', r = .ok ds → PostI L F H (k ds) W σ Q → Ext L.T F H F' H' → DatL L.K (cond bw H' F') vs ds → P vs H') : PostA L F H bw r W σ P := by
  cases r with
  | ok d => exact fun v F' H' e o => h d v F' H' rfl p e o
  | err c fs => exact p
  | stuck => exact p
theorem PostI.oR {F H : Hp} {σ : L2.St} {Q : It → Hp → Prop} {o : Option (List D)} (p : PostI L F H (oR o) W σ Q) : ∃ xs, o = some xs := by
  cases o with
  | none => exact p.elim
  | some xs => exact ⟨xs, rfl⟩
theorem i_range1 {a : Expr} {f : Env → R (List D)} {p : Pos} (hm : X.mg "range" = none) (ha : PA X [a] (tA L fl true W f)) (hg : Gl X "range" := by rfl) (hs : starEach [a] X.env = [(false, eval a X.env)] := by rfl) : PI X tg (.Call (.Name "range" p) [a] [] pos) (tI L fl W (iArgs gR1 f)) := by
  refine ⟨fun pins s σ H Q I h => (pi_range1 (tg := tg) hg hm ha hs).run pins s σ H Q I ?_⟩
  obtain ⟨F, B, ρ, r, p⟩ := h
  refine ⟨F, B, ρ, r, PostI.bindA p fun ds vs F1 H1 _ p1 e1 d1 => ?_⟩
  obtain ⟨xs, q⟩ := p1.oR
  rw [q] at p1
  obtain ⟨j, rfl, b, rfl⟩ := gR1_inv q
  have e : LR = 1000000000 := rfl
  cases d1 with
  | cons h1 h2 =>
    cases h2
    cases h1
    exact ⟨j, rfl, by omega, by omega, p1 _ F1 H1 e1 (wk_rng 0 j.toNat F1)⟩
theorem i_range2 {a b : Expr} {f : Env → R (List D)} {p : Pos} (hm : X.mg "range" = none) (ha : PA X [a, b] (tA L fl true W f)) (hg : Gl X "range" := by rfl) (hs : starEach [a, b] X.env = [(false, eval a X.env), (false, eval b X.env)] := by rfl) (hs2 : starEach [b] X.env = [(false, eval b X.env)] := by rfl) :
    PI X tg (.Call (.Name "range" p) [a, b] [] pos) (tI L fl W (iArgs gR2 f)) := by
  refine ⟨fun pins s σ H Q I h => (pi_range2 (tg := tg) hg hm ha hs hs2).run pins s σ H Q I ?_⟩
  obtain ⟨F, B, ρ, r, p⟩ := h
  refine ⟨F, B, ρ, r, PostI.bindA p fun ds vs F1 H1 _ p1 e1 d1 => ?_⟩
  obtain ⟨xs, q⟩ := p1.oR
  rw [q] at p1
  obtain ⟨i, j, rfl, b, rfl⟩ := gR2_inv q
  have e : LR = 1000000000 := rfl
  cases d1 with
  | cons h1 h2 =>
    cases h2 with
    | cons h2 h3 =>
      cases h3
      cases h1
      cases h2
      exact ⟨i, j, rfl, ⟨by omega, by omega, by omega, by omega⟩, p1 _ F1 H1 e1 (wk_rng i (j - i).toNat F1)⟩
/-! ### targets -/
noncomputable def gSet (i : Nat) : D → Env → Option Env := fun d ρ => some (ρ.set i (some d))
noncomputable def gTup (Ts : List D → Env → Option Env) : D → Env → Option Env := fun d ρ => match d with
  | .tup xs => Ts xs ρ
  | _ => none
noncomputable def gsNil : List D → Env → Option Env
  | [], ρ => some ρ
  | _, _ => none
noncomputable def gsCons (T : D → Env → Option Env) (Ts : List D → Env → Option Env) : List D → Env → Option Env
  | d :: ds, ρ => (T d ρ).bind fun ρ' => Ts ds ρ'
  | _, _ => none
theorem g_name (i : Nat) {x : Str} (hN : X.N.Nodup) (hf' : fl.set i .s = fl1 := by rfl) (hi : X.N[i]? = some x := by rfl) (hx : Loc X.env.scope x := by first | exact Or.inl rfl | exact Or.inr rfl) (hf : X.fn x = true ∨ X.env.scope.names.lookup x = some .local := by first | exact .inl rfl | exact .inr rfl | assumption) : PG X (.Name x pos) (tG L fl fl1 [i] (gSet i)) := by
  refine ⟨fun pins s σ H v u Q I rv h => (pg_name hN hi hx hf).run pins s σ H v u Q I rv ?_⟩
  obtain ⟨F, B, ρ, d, r, dv, ρ', e, go⟩ := h
  cases e
  subst hf'
  refine go _ ⟨List.length_set, fun j hj => ?_⟩ ?_
  · rw [List.getElem?_set_ne]
    intro z
    exact hj (by simp [z])
  · exact r.setE r.refl (.d (bw := false) dv) rfl List.nodup_nil (fun a m => nomatch m)
/-- several targets -/
noncomputable def tGs (L : LE) (fl fl1 : List Sh) (vs : List Nat) (Ts : List D → Env → Option Env) : TGs := fun ws σ H Q => ∃ F B ρ ds, Rep L fl F B σ H ρ ∧ DatL L.K F ws ds ∧ ∃ ρ', Ts ds ρ = some ρ' ∧
  ∀ σ', (σ'.length = σ.length ∧ ∀ j, j ∉ vs → σ'[j]? = σ[j]?) → Rep L fl1 F B σ' H ρ' → Q σ' H
theorem gs_nil : PGs X [] (tGs L fl fl [] gsNil) := by
  refine ⟨fun pins s σ H vs us Q I rv h => pgs_nil.run pins s σ H vs us Q I rv ?_⟩
  obtain ⟨F, B, ρ, ds, r, dv, ρ', e, go⟩ := h
  cases dv with
  | nil => cases e; exact ⟨rfl, go σ ⟨rfl, fun _ _ => rfl⟩ r⟩
  | cons _ _ => cases e
theorem gs_cons {e : Expr} {es : List Expr} {fl2 : List Sh} {v1 v2 : List Nat} {T : D → Env → Option Env} {Ts : List D → Env → Option Env} (h1 : PG X e (tG L fl fl1 v1 T)) (h2 : PGs X es (tGs L fl1 fl2 v2 Ts))
    (hs : (assignEach (e :: es) X.env).map (·.2) = assign e X.env :: (assignEach es X.env).map (·.2) := by rfl) : PGs X (e :: es) (tGs L fl fl2 (v1 ++ v2) (gsCons T Ts)) := by
  refine ⟨fun pins s σ H vs us Q I rv h => (pgs_cons h1 h2 hs).run pins s σ H vs us Q I rv ?_⟩
  obtain ⟨F, B, ρ, ds, r, dv, ρ', e, go⟩ := h
  cases dv with
  | nil => cases e
  | cons hd hr =>
    rename_i v d vs ds
    refine ⟨v, vs, rfl, ?_⟩
    unfold gsCons at e
    cases q : T d ρ with
    | none => simp only [q] at e; cases e
    | some ρ1 =>
      simp only [q] at e
      refine ⟨F, B, ρ, d, r, hd, ρ1, q, fun σ1 ⟨l1, k1⟩ r1 => ⟨F, B, ρ1, ds, r1, hr, ρ', e, fun σ2 ⟨l2, k2⟩ r2 => go σ2 ⟨l2.trans l1, fun j hj => ?_⟩ r2⟩⟩
      rw [List.mem_append, not_or] at hj
      rw [k2 j hj.2, k1 j hj.1]
theorem g_tup {es : List Expr} {k : Nat} {vs : List Nat} {Ts : List D → Env → Option Env} (n : Nat) (hn0 : ∀ ds ρ ρ', Ts ds ρ = some ρ' → ds.length = n) (h : PGs X es (tGs L fl fl1 vs Ts)) (hK : X.K = L.K := by rfl) (hc : X.calm = true := by rfl)
    (hn : (assignEach es X.env).length = n := by rfl) (hst : (assignEach es X.env).findIdx? (·.1) = none := by rfl) : PG X (.Tuple es k pos) (tG L fl fl1 vs (gTup Ts)) := by
  refine ⟨fun pins s σ H v u Q I rv hh => (pg_tup hc h hn hst).run pins s σ H v u Q I rv ?_⟩
  obtain ⟨F, B, ρ, d, r, dv, ρ', e, go⟩ := hh
  cases dv with
  | tup hv hd =>
    refine ⟨_, _, rfl, by rw [hK]; exact sm_t r.bs.fh.sm hv, ?_, F, B, ρ, _, r, hd, ρ', e, go⟩
    rw [hd.length]
    exact hn0 _ _ _ e
  | _ => cases e
theorem gs_len0 : ∀ ds ρ ρ', gsNil ds ρ = some ρ' → ds.length = 0
  | [], _, _, _ => rfl
  | _ :: _, _, _, h => by cases h
theorem gs_lenS {T : D → Env → Option Env} {Ts : List D → Env → Option Env} {n : Nat} (h : ∀ ds ρ ρ', Ts ds ρ = some ρ' → ds.length = n) : ∀ ds ρ ρ', gsCons T Ts ds ρ = some ρ' → ds.length = n + 1
  | [], _, _, e => by cases e
  | d :: ds, ρ, ρ', e => by
    unfold gsCons at e
    cases q : T d ρ with
    | none => simp only [q] at e; cases e
    | some ρ1 =>
      simp only [q] at e
      rw [List.length_cons, h ds ρ1 ρ' e]

/-! ### for -/
noncomputable def sLoop (T : D → Env → Option Env) (body : Env → R Fl) : List D → Env → R Fl
  | [], ρ => .ok (.nx ρ)
  | d :: ds, ρ => match T d ρ with
    | none => .stuck
    | some ρ1 => body ρ1 >>= fun r => match r with
      | .nx ρ' => sLoop T body ds ρ'
      | .ct ρ' => sLoop T body ds ρ'
      | .bk ρ' => .ok (.nx ρ')
      | r => .ok r
noncomputable def sFor (f : Env → R (List D)) (T : D → Env → Option Env) (body : Env → R Fl) : Env → R Fl := fun ρ => liftE (f ρ) ρ fun ds => sLoop T body ds ρ
theorem PostS.bindI {F B H : Hp} {σ : L2.St} {ρ : Env} {D : Ends} {r : R (List PD.D)} {k : List PD.D → R Fl} {P : It → Hp → Prop} (rp : Rep L fl F B σ H ρ) (p : PostS L J fl' F B W D (liftE r ρ k))
    (h : ∀ ds Jt F' H', r = .ok ds → Ext L.T F H F' H' → Rep L fl F' B σ H' ρ → Wk L Jt F' ds → PostS L J fl' F' B W D (k ds) → P Jt H') : PostI L F H r W σ P := by
  cases r with
  | ok d => exact fun Jt F' H' e w => h d Jt F' H' rfl e (rp.ext e) w (PostS.weak p e.ff)
  | err c fs => exact fun cls d F' H' e x => p cls d fl σ F' H' e.ff (rp.ext e) x
  | stuck => exact p
theorem s_for {iter : Expr} {body : List Stmt} {f : Env → R (List D)} {vs : List Nat} {T : D → Env → Option Env} {b : Env → R Fl} (hp : PassesOwn (model X.prog X.w) X.A X.env X.xe) (hi : PI X tg iter (tI L fl W f)) (hg : PG X tg (tG L fl fl vs T))
    (hb : PSs X body (tS L { J with fk := fl, fc := fl } fl fl W b)) (hc : X.calm = true := by rfl) (hs : ∀ x, foldedSetIterable iter X.env x = pure x := by intro _; rfl) : PS X (.For tg iter body [] pos) (tS L J fl fl W (sFor f T b)) :=
  (ps_for hp hc hi hg hb hs).imp fun D σ H ⟨F, B, ρ, r, p⟩ => ⟨F, B, ρ, r, PostS.bindI r p fun ds Jt F1 H1 _ e1 r1 w p1 => by
    refine ⟨fun i m σ H => m = ds.length - i ∧ i ≤ ds.length ∧ ∃ F2 ρ2, Same F1 F2 ∧ Rep L fl F2 B σ H ρ2 ∧ PostS L J fl F2 B W D (sLoop T b (ds.drop i) ρ2), ⟨ds.length, rfl, Nat.zero_le _, F1, ρ, .refl _, r1, p1⟩, ?_⟩
    rintro i m σ2 H2 ⟨rfl, hle, F2, ρ2, s2, r2, p2⟩
    obtain ⟨w1, w2⟩ := w F2 H2 s2 r2.bs.fh r2.bs.nf
    by_cases hlt : i < ds.length
    · have hd : ds[i]? = some ds[i] := List.getElem?_eq_getElem hlt
      obtain ⟨go, yl⟩ := w1 i _ hd
      refine .inr ⟨go, fun σ' H' => ∃ F3 ρ3, Same F1 F3 ∧ Rep L fl F3 B σ' H' ρ3 ∧ PostS L J fl F3 B W D (sLoop T b (ds.drop (i + 1)) ρ3), fun σ' H' n => ⟨ds.length - (i + 1), by omega, rfl, hlt, n⟩, fun x H' y => ?_⟩
      obtain ⟨F3, e3, d3⟩ := yl x H' y
      rw [List.drop_eq_getElem_cons hlt] at p2
      unfold sLoop at p2
      cases q : T ds[i] ρ2 with
      | none => rw [q] at p2; exact p2.elim
      | some ρ3 =>
        rw [q] at p2
        dsimp only at p2
        refine ⟨F3, B, ρ2, ds[i], r2.ext e3, d3, ρ3, q, fun σ3 _ r3 => ⟨F3, B, ρ3, r3, ?_⟩⟩
        have p3 := p2.weak e3.ff
        have s3 : Same F1 F3 := s2.trans e3.ff
        cases qb : b ρ3 with
        | ok y =>
          rw [qb, bind_ok] at p3
          cases y with
          | nx ρ' => exact fun σ' F' H' s r' => ⟨F', ρ', s3.trans s, r', p3.weak s⟩
          | rt d => exact p3
          | bk ρ' => exact p3
          | ct ρ' => exact fun σ' F' H' s r' => ⟨F', ρ', s3.trans s, r', p3.weak s⟩
          | ex c fs ρ' => exact p3
        | err c fs => rw [qb, bind_err] at p3; exact p3
        | stuck => rw [qb, bind_stuck] at p3; exact p3
    · have e : i = ds.length := by omega
      subst e
      rw [List.drop_length] at p2
      exact .inl ⟨w2 _ (Nat.le_refl _), p2 σ2 F2 H2 (.refl _) r2⟩⟩

/-! ### while -/
end
end PD
set_option Elab.async false
set_option linter.all false
set_option maxRecDepth 100000
set_option maxHeartbeats 1000000
namespace PD
open PySem PySem.Spec PyProof.Rows L2

/-! ### defs -/
noncomputable def PostF (L : LE) (F B : Hp) (rs : Sh) (r : R D) (Q : VK) (E : XK) : Prop := match r with
  | .ok d => ∀ v F' H' S, Same F F' → Bs L F' B H' → Own L.K F' H' rs v d S → S.Nodup → (∀ a ∈ S, F' a = none ∧ B a = none) → Q v H'
  | .err c fs => ∀ cls d F' H', Same F F' → Bs L F' B H' → ErrOk L c fs cls d F' H' → E cls d H'
  | .stuck => False
noncomputable def spD (L : LE) (rs : Sh) (n : Nat) (m : List D → R D) : Sp := fun vs H Q E => ∃ F B ds, Bs L F B H ∧ DatL L.K F vs ds ∧ ds.length = n ∧ PostF L F B rs (m ds) Q E
noncomputable def mFn (n : Nat) (fall : Bool) (b : Env → R Fl) : List D → R D := fun ds => match b (ds.map some ++ List.replicate (n - ds.length) none) with
  | .ok (.nx _) => if fall = true then .ok .non else .stuck
  | .ok (.rt d) => .ok d
  | .ok (.ex c fs _) => .err c fs
  | _ => .stuck
/-- a def that may be called: its level k, its result's shape, its number of parameters, its mirror -/
structure Cal (P : Program) (w : World) (K : PySem.W.Frag) (mg : Str → Option Value) (base : Heap) (L : LE) (x : Str) (k : Nat) (rs : Sh) (n : Nat) (m : List D → R D) : Prop where
  ex : ∃ f fd ps, FnOk P w K mg base (L2.CX P w) k f fd ps (spD L rs n m) ∧ mg x = some (.ref f) ∧ PySem.W.keepIn K (.ref f) = true ∧ Binds K fd ps []
noncomputable def WF' (E : XK) : WX := fun cls d _ H => E cls d H
section
variable {P : Program} {w : World} {K : PySem.W.Frag} {mg : Str → Option Value} {base : Heap} {L : LE}
theorem rep_start {N : List Str} {vs : List V} {ds : List D} {F B H : Hp} {fl rest : List Sh} (b : Bs L F B H) (d : DatL L.K F vs ds) (hf : fl = List.replicate ds.length .s ++ rest) (hn : fl.length = N.length) (hx : fl.all (fun sh => !sh.isX) = true) :
    Rep L fl F B (L2.start N vs) H (ds.map some ++ List.replicate (N.length - ds.length) none) := by
  have hl := d.length
  have h1 : ds.length ≤ N.length := by
    rw [← hn, hf, List.length_append, List.length_replicate]
    omega
  refine ⟨b, ?_, ?_, fun i u eo q => ?_, fun _ => [], fun i d' q => ?_, (fun i j a m => nomatch m), fun _ => List.nodup_nil, fun i a m => nomatch m⟩
  · unfold L2.start
    rw [List.length_append, List.length_map, List.length_replicate, hl, hn]
    omega
  · rw [List.length_append, List.length_map, List.length_replicate, hn]
    omega
  · have := List.all_eq_true.mp hx _ (List.mem_of_getElem? q)
    cases this
  · by_cases hi : i < ds.length
    · rw [List.getElem?_append_left (by rw [List.length_map]; exact hi), List.getElem?_map, List.getElem?_eq_getElem hi] at q
      cases q
      obtain ⟨v, e, dv⟩ := d.get (List.getElem?_eq_getElem hi)
      refine ⟨v, .s, ?_, ?_, rfl, .d (bw := false) dv⟩
      · unfold L2.start
        rw [List.getElem?_append_left (by rw [List.length_map, hl]; exact hi), List.getElem?_map, e]
        rfl
      · rw [hf, List.getElem?_append_left (by rw [List.length_replicate]; exact hi), List.getElem?_replicate, if_pos hi]
    · rw [List.getElem?_append_right (by rw [List.length_map]; omega), List.getElem?_replicate] at q
      split at q <;> cases q
theorem fnD {x qual : Str} {st : Stmt} {f : Addr} {fd : FuncData} {N ps : List Str} {k : Nat} (F : Fun K x qual st f fd) (S : FnScope N ps (defScope st)) (hL : L.K = K) {fl fl' rest : List Sh} {rs : Sh} {b : Env → R Fl} (fall : Bool)
    (hfl : fl = List.replicate ps.length .s ++ rest) (hln : fl.length = N.length) (hfall : fall = true → rs = .s)
    (hb : ∀ (cdv : Value) (A : Around) (outer : List PySem.Env) (s : Shared) (H : Hp) (E : XK), Room k (A.deeper (envOfC qual (defScope st) s.heap.objs.size f cdv)) →
      PSs (cxOf (L2.CX P w) P w K mg base N qual (defScope st) f cdv A outer s H E) (defBody st) (tS L ⟨rs, [], []⟩ fl fl' (WF' E) b))  (hnx : fl.all (fun sh => !sh.isX) = true := by rfl) :
    FnOk P w K mg base (L2.CX P w) (k + 1) f fd ps (spD L rs ps.length (mFn N.length fall b)) := by
  refine F.okX S (fun vs H Q E ⟨_, _, ds, _, d, hl, _⟩ => d.length.trans hl) (fun cdv A outer s H vs Q E hr ⟨F0, B, ds, bs, d, hl, p⟩ => ⟨_, hb cdv A outer s H E hr, ?_⟩)
  refine ⟨F0, B, _, rep_start (N := N) bs d (by rw [hl]; exact hfl) hln hnx, ?_⟩
  unfold mFn at p
  generalize b (ds.map some ++ List.replicate (N.length - ds.length) none) = r at p
  cases r with
  | ok y =>
    cases y with
    | nx ρ =>
      dsimp only at p
      cases fall with
      | false => rw [if_neg Bool.false_ne_true] at p; exact p.elim
      | true =>
        rw [if_pos rfl] at p
        have e := hfall rfl
        subst e
        exact fun σ' F' H' s r' => p .non F' H' [] s r'.bs (.d (bw := false) .non) List.nodup_nil (fun a m => nomatch m)
    | rt d => exact p
    | bk ρ => exact p.elim
    | ct ρ => exact p.elim
    | ex c fs ρ => exact fun cls d fl0 σ' F' H' s r' x => p cls d F' H' s r'.bs x
  | err c fs => exact p.elim
  | stuck => exact p.elim
theorem cal_of {x : Str} {f : Addr} {fd : FuncData} {ps : List Str} {k n : Nat} {rs : Sh} {m : List D → R D} {st : Stmt} {qual : Str} (G : FnOk P w K mg base (L2.CX P w) k f fd ps (spD L rs n m)) (F : Fun K x qual st f fd) (b : Binds K fd ps []) (hm : mg x = some (.ref f)) : Cal P w K mg base L x k rs n m :=
  ⟨f, fd, ps, G, hm, F.kp, b⟩
end

/-! ### calls -/
noncomputable def mCall (n : Nat) (m : List D → R D) (fs : Env → R (List D)) : Env → R D := fun ρ => fs ρ >>= fun ds => if ds.length = n then m ds else .stuck
noncomputable def noF {α : Type} (r : R α) : R α := match r with
  | .err c (_ :: _) => .stuck
  | r => r
noncomputable def mCallA (n : Nat) (m : List D → R D) (fs : Env → R (List D)) : Env → R D := fun ρ => fs ρ >>= fun ds => if ds.length = n then noF (m ds) >>= fun d => if isAtom d = true then .ok d else .stuck else .stuck
open Classical in
noncomputable def offH (F H : Hp) : Hp := fun a => if F a = none then (match H a with
  | some o => if isTbl o = true then none else some o
  | none => none) else none
noncomputable def visH (H : Hp) : Hp := fun a => match H a with
  | some o => if isTbl o = true then none else some o
  | none => none
section
variable {F H F' H' : Hp}
theorem visH_some {a : Addr} {o : HO} (h : H a = some o) (t : isTbl o = false) : visH H a = some o := by
  unfold visH; rw [h]; dsimp only; rw [if_neg (by rw [t]; exact Bool.false_ne_true)]
theorem visH_of {a : Addr} {o : HO} (h : visH H a = some o) : H a = some o ∧ isTbl o = false := by
  unfold visH at h
  cases q : H a with
  | none => rw [q] at h; cases h
  | some u =>
    rw [q] at h
    dsimp only at h
    by_cases t : isTbl u = true
    · rw [if_pos t] at h; cases h
    · rw [if_neg t] at h; cases h; exact ⟨rfl, by simpa using t⟩
theorem offH_some {a : Addr} {o : HO} (n : F a = none) (h : H a = some o) (t : isTbl o = false) : offH F H a = some o := by
  unfold offH; rw [if_pos n, h]; dsimp only; rw [if_neg (by rw [t]; exact Bool.false_ne_true)]
theorem offH_of {a : Addr} {o : HO} (h : offH F H a = some o) : F a = none ∧ H a = some o ∧ isTbl o = false := by
  unfold offH at h
  by_cases n : F a = none
  · rw [if_pos n] at h
    exact ⟨n, visH_of (H := H) h⟩
  · rw [if_neg n] at h; cases h
theorem offH_bs {L : LE} {B : Hp} (b : Bs L F B H) : Bs L F (offH F H) H :=
  ⟨b.fh, fun a o h => (offH_of h).2.1, fun a o h _ => (offH_of h).1, b.nf, fun a o h => (offH_of h).2.2, b.tab⟩
theorem offH_ext {L : LE} (s : Same F F') (fh0 : Same F H) (b : Bs L F' (offH F H) H') : Ext L.T F H F' H' := by
  refine ⟨fun a o h t => ?_, fun P m _ => b.tab P m, s, b.fh, fun a o h t n => b.fb a o (offH_some n h t) (tt_tup t), b.nf⟩
  cases q : F a with
  | none => exact b.bh a o (offH_some q h t)
  | some u =>
    have z := fh0 a u q
    rw [h] at z
    cases z
    exact b.fh a o (s a o q)
end
section
variable {X : Cx} {L : LE} {fl : List Sh} {W : WX} {pos : Pos}
theorem e_call {x : Str} {p : Pos} {e : Expr} {es : List Expr} {k j n : Nat} {rs : Sh} {m : List D → R D} {fs : Env → R (List D)} (c : Cal X.prog X.w X.K X.mg X.base L x k rs n m) (hr : Room j X.A) (tk : Takes X W)
    (ha : PA X (e :: es) (tA L fl false W fs)) (hk : k ≤ j := by first | decide | omega) (hg : Gl X x := by rfl) (hdb : (x == ("__debug__" : Str)) = false := by decide) (he : starEach (e :: es) X.env = (false, eval e X.env) :: starEach es X.env := by rfl) (hpl : (backTo pos (starEach es X.env)).any (·.1) = false := by rfl) :
    PE X (.Call (.Name x p) (e :: es) [] pos) (tD L fl rs W (mCall n m fs)) := by
  obtain ⟨f, fd, ps, G, hm, hkp, hb⟩ := c.ex
  refine (pe_callS G (hr.mono hk) hg hm hkp hb (fun σ => passAt tk σ) ha hdb he hpl).imp fun σ H Q ⟨F, B, ρ, r, p⟩ => ?_
  refine tA_bind rfl r (k := fun ds => if ds.length = n then m ds else .stuck) p fun ds vs F1 H1 _ e1 r1 d1 p1 => ?_
  by_cases hl : ds.length = n
  · rw [if_pos hl] at p1
    refine ⟨F1, offH F1 H1, ds, offH_bs r1.bs, d1, hl, ?_⟩
    unfold PostE at p1
    unfold PostF
    cases q : m ds with
    | ok d =>
      rw [q] at p1
      intro v F2 H2 S s b o nd fr
      refine p1 v F2 H2 S (offH_ext s r1.bs.fh b) o nd fun a m => ⟨(fr a m).1, fun u hu => ?_⟩
      cases t : isTbl u with
      | true => rfl
      | false =>
        have z := (fr a m).2
        cases qf : F1 a with
        | none => rw [offH_some qf hu t] at z; cases z
        | some u' =>
          have z2 := (fr a m).1
          rw [s a u' qf] at z2
          cases z2
    | err c fs =>
      rw [q] at p1
      exact fun cls d F2 H2 s b x => p1 cls d F2 H2 (offH_ext s r1.bs.fh b) x
    | stuck => rw [q] at p1; exact p1
  · rw [if_neg hl] at p1; exact p1.elim
/-! ### raise -/
/-- an own class of errors without an __init__ -/
structure Xcl (K : PySem.W.Frag) (mg : Str → Option Value) (L : LE) (c : Str) : Prop where
  g : mg c = some (.ref (L.ca c))
  x : PySem.W.excIn K (L.ca c) [.type "ValueError", .type "Exception", .type "BaseException", .type "object"] "ValueError.__new__" = true
  k : PySem.W.keepIn K (.ref (L.ca c)) = true
  b : PySem.W.subIn K (.ref (L.ca c)) (.type "BaseException") = some true
  t : PySem.W.typeIn K (.ref (L.ca c)) = some (.type "type")
theorem s_raise {J : Jn} {fl' : List Sh} {c m : Str} {j : Nat} {p p2 pos' : Pos} (q : Xcl X.K X.mg L c) (tk : Takes X W) (hc : X.calm = true := by rfl) (hg : Gl X c := by rfl) (hdb : (c == ("__debug__" : Str)) = false := by decide) :
    PS X (.Raise (some (.Call (.Name c p) [.Constant (.str m) j p2] [] pos')) none pos) (tS L J fl fl' W (sRaise c)) :=
  (ps_raise hc tk (pmk_own PySem.F.excBase_ValueError q.x q.g q.k (raises_own q.b q.t) hg hdb)).imp fun D σ H ⟨F, B, ρ, r, p⟩ => p _ _ fl σ F H (.refl _) r ⟨rfl, rfl⟩

/-! ### list comprehensions -/
noncomputable def wipeD (ρ : Env) : List Nat → Env
  | [] => ρ
  | v :: vs => (wipeD ρ vs).set v none
noncomputable def nE {α : Type} (r : R α) : R α := match r with
  | .ok a => .ok a
  | _ => .stuck
noncomputable def lcGo (T : D → Env → Option Env) (ft : Env → R Bool) (fe : Env → R D) (ρ : Env) : List D → R (List D)
  | [] => .ok []
  | d :: ds => match T d ρ with
    | none => .stuck
    | some ρ' => nE (ft ρ') >>= fun b => if b = true then nE (fe ρ') >>= fun y => lcGo T ft fe ρ ds >>= fun ys => .ok (y :: ys) else lcGo T ft fe ρ ds
noncomputable def mLc (fi : Env → R (List D)) (vs : List Nat) (T : D → Env → Option Env) (ft : Env → R Bool) (fe : Env → R D) : Env → R D := fun ρ => fi ρ >>= fun ds => lcGo T ft fe (wipeD ρ vs) ds >>= fun xs => if xs.length ≤ LN then .ok (.lst xs) else .stuck
noncomputable def mYes : Env → R Bool := fun _ => .ok true
noncomputable abbrev W0 : WX := fun _ _ _ _ => False
theorem wipe_get {σ : L2.St} {j : Nat} : ∀ {vs : List Nat}, (wipe σ vs)[j]? = if j ∈ vs ∧ j < σ.length then some none else σ[j]?
  | [] => by simp [wipe]
  | v :: vs => by
    unfold wipe
    by_cases hv : v = j
    · subst hv
      by_cases hl : v < σ.length
      · rw [List.getElem?_set_self (by rw [wipe_length]; exact hl), if_pos ⟨List.mem_cons_self, hl⟩]
      · rw [if_neg fun z => hl z.2, List.getElem?_eq_none (by rw [List.length_set, wipe_length]; omega), List.getElem?_eq_none (by omega)]
    · rw [List.getElem?_set_ne hv, wipe_get]
      have e : (j ∈ v :: vs ∧ j < σ.length) ↔ (j ∈ vs ∧ j < σ.length) := by simp [Ne.symm hv]
      by_cases m : j ∈ vs ∧ j < σ.length
      · rw [if_pos m, if_pos (e.mpr m)]
      · rw [if_neg m, if_neg fun z => m (e.mp z)]
theorem wipeD_length {ρ : Env} : ∀ {vs : List Nat}, (wipeD ρ vs).length = ρ.length
  | [] => rfl
  | v :: vs => by unfold wipeD; rw [List.length_set, wipeD_length]
theorem wipeD_some {ρ : Env} {i : Nat} {d : D} : ∀ {vs : List Nat}, (wipeD ρ vs)[i]? = some (some d) → ρ[i]? = some (some d) ∧ i ∉ vs
  | [], h => ⟨h, by simp⟩
  | v :: vs, h => by
    unfold wipeD at h
    by_cases hv : v = i
    · subst hv
      by_cases hl : v < (wipeD ρ vs).length
      · rw [List.getElem?_set_self hl] at h; cases h
      · rw [List.getElem?_eq_none (by rw [List.length_set]; omega)] at h; cases h
    · rw [List.getElem?_set_ne hv] at h
      obtain ⟨a, b⟩ := wipeD_some h
      exact ⟨a, by simp [b, Ne.symm hv]⟩
/-- no slot of vs holds a just value -/
noncomputable def noXs (fl : List Sh) (vs : List Nat) : Bool := vs.all fun i => match fl[i]? with
  | some (.x _ _) => false
  | _ => true
theorem noXs_no {fl : List Sh} {vs : List Nat} {i : Nat} {u : V} {eo : Option (Addr × List (Str × V))} (h : noXs fl vs = true) (m : i ∈ vs) (q : fl[i]? = some (Sh.x u eo)) : False := by
  have := List.all_eq_true.mp h i m
  rw [q] at this
  cases this
theorem Rep.wipe {F B H : Hp} {σ : L2.St} {ρ : Env} (r : Rep L fl F B σ H ρ) (vs : List Nat) (hx : noXs fl vs = true) : Rep L fl F B (L2.wipe σ vs) H (wipeD ρ vs) := by
  obtain ⟨Ss, h1, h2, h3, h4⟩ := r.sl
  refine ⟨r.bs, by rw [wipe_length]; exact r.ls, by rw [wipeD_length]; exact r.lr, fun i u eo q => by rw [wipe_get, if_neg fun z => noXs_no hx z.1 q]; exact r.px i u eo q, Ss, fun i d q => ?_, h2, h3, h4⟩
  obtain ⟨q1, q2⟩ := wipeD_some q
  obtain ⟨v, sh, a1, a2⟩ := h1 i d q1
  exact ⟨v, sh, by rw [wipe_get, if_neg fun z => q2 z.1]; exact a1, a2⟩
theorem wipe_same {σ σ' : L2.St} {vs : List Nat} (hl : σ'.length = σ.length) (h : ∀ j, j ∉ vs → σ'[j]? = σ[j]?) : wipe σ' vs = wipe σ vs := by
  apply List.ext_getElem?
  intro j
  rw [wipe_get, wipe_get, hl]
  by_cases m : j ∈ vs
  · by_cases l : j < σ.length
    · rw [if_pos ⟨m, l⟩, if_pos ⟨m, l⟩]
    · rw [if_neg fun z => l z.2, if_neg fun z => l z.2, List.getElem?_eq_none (by omega), List.getElem?_eq_none (by omega)]
  · rw [if_neg fun z => m z.1, if_neg fun z => m z.1, h j m]
theorem wipe_wipe {σ : L2.St} {vs : List Nat} : wipe (wipe σ vs) vs = wipe σ vs := by
  apply List.ext_getElem?
  intro j
  rw [wipe_get, wipe_length]
  by_cases m : j ∈ vs ∧ j < σ.length
  · rw [if_pos m, wipe_get, if_pos m]
  · rw [if_neg m]
theorem lc_noerr {T : D → Env → Option Env} {ft : Env → R Bool} {fe : Env → R D} {ρ : Env} {c : Str} {fs : List (Str × D)} : ∀ ds : List D, lcGo T ft fe ρ ds ≠ .err c fs
  | [], h => by cases h
  | d :: ds, h => by
    unfold lcGo at h
    split at h
    · cases h
    · rename_i ρ' _
      cases qt : ft ρ' with
      | ok b =>
        rw [qt] at h
        cases b with
        | true =>
          cases qe : fe ρ' with
          | ok y =>
            rw [qe] at h
            cases q : lcGo T ft fe ρ ds with
            | ok ys => rw [q] at h; cases h
            | err c fs => exact lc_noerr ds q
            | stuck => rw [q] at h; cases h
          | err c fs => rw [qe] at h; cases h
          | stuck => rw [qe] at h; cases h
        | false => exact lc_noerr ds h
      | err c fs => rw [qt] at h; cases h
      | stuck => rw [qt] at h; cases h
theorem t_lc {fi : Env → R (List D)} {vs : List Nat} {T : D → Env → Option Env} {ft : Env → R Bool} {fe : Env → R D} {σ : L2.St} {H : Hp} {Q : VK} (hw : noXs fl vs = true) (h : tD L fl (.l .s) W (mLc fi vs T ft fe) σ H Q) :
    tLc (tI L fl W fi) (tG L fl fl vs T) (tT L fl W0 ft) (tD L fl .s W0 fe) vs σ H Q := by
  obtain ⟨F, B, ρ, r, p⟩ := h
  refine ⟨F, B, ρ, r, ?_⟩
  unfold mLc at p
  cases qi : fi ρ with
  | err c fs => rw [qi, bind_err] at p; exact p
  | stuck => rw [qi, bind_stuck] at p; exact p
  | ok ds =>
    rw [qi, bind_ok] at p
    intro Jt F1 H1 e1 w Dn hD
    have r1 := r.ext e1
    have p := p.weak e1
    cases qg : lcGo T ft fe (wipeD ρ vs) ds with
    | err c fs =>
      exfalso
      exact lc_noerr _ qg
    | stuck => rw [qg, bind_stuck] at p; exact p.elim
    | ok xs =>
      rw [qg, bind_ok] at p
      by_cases hlen : xs.length ≤ LN
      · rw [if_pos hlen] at p
        have hF1 : F1 Dn = none := e1.fh.free hD
        refine ⟨fun i m H => m = ds.length - i ∧ i ≤ ds.length ∧ ∃ F' acc dacc rest, Ext L.T F1 H1 F' H ∧ F' Dn = none ∧ H Dn = some (.lst acc) ∧ DatL L.K F' acc dacc ∧ lcGo T ft fe (wipeD ρ vs) (ds.drop i) = .ok rest ∧ xs = dacc ++ rest,
          ⟨ds.length, rfl, Nat.zero_le _, F1, [], [], xs, Ext.newH r1.bs.fh r1.bs.nf hD, hF1, upd_same, .nil, qg, rfl⟩, ?_⟩
        rintro i m H2 ⟨rfl, hle, F2, acc, dacc, rest, e2, hF2, hacc, hd, hg, hx⟩
        obtain ⟨w1, w2⟩ := w F2 H2 e2.ff e2.fh e2.nt
        by_cases hlt : i < ds.length
        · have hdi : ds[i]? = some ds[i] := List.getElem?_eq_getElem hlt
          obtain ⟨go, yl⟩ := w1 i _ hdi
          refine .inr ⟨go, fun H' => ∃ F' acc dacc rest, Ext L.T F1 H1 F' H' ∧ F' Dn = none ∧ H' Dn = some (.lst acc) ∧ DatL L.K F' acc dacc ∧ lcGo T ft fe (wipeD ρ vs) (ds.drop (i + 1)) = .ok rest ∧ xs = dacc ++ rest,
            fun H' n => ⟨ds.length - (i + 1), by omega, rfl, hlt, n⟩, fun x H3 y => ?_⟩
          obtain ⟨F3, e3, d3⟩ := yl x H3 y
          have e13 := e2.trans e3
          have r3 : Rep L fl F3 B (wipe σ vs) H3 (wipeD ρ vs) := (r1.ext e13).wipe vs hw
          rw [List.drop_eq_getElem_cons hlt] at hg
          unfold lcGo at hg
          cases qT : T ds[i] (wipeD ρ vs) with
          | none => rw [qT] at hg; cases hg
          | some ρ' =>
            rw [qT] at hg
            dsimp only at hg
            refine ⟨F3, B, wipeD ρ vs, ds[i], r3, d3, ρ', qT, fun σ' ⟨hl', hk'⟩ r4 => ⟨?_, ?_⟩⟩
            · rw [wipe_same hl' hk', wipe_wipe]
            · refine ⟨F3, B, ρ', r4, ?_⟩
              cases qt : ft ρ' with
              | err c fs => rw [qt] at hg; cases hg
              | stuck => rw [qt] at hg; cases hg
              | ok b =>
                rw [qt] at hg
                have hg : (if b = true then nE (fe ρ') >>= fun y => lcGo T ft fe (wipeD ρ vs) (ds.drop (i + 1)) >>= fun ys => .ok (y :: ys) else lcGo T ft fe (wipeD ρ vs) (ds.drop (i + 1))) = .ok rest := hg
                intro F4 H4 e4
                have hF4 : ∀ {F5 H5}, Ext L.T F2 H2 F5 H5 → F5 Dn = none := fun e => e.hid Dn _ hacc rfl hF2
                cases b with
                | false =>
                  rw [if_neg Bool.false_ne_true] at hg ⊢
                  have e24 := e3.trans e4
                  exact ⟨F4, acc, dacc, rest, e13.trans e4, hF4 e24, e24.hh _ _ hacc rfl, hd.mono e24.ff.sm, hg, hx⟩
                | true =>
                  rw [if_pos rfl] at hg ⊢
                  refine ⟨F4, B, ρ', r4.ext e4, ?_⟩
                  cases qe : fe ρ' with
                  | err c fs => rw [qe] at hg; cases hg
                  | stuck => rw [qe] at hg; cases hg
                  | ok y =>
                    rw [qe] at hg
                    have hg : (lcGo T ft fe (wipeD ρ vs) (ds.drop (i + 1)) >>= fun ys => .ok (y :: ys)) = .ok rest := hg
                    intro v F5 H5 S5 e5 o5 _ _
                    have e25 := (e3.trans e4).trans e5
                    cases ql : lcGo T ft fe (wipeD ρ vs) (ds.drop (i + 1)) with
                    | err c fs => rw [ql] at hg; cases hg
                    | stuck => rw [ql] at hg; cases hg
                    | ok ys =>
                      rw [ql, bind_ok] at hg
                      cases hg
                      have hacc5 := e25.hh _ _ hacc rfl
                      have hlen2 : acc.length < LN := by
                        have h1 := hd.length
                        rw [hx, List.length_append, List.length_cons] at hlen
                        omega
                      refine ⟨acc, hacc5, lt_line hlen2, F5, acc ++ [v], dacc ++ [y], ys, ?_, hF4 e25, upd_same, (hd.mono e25.ff.sm).append (.cons (own_d o5).1 .nil), rfl, by rw [hx, List.append_assoc]; rfl⟩
                      have e15 := (e13.trans e4).trans e5
                      have ne : ∀ a o, H1 a = some o → a ≠ Dn := fun a o h z => by rw [z, hD] at h; cases h
                      refine ⟨fun a o h t => by rw [upd_ne (ne a o h)]; exact e15.hh a o h t, fun P m h => ?_, e15.ff, fun a o h => ?_, e15.hid, e15.nt⟩
                      · exact tabH_same (fun a o q t => by rw [upd_ne fun z => by rw [z, hacc5] at q; cases q; cases t]; exact q) (e15.ht P m h)
                      · rw [upd_ne fun z => by rw [z, hF4 e25] at h; cases h]
                        exact e15.fh a o h
        · have e : i = ds.length := by omega
          subst e
          rw [List.drop_length] at hg
          cases hg
          refine .inl ⟨w2 _ (Nat.le_refl _), ?_⟩
          refine p _ F2 H2 [Dn] e2 (.l hacc (OwnL.ofDat (by rw [hx, List.append_nil]; exact hd))) (by simp) fun a m => ?_
          have e : a = Dn := by simpa using m
          subst e
          exact ⟨hF2, .of hD⟩
      · rw [if_neg hlen] at p; exact p.elim
end
end PD
set_option Elab.async false
set_option linter.all false
set_option maxRecDepth 100000
set_option maxHeartbeats 1000000
namespace PD
open PySem PySem.Spec PyProof.Rows L2

/-! ### operators on data -/
noncomputable def dAdd : D → D → Option D
  | .int i, .int j => some (.int (i + j))
  | .str s, .str t => if s.length + t.length ≤ LN then some (.str (s ++ t)) else none
  | .lst xs, .lst ys => if xs.length + ys.length ≤ LN then some (.lst (xs ++ ys)) else none
  | _, _ => none
noncomputable def dCat : D → D → Option D
  | .lst xs, .lst ys => if xs.length + ys.length ≤ LN then some (.lst (xs ++ ys)) else none
  | _, _ => none
noncomputable def dSub : D → D → Option D
  | .int i, .int j => some (.int (i - j))
  | _, _ => none
noncomputable def MB : Nat := 4000000
noncomputable def dMul : D → D → Option D
  | .int i, .int j => if i.natAbs.log2 + j.natAbs.log2 < MB then some (.int (i * j)) else none
  | .str s, .int j => if 0 ≤ j ∧ j ≤ 1000000 ∧ s.length * j.toNat ≤ LN then some (.str (List.replicate j.toNat s).flatten) else none
  | .lst s, .int j => if -1000000 ≤ j ∧ j ≤ 1000000 ∧ s.length * j.toNat ≤ LN then some (.lst (List.replicate j.toNat s).flatten) else none
  | _, _ => none
noncomputable def dRep : D → D → Option D
  | .lst s, .int j => if -1000000 ≤ j ∧ j ≤ 1000000 ∧ s.length * j.toNat ≤ LN then some (.lst (List.replicate j.toNat s).flatten) else none
  | _, _ => none
noncomputable def dMod : D → D → Option D
  | .int i, .int j => if 0 < j then some (.int (i % j)) else none
  | _, _ => none
noncomputable def dDiv : D → D → Option D
  | .int i, .int j => if 0 < j ∧ j.natAbs.log2 < 9000 then some (.int (i / j)) else none
  | _, _ => none
noncomputable def dPow : D → D → Option D
  | .int i, .int j => if 0 ≤ j ∧ j ≤ 1000 ∧ i.natAbs < 2 ^ 64 then some (.int (i ^ j.toNat)) else none
  | _, _ => none
section
variable {X : Cx} {L : LE} {bw : Bool}
theorem op_mulB : OpR X (binaryOp .Mult) (rI (fun i j => i.natAbs.log2 + j.natAbs.log2 < MB) fun i j => .int (i * j)) := opI fun i j t u s Q E hc q => mul_int q (by
  have b : ∀ x : Int, Builtin.Int.intBits x ≤ x.natAbs.log2 + 1 := fun x => by
    unfold Builtin.Int.intBits
    split <;> omega
  have h1 := b i
  have h2 := b j
  have h3 : i.natAbs.log2 + j.natAbs.log2 < 4000000 := hc
  have e : bitsLine = 134217728 := by decide
  intro z
  rw [Bool.and_eq_true] at z
  have z2 := z.2
  unfold Builtin.Int.intTooBig at z2
  have z3 := of_decide_eq_true z2
  rw [e] at z3
  omega)
theorem mulOk_of {x : Str} {n : Int} (h0 : 0 ≤ n) (h1 : n ≤ 1000000) (h2 : x.length * n.toNat ≤ LN) :
    (decide (n < -(2 ^ 63 : Int)) || decide (n ≥ 2 ^ 63)) = false ∧ (¬ n < 1 → (n == 1 || x.length == 0) = false → ¬ ((x.length : Int) > (2 ^ 63 - 1) / n)) ∧ (¬ n < 1 → (n == 1 || x.length == 0) = false → Builtin.Str.tooLong (x.length * n.toNat) = false) := by
  have e : LN = 1000000 := rfl
  refine ⟨?_, fun q _ => ?_, fun _ _ => ?_⟩
  · rw [Bool.or_eq_false_iff]
    exact ⟨decide_eq_false (by omega), decide_eq_false (by omega)⟩
  · have h3 : x.length ≤ 1000000 := by
      have : x.length * 1 ≤ x.length * n.toNat := Nat.mul_le_mul_left _ (by omega)
      omega
    have h4 : (1000000 : Int) ≤ (2 ^ 63 - 1) / n := by
      rw [Int.le_ediv_iff_mul_le (by omega)]
      have : 1000000 * n ≤ 1000000 * 1000000 := Int.mul_le_mul_of_nonneg_left h1 (by decide)
      omega
    omega
  · unfold Builtin.Str.tooLong
    have := sizeLine_eq
    simp only [decide_eq_false_iff_not, gt_iff_lt]
    omega
theorem foldl_app : ∀ (l : List (Array Nat)) (acc : Array Nat), (l.foldl (· ++ ·) acc).toList = acc.toList ++ (l.map Array.toList).flatten
  | [], acc => by simp
  | a :: l, acc => by rw [List.foldl_cons, foldl_app l]; simp
noncomputable def rMulS : R2 := fun x y H Q => ∃ s n, x = .str s ∧ y = .int n ∧ (0 ≤ n ∧ n ≤ 1000000 ∧ s.length * n.toNat ≤ LN) ∧ Q (.str ⟨(List.replicate n.toNat s.cps.toList).flatten.toArray⟩) H
theorem op_mulS : OpR X (binaryOp .Mult) rMulS := by
  intro pins s σ H x y v u Q I rx ry h
  obtain ⟨z, n, rfl, rfl, ⟨h0, h1, h2⟩, q⟩ := h
  obtain ⟨t, rfl⟩ := rx
  obtain ⟨t', rfl⟩ := ry
  obtain ⟨k1, k2, k3⟩ := mulOk_of h0 h1 h2
  have res : ∀ w : Str, w.cps.toList = (List.replicate n.toNat z.cps.toList).flatten → Q (.str w) H := fun w e => by
    rw [← str_eq e]; exact q
  refine PySem.P.mul_str k1 k2 k3 ?_
  by_cases c1 : n < 1
  · rw [if_pos c1]
    have e0 : n.toNat = 0 := by omega
    exact ⟨by decide, .str Str.empty, H, I.tok _, ⟨_, rfl⟩, res _ (by rw [e0]; rfl)⟩
  · rw [if_neg c1]
    by_cases c2 : (n == 1 || z.length == 0) = true
    · rw [if_pos c2]
      refine ⟨.str z, H, I, ⟨_, rfl⟩, res _ ?_⟩
      rw [Bool.or_eq_true] at c2
      rcases c2 with c2 | c2
      · have e1 : n = 1 := by simpa using c2
        subst e1
        simp
      · have e1 : z.cps.toList = [] := by
          have : z.cps.size = 0 := by simpa [Str.length] using c2
          simpa using this
        rw [e1]
        simp
    · rw [if_neg c2]
      have c2 : (n == 1 || z.length == 0) = false := by simpa using c2
      refine ⟨?_, ?_⟩
      · show ((List.replicate n.toNat z.cps).foldl (· ++ ·) #[]).size ≤ sizeLine
        rw [← Array.length_toList, foldl_app]
        have e : z.cps.toList.length = z.length := by simp [Str.length]
        simp only [List.nil_append, List.map_replicate, List.length_flatten, List.sum_replicate_nat, Array.toList_empty]
        rw [e, Nat.mul_comm]
        exact le_line h2
      refine ⟨.str ⟨(List.replicate n.toNat z.cps).foldl (· ++ ·) #[]⟩, H, I.tok _, ⟨_, rfl⟩, res _ ?_⟩
      rw [foldl_app]
      simp

theorem own_lift {K : PySem.W.Frag} {F H : Hp} {v : V} {d : D} (s : Same F H) (h : Dat K F v d) : Own K F H (.d bw) v d [] := .d (dat_lift s h)
/-- a result that needs no object -/
theorem opD_pure {r : R2} {bw2 : Bool} {g : D → D → Option D} (h : ∀ (F H : Hp) (x y : V) (dx dy d : D), Same F H → Dat L.K (cond bw H F) x dx → Dat L.K (cond bw H F) y dy → g dx dy = some d → ∃ v, (∀ F, Dat L.K F v d) ∧ ∀ Q : VK, Q v H → r x y H Q) : OpD L r bw (.d bw2) g :=
  fun F H x y dx dy d s nt hx hy e Q q => by
    obtain ⟨v, dv, go⟩ := h F H x y dx dy d s hx hy e
    exact go Q (q v F H [] (.refl s nt) (own_lift s (dv F)) List.nodup_nil fun a m => nomatch m)
/-- two roads, by the operands -/
theorem OpD.either {r r' : R2} {sh : Sh} {g g1 g2 : D → D → Option D} (h : OpD L r bw sh g1) (h' : OpD L r' bw sh g2) (e : ∀ x y d, g x y = some d → g1 x y = some d ∨ g2 x y = some d) : OpD L (fun x y H Q => r x y H Q ∨ r' x y H Q) bw sh g :=
  fun F H x y dx dy d s nt hx hy q Q k => (e dx dy d q).elim (fun z => .inl (h F H x y dx dy d s nt hx hy z Q k)) fun z => .inr (h' F H x y dx dy d s nt hx hy z Q k)
/-- a result that is new becomes shared -/
theorem OpD.frz {r : R2} {sh : Sh} {g : D → D → Option D} {bw2 : Bool} (h : OpD L r bw sh g) (n : sh.noB = true) : OpD L r bw (.d bw2) g :=
  fun F H x y dx dy d s nt hx hy q Q k => h F H x y dx dy d s nt hx hy q Q fun v F' H' S e o nd fr => by
    have s1 : Same F' (frzH F' H' S) := frzH_same e.fh
    have s2 : Same (frzH F' H' S) H' := frzH_to e.fh
    refine k v (frzH F' H' S) H' [] ⟨e.hh, e.ht, e.ff.trans s1, s2, fun a o' h1 t1 h2 => ?_, frzH_nt e.nt o.there⟩ (own_lift s2 (o.frz s1.sm frzH_tup n fun a m => frzH_in m)) List.nodup_nil (fun a m => nomatch m)
    by_cases m : a ∈ S
    · exact ((fr a m).2.no h1 t1).elim
    · exact frzH_hid (e.hh a o' h1 t1) t1 m (e.hid a o' h1 t1 h2)
noncomputable def dAddI : D → D → Option D
  | .int i, .int j => some (.int (i + j))
  | _, _ => none
noncomputable def dAddS : D → D → Option D
  | .str s, .str t => if s.length + t.length ≤ LN then some (.str (s ++ t)) else none
  | _, _ => none
theorem od_addI {bw2 : Bool} : OpD L (rI0 fun i j => .int (i + j)) bw (.d bw2) dAddI := opD_pure fun F H x y dx dy d s hx hy e => by
  unfold dAddI at e
  split at e <;> cases e
  cases hx; cases hy
  exact ⟨_, fun _ => .int, fun Q q => ⟨_, _, rfl, rfl, q⟩⟩
theorem s_app {s t : List Nat} : (⟨s.toArray⟩ : Str) ++ ⟨t.toArray⟩ = ⟨(s ++ t).toArray⟩ := by
  show (⟨s.toArray ++ t.toArray⟩ : Str) = _
  simp
theorem s_len (s : List Nat) : (⟨s.toArray⟩ : Str).length = s.length := by simp [Str.length]
theorem od_addS {bw2 : Bool} : OpD L (fun x y H Q => ∃ i j, x = .str i ∧ y = .str j ∧ i.length + j.length ≤ sizeLine ∧ Q (.str (i ++ j)) H) bw (.d bw2) dAddS := opD_pure fun F H x y dx dy d s hx hy e => by
  unfold dAddS at e
  split at e
  · split at e <;> cases e
    rename_i s t hl
    cases hx; cases hy
    exact ⟨_, fun _ => .str, fun Q q => ⟨_, _, rfl, rfl, by rw [s_len, s_len]; exact le_line hl, by rw [s_app]; exact q⟩⟩
  · cases e
theorem od_cat : OpD L rCat false (.l .s) dCat := fun F H x y dx dy d s nt hx hy e Q q => by
  unfold dCat at e
  split at e
  · split at e <;> cases e
    rename_i xs ys hl
    cases hx with
    | lst h1 d1 =>
      cases hy with
      | lst h2 d2 =>
        have l1 := d1.length
        have l2 := d2.length
        refine ⟨_, _, _, _, rfl, rfl, s _ _ h1, s _ _ h2, le_line (by omega), fun p hp => ?_⟩
        refine q _ F _ [p] (Ext.newH s nt hp) (.l upd_same (OwnL.ofDat (d1.append d2))) (by simp) fun a m => ?_
        have e : a = p := by simpa using m
        subst e
        exact ⟨s.free hp, .of hp⟩
  · cases e
theorem od_add {bw2 : Bool} : OpD L (fun x y H Q => (fun x y H Q => rI0 (fun i j => .int (i + j)) x y H Q ∨ (fun x y H Q => ∃ i j, x = .str i ∧ y = .str j ∧ i.length + j.length ≤ sizeLine ∧ Q (.str (i ++ j)) H) x y H Q) x y H Q ∨ rCat x y H Q) false (.d bw2) dAdd :=
  OpD.either (g1 := fun x y => match dAddI x y with | some d => some d | none => dAddS x y) (OpD.either od_addI od_addS fun x y d e => by
    split at e
    · rename_i d' q
      cases e
      exact .inl q
    · exact .inr e) (od_cat.frz rfl) fun x y d e => by
    unfold dAdd at e
    split at e
    · exact .inl e
    · exact .inl e
    · exact .inr e
    · cases e
theorem or_add : OpR X (binaryOp .Add) (fun x y H Q => (fun x y H Q => rI0 (fun i j => .int (i + j)) x y H Q ∨ (fun x y H Q => ∃ i j, x = .str i ∧ y = .str j ∧ i.length + j.length ≤ sizeLine ∧ Q (.str (i ++ j)) H) x y H Q) x y H Q ∨ rCat x y H Q) := (op_add.or op_add_str).or op_cat
theorem od_sub {bw2 : Bool} : OpD L (rI0 fun i j => .int (i - j)) bw (.d bw2) dSub := opD_pure fun F H x y dx dy d s hx hy e => by
  unfold dSub at e
  split at e <;> cases e
  cases hx; cases hy
  exact ⟨_, fun _ => .int, fun Q q => ⟨_, _, rfl, rfl, q⟩⟩
theorem od_mod {bw2 : Bool} : OpD L (rI (fun _ j => 0 < j) fun i j => .int (i % j)) bw (.d bw2) dMod := opD_pure fun F H x y dx dy d s hx hy e => by
  unfold dMod at e
  split at e
  · split at e <;> cases e
    cases hx; cases hy
    exact ⟨_, fun _ => .int, fun Q q => ⟨_, _, rfl, rfl, by assumption, q⟩⟩
  · cases e
theorem od_div {bw2 : Bool} : OpD L (rI CDivW fun i j => .int (i / j)) bw (.d bw2) dDiv := opD_pure fun F H x y dx dy d s hx hy e => by
  unfold dDiv at e
  split at e
  · split at e <;> cases e
    cases hx; cases hy
    exact ⟨_, fun _ => .int, fun Q q => ⟨_, _, rfl, rfl, by assumption, q⟩⟩
  · cases e
theorem od_pow {bw2 : Bool} : OpD L (rI CPow fun i j => .int (i ^ j.toNat)) bw (.d bw2) dPow := opD_pure fun F H x y dx dy d s hx hy e => by
  unfold dPow at e
  split at e
  · split at e <;> cases e
    rename_i i j hh
    cases hx; cases hy
    exact ⟨_, fun _ => .int, fun Q q => ⟨_, _, rfl, rfl, ⟨hh.1, by omega, hh.2.2⟩, q⟩⟩
  · cases e
noncomputable def dMulI : D → D → Option D
  | .int i, .int j => if i.natAbs.log2 + j.natAbs.log2 < MB then some (.int (i * j)) else none
  | _, _ => none
noncomputable def dMulS : D → D → Option D
  | .str s, .int j => if 0 ≤ j ∧ j ≤ 1000000 ∧ s.length * j.toNat ≤ LN then some (.str (List.replicate j.toNat s).flatten) else none
  | _, _ => none
theorem od_mulI {bw2 : Bool} : OpD L (rI (fun i j => i.natAbs.log2 + j.natAbs.log2 < MB) fun i j => .int (i * j)) bw (.d bw2) dMulI := opD_pure fun F H x y dx dy d s hx hy e => by
  unfold dMulI at e
  split at e
  · split at e <;> cases e
    cases hx; cases hy
    exact ⟨_, fun _ => .int, fun Q q => ⟨_, _, rfl, rfl, by assumption, q⟩⟩
  · cases e
theorem od_mulS {bw2 : Bool} : OpD L rMulS bw (.d bw2) dMulS := opD_pure fun F H x y dx dy d s hx hy e => by
  unfold dMulS at e
  split at e
  · split at e <;> cases e
    rename_i hh
    cases hx; cases hy
    exact ⟨_, fun _ => .str, fun Q q => ⟨_, _, rfl, rfl, by rw [s_len]; exact hh, q⟩⟩
  · cases e
theorem datL_rep {K : PySem.W.Frag} {F : Hp} {vs : List V} {ds : List D} (h : DatL K F vs ds) : ∀ n : Nat, DatL K F (List.replicate n vs).flatten (List.replicate n ds).flatten
  | 0 => .nil
  | n + 1 => by
    rw [List.replicate_succ, List.replicate_succ, List.flatten_cons, List.flatten_cons]
    exact h.append (datL_rep h n)
theorem od_rep : OpD L rRep false (.l .s) dRep := fun F H x y dx dy d s nt hx hy e Q q => by
  unfold dRep at e
  split at e
  · split at e <;> cases e
    rename_i xs j hl
    cases hx with
    | lst h1 d1 =>
      cases hy
      have l1 := d1.length
      refine ⟨_, _, _, rfl, rfl, s _ _ h1, by omega, by omega, le_line (by rw [l1]; exact hl.2.2), fun p hp => ?_⟩
      refine q _ F _ [p] (Ext.newH s nt hp) (.l upd_same (OwnL.ofDat (datL_rep d1 _))) (by simp) fun a m => ?_
      have e : a = p := by simpa using m
      subst e
      exact ⟨s.free hp, .of hp⟩
  · cases e
theorem od_mul {bw2 : Bool} : OpD L (fun x y H Q => (fun x y H Q => rI (fun i j => i.natAbs.log2 + j.natAbs.log2 < MB) (fun i j => .int (i * j)) x y H Q ∨ rMulS x y H Q) x y H Q ∨ rRep x y H Q) false (.d bw2) dMul :=
  OpD.either (g1 := fun x y => match dMulI x y with | some d => some d | none => dMulS x y) (OpD.either od_mulI od_mulS fun x y d e => by
    split at e
    · rename_i d' q
      cases e
      exact .inl q
    · exact .inr e) (od_rep.frz rfl) fun x y d e => by
    unfold dMul at e
    split at e
    · rename_i i j
      refine .inl ?_
      show (match dMulI (.int i) (.int j) with | some d => some d | none => dMulS (.int i) (.int j)) = some d
      have e2 : dMulI (.int i) (.int j) = some d := e
      rw [e2]
    · exact .inl e
    · exact .inr e
    · cases e
theorem or_mul : OpR X (binaryOp .Mult) (fun x y H Q => (fun x y H Q => rI (fun i j => i.natAbs.log2 + j.natAbs.log2 < MB) (fun i j => .int (i * j)) x y H Q ∨ rMulS x y H Q) x y H Q ∨ rRep x y H Q) := (op_mulB.or op_mulS).or op_rep

/-! ### comparisons -/
noncomputable def dCmp (pi : Int → Int → Bool) (ps : List Nat → List Nat → Bool) : D → D → Option D
  | .int i, .int j => some (.bl (pi i j))
  | .str i, .str j => some (.bl (ps i j))
  | _, _ => none
noncomputable def dLt : D → D → Option D := dCmp (fun i j => decide (i < j)) fun i j => decide (i < j)
noncomputable def dLe : D → D → Option D := dCmp (fun i j => decide (i ≤ j)) fun i j => !decide (j < i)
noncomputable def dGt : D → D → Option D := dCmp (fun i j => decide (j < i)) fun i j => decide (j < i)
noncomputable def dGe : D → D → Option D := dCmp (fun i j => decide (j ≤ i)) fun i j => !decide (i < j)
noncomputable def dCmpI (pi : Int → Int → Bool) : D → D → Option D
  | .int i, .int j => some (.bl (pi i j))
  | _, _ => none
noncomputable def dCmpS (ps : List Nat → List Nat → Bool) : D → D → Option D
  | .str i, .str j => some (.bl (ps i j))
  | _, _ => none
theorem od_cmpI {pi : Int → Int → Bool} {bw2 : Bool} : OpD L (rI0 fun i j => .bl (pi i j)) bw (.d bw2) (dCmpI pi) := opD_pure fun F H x y dx dy d s hx hy e => by
  unfold dCmpI at e
  split at e <;> cases e
  cases hx; cases hy
  exact ⟨_, fun _ => .bl, fun Q q => ⟨_, _, rfl, rfl, q⟩⟩
theorem od_cmpS {ps : List Nat → List Nat → Bool} {bw2 : Bool} : OpD L (fun x y H Q => ∃ i j, x = .str i ∧ y = .str j ∧ Q (.bl (ps i.cps.toList j.cps.toList)) H) bw (.d bw2) (dCmpS ps) := opD_pure fun F H x y dx dy d s hx hy e => by
  unfold dCmpS at e
  split at e <;> cases e
  cases hx; cases hy
  exact ⟨_, fun _ => .bl, fun Q q => ⟨_, _, rfl, rfl, q⟩⟩
theorem od_cmp {pi : Int → Int → Bool} {ps : List Nat → List Nat → Bool} {bw2 : Bool} : OpD L (fun x y H Q => rI0 (fun i j => .bl (pi i j)) x y H Q ∨ (fun x y H Q => ∃ i j, x = .str i ∧ y = .str j ∧ Q (.bl (ps i.cps.toList j.cps.toList)) H) x y H Q) bw (.d bw2) (dCmp pi ps) :=
  OpD.either od_cmpI od_cmpS fun x y d e => by
    unfold dCmp at e
    split at e
    · exact .inl e
    · exact .inr e
    · cases e
theorem or_lt : OpR X (compareOp .Lt) (fun x y H Q => rI0 (fun i j => .bl (decide (i < j))) x y H Q ∨ (fun x y H Q => ∃ i j, x = .str i ∧ y = .str j ∧ Q (.bl (decide (i.cps.toList < j.cps.toList))) H) x y H Q) := op_lt.or op_lt_str
theorem or_le : OpR X (compareOp .LtE) (fun x y H Q => rI0 (fun i j => .bl (decide (i ≤ j))) x y H Q ∨ (fun x y H Q => ∃ i j, x = .str i ∧ y = .str j ∧ Q (.bl (!decide (j.cps.toList < i.cps.toList))) H) x y H Q) := op_le.or op_le_str
theorem or_gt : OpR X (compareOp .Gt) (fun x y H Q => rI0 (fun i j => .bl (decide (j < i))) x y H Q ∨ (fun x y H Q => ∃ i j, x = .str i ∧ y = .str j ∧ Q (.bl (decide (j.cps.toList < i.cps.toList))) H) x y H Q) := op_gt.or op_gt_str
theorem or_ge : OpR X (compareOp .GtE) (fun x y H Q => rI0 (fun i j => .bl (decide (j ≤ i))) x y H Q ∨ (fun x y H Q => ∃ i j, x = .str i ∧ y = .str j ∧ Q (.bl (!decide (i.cps.toList < j.cps.toList))) H) x y H Q) := op_ge.or op_ge_str
/-- is None -/
noncomputable def dIsN : D → D → Option D
  | .non, .non => some (.bl true)
  | _, .non => some (.bl false)
  | _, _ => none
noncomputable def dNotN : D → D → Option D
  | .non, .non => some (.bl false)
  | _, .non => some (.bl true)
  | _, _ => none
noncomputable def isNonD : D → Bool
  | .non => true
  | _ => false
theorem isN_of {K : PySem.W.Frag} {F : Hp} {x : V} {d : D} (h : Dat K F x d) : decide (x = V.non) = isNonD d := by
  cases h <;> simp [isNonD]
theorem od_isN {bw2 : Bool} : OpD L (fun x y H Q => y = .non ∧ Q (.bl (decide (x = .non))) H) bw (.d bw2) dIsN := opD_pure fun F H x y dx dy d s hx hy e => by
  have q := isN_of hx
  unfold dIsN at e
  split at e <;> cases e <;> cases hy
  · exact ⟨_, fun _ => .bl, fun Q k => ⟨rfl, by rw [q]; exact k⟩⟩
  · rename_i hn
    refine ⟨_, fun _ => .bl, fun Q k => ⟨rfl, ?_⟩⟩
    rw [q]
    cases dx <;> first | exact (hn rfl rfl).elim | exact (hn rfl).elim | exact k
/-! == -/
mutual
noncomputable def toP : D → PyData
  | .non => .none
  | .bl b => .bool b
  | .int i => .int i
  | .str s => .str ⟨s.toArray⟩
  | .lst xs => .list (toPs xs)
  | .tup xs => .tuple (toPs xs)
  | .scr ns => .list (ns.map .int)
  | .rng _ _ => .none
  | .obj _ _ _ => .none
  | .dic _ _ => .none
  | .dct _ _ => .none
noncomputable def toPs : List D → List PyData
  | [] => []
  | x :: xs => toP x :: toPs xs
end
mutual
/-- no range within -/
noncomputable def noR : D → Bool
  | .rng _ _ => false
  | .obj _ _ _ => false
  | .dic _ _ => false
  | .dct _ _ => false
  | .lst xs => noRs xs
  | .tup xs => noRs xs
  | _ => true
noncomputable def noRs : List D → Bool
  | [] => true
  | x :: xs => noR x && noRs xs
end
mutual
theorem dp_of {K : PySem.W.Frag} {H : Hp} : ∀ {v : V} {d : D}, noR d = true → Dat K H v d → Dp K H v (toP d)
  | _, _, _, .non => by unfold toP; exact .non
  | _, _, _, .bl => by unfold toP; exact .bl _
  | _, _, _, .int => by unfold toP; exact .int _
  | _, _, _, .str => by unfold toP; exact .str _
  | _, _, n, .lst h r => by unfold toP; unfold noR at n; exact .lst (SqL.of h) (dpl_of n r)
  | _, _, n, .tup h r => by unfold toP; unfold noR at n; exact .tup h (dpl_of n r)
  | _, _, _, .scr h => by unfold toP; exact .lst h (dpi_of _)
  | _, _, n, .rng _ => by unfold noR at n; cases n
  | _, _, n, .obj _ _ _ _ => by unfold noR at n; cases n
  | _, _, n, .dic _ _ _ => by unfold noR at n; cases n
  | _, _, n, .dct _ _ _ => by unfold noR at n; cases n
theorem dpl_of {K : PySem.W.Frag} {H : Hp} : ∀ {vs : List V} {ds : List D}, noRs ds = true → DatL K H vs ds → DpAll K H vs (toPs ds)
  | _, _, _, .nil => by unfold toPs; exact .nil
  | _, _, n, .cons h r => by
    unfold noRs at n
    rw [Bool.and_eq_true] at n
    unfold toPs; exact .cons (dp_of n.1 h) (dpl_of n.2 r)
theorem dpi_of {K : PySem.W.Frag} {H : Hp} : ∀ ns : List Int, DpAll K H (ns.map V.int) (ns.map PyData.int)
  | [] => .nil
  | n :: ns => .cons (.int n) (dpi_of ns)
end
noncomputable def okP (d : D) : Bool := noR d && SeqAt.shaped (toP d)
noncomputable def dEqB : D → D → Option Bool
  | .int i, .int j => some (i == j)
  | .str i, .str j => some (i == j)
  | .bl i, .bl j => some (i == j)
  | .non, .non => some true
  | x, y => if okP x = true ∧ okP y = true then some (PyData.eqv (toP x) (toP y)) else none
noncomputable def dEq (x y : D) : Option D := (dEqB x y).map .bl
noncomputable def dNe (x y : D) : Option D := (dEqB x y).map fun b => .bl !b
theorem dec_S {i j : List Nat} : decide (V.str ⟨i.toArray⟩ = V.str ⟨j.toArray⟩) = (i == j) := by
  rw [Bool.eq_iff_iff]
  simp
theorem eq_way {K : PySem.W.Frag} {H : Hp} {x y : V} {dx dy : D} {b : Bool} (hx : Dat K H x dx) (hy : Dat K H y dy) (e : dEqB dx dy = some b) :
    (scal x y = true ∧ decide (x = y) = b) ∨ ((noR dx = true ∧ noR dy = true) ∧ SeqAt.shaped (toP dx) = true ∧ SeqAt.shaped (toP dy) = true ∧ PyData.eqv (toP dx) (toP dy) = b) := by
  unfold dEqB at e
  split at e
  · cases e; cases hx; cases hy; exact .inl ⟨rfl, dec_int⟩
  · cases e; cases hx; cases hy; exact .inl ⟨rfl, dec_S⟩
  · cases e; cases hx; cases hy; exact .inl ⟨rfl, dec_bl⟩
  · cases e; cases hx; cases hy; exact .inl ⟨rfl, rfl⟩
  · split at e
    · rename_i hh
      cases e
      unfold okP at hh
      rw [Bool.and_eq_true, Bool.and_eq_true] at hh
      exact .inr ⟨⟨hh.1.1, hh.2.1⟩, hh.1.2, hh.2.2, rfl⟩
    · cases e
theorem cond_H {K : PySem.W.Frag} {F H : Hp} {v : V} {d : D} (s : Same F H) (h : Dat K (cond bw H F) v d) : Dat K H v d := by
  cases bw with
  | true => exact h
  | false => exact Dat.mono s.sm h
theorem od_eq {bw2 : Bool} (hK : X.K = L.K) : OpD L (fun x y H Q => rEq x y H Q ∨ rEqD X.K x y H Q) bw (.d bw2) dEq := opD_pure fun F H x y dx dy d s hx hy e => by
  unfold dEq at e
  cases q : dEqB dx dy with
  | none => rw [q] at e; cases e
  | some b =>
    rw [q] at e
    cases e
    refine ⟨_, fun _ => .bl, fun Q k => ?_⟩
    rcases eq_way (cond_H s hx) (cond_H s hy) q with ⟨z1, z2⟩ | ⟨n0, z1, z2, z3⟩
    · exact .inl ⟨z1, by rw [z2]; exact k⟩
    · exact .inr ⟨_, _, by rw [hK]; exact dp_of n0.1 (cond_H s hx), by rw [hK]; exact dp_of n0.2 (cond_H s hy), z1, z2, by rw [z3]; exact k⟩
theorem od_ne {bw2 : Bool} (hK : X.K = L.K) : OpD L (fun x y H Q => rNe x y H Q ∨ rNeD X.K x y H Q) bw (.d bw2) dNe := opD_pure fun F H x y dx dy d s hx hy e => by
  unfold dNe at e
  cases q : dEqB dx dy with
  | none => rw [q] at e; cases e
  | some b =>
    rw [q] at e
    cases e
    refine ⟨_, fun _ => .bl, fun Q k => ?_⟩
    rcases eq_way (cond_H s hx) (cond_H s hy) q with ⟨z1, z2⟩ | ⟨n0, z1, z2, z3⟩
    · exact .inl ⟨z1, by rw [z2]; exact k⟩
    · exact .inr ⟨_, _, by rw [hK]; exact dp_of n0.1 (cond_H s hx), by rw [hK]; exact dp_of n0.2 (cond_H s hy), z1, z2, by rw [z3]; exact k⟩
theorem or_eq {j : Nat} (hr : Room j X.A) : OpR X (compareOp .Eq) (fun x y H Q => rEq x y H Q ∨ rEqD X.K x y H Q) := op_eq.or (op_eqD hr.units)
theorem or_ne {j : Nat} (hr : Room j X.A) : OpR X (compareOp .NotEq) (fun x y H Q => rNe x y H Q ∨ rNeD X.K x y H Q) := op_ne.or (op_neD hr.units)
end
end PD
set_option Elab.async false
set_option linter.all false
set_option maxRecDepth 100000
set_option maxHeartbeats 1000000
namespace PD
open PySem PySem.Spec PyProof.Rows L2

/-! ### subscripts and slices -/
noncomputable def dIx : D → D → Option D
  | .lst xs, .int i => atI xs i
  | .tup xs, .int i => atI xs i
  | .scr ns, .int i => (atI ns i).map .int
  | .str s, .int i => if s.length ≤ LN then (atI s i).map fun c => .str [c] else none
  | _, _ => none
theorem atI_dat {K : PySem.W.Frag} {F : Hp} {vs : List V} {ds : List D} {i : Int} {d : D} (h : DatL K F vs ds) (e : atI ds i = some d) : ∃ v, atI vs i = some v ∧ Dat K F v d := by
  unfold atI at e ⊢
  rw [h.length]
  cases q : ixN ds.length i with
  | none => rw [q] at e; cases e
  | some j => rw [q] at e; exact h.get e
theorem atI_map {α β : Type} {f : α → β} {xs : List α} {i : Int} : atI (xs.map f) i = (atI xs i).map f := by
  unfold atI
  rw [List.length_map]
  cases ixN xs.length i with
  | none => rfl
  | some j => exact List.getElem?_map ..
section
variable {X : Cx} {L : LE} {bw : Bool} {fl : List Sh} {W : WX} {pos : Pos}
theorem dat_sq {K : PySem.W.Frag} {H : Hp} {v : V} {xs : List D} (h : Dat K H v (.lst xs)) : ∃ a vs, v = .ref a ∧ H a = some (.lst vs) ∧ DatL K H vs xs := by
  cases h with
  | lst h r => exact ⟨_, _, rfl, h, r⟩
theorem dat_tp {K : PySem.W.Frag} {H : Hp} {v : V} {xs : List D} (h : Dat K H v (.tup xs)) : ∃ a vs, v = .ref a ∧ SqT K H a vs ∧ DatL K H vs xs := by
  cases h with
  | tup h r => exact ⟨_, _, rfl, h, r⟩
theorem cond_sm {F H : Hp} (s : Same F H) : Sm (cond bw H F) H := by
  cases bw with
  | true => exact .refl _
  | false => exact s.sm
theorem od_ix (hK : X.K = L.K) : OpD L (rIx X.K) bw (.d bw) dIx := fun F H x y dx dy d s nt hx hy e Q q => by
  have fin : ∀ {v : V}, Dat L.K (cond bw H F) v d → Q v H := fun {v} h => q v F H [] (.refl s nt) (.d h) List.nodup_nil fun a m => nomatch m
  rw [hK]
  unfold dIx at e
  split at e
  · obtain ⟨a, vs, rfl, h1, h2⟩ := dat_sq hx
    cases hy
    obtain ⟨v, e1, e2⟩ := atI_dat h2 e
    exact .inl ⟨a, vs, _, v, rfl, rfl, sm_l (cond_sm s) (SqL.of h1), e1, fin e2⟩
  · obtain ⟨a, vs, rfl, h1, h2⟩ := dat_tp hx
    cases hy
    obtain ⟨v, e1, e2⟩ := atI_dat h2 e
    exact .inr (.inl ⟨a, vs, _, v, rfl, rfl, sm_t (cond_sm s) h1, e1, fin e2⟩)
  · rename_i ns i
    cases hx with
    | scr h =>
      cases hy
      cases q1 : atI ns i with
      | none => rw [q1] at e; cases e
      | some n =>
        rw [q1] at e
        cases e
        exact .inl ⟨_, _, _, .int n, rfl, rfl, sm_l (cond_sm s) h, by rw [atI_map, q1]; rfl, fin .int⟩
  · split at e
    · rename_i z i hl
      cases hx; cases hy
      cases q1 : atI z i with
      | none => rw [q1] at e; cases e
      | some c =>
        rw [q1] at e
        cases e
        exact .inr (.inr ⟨_, _, c, rfl, rfl, by rw [s_len]; exact le_line hl, q1, fin (.str (s := [c]))⟩)
    · cases e
  · cases e
theorem e_ix {a b : Expr} {fa fb : Env → R D} (ha : PE X a (tD L fl (.d bw) W fa)) (hb : PE X b (tD L fl (.d bw) W fb)) (hK : X.K = L.K := by rfl) (hs : PlainIx b := by exact fun _ _ => rfl) : PE X (.Subscript a b pos) (tD L fl (.d bw) W (m2 dIx fa fb)) :=
  (pe_ix ix_seq ha hb hs).imp fun _ _ _ h => t_op2 (od_ix hK) h
/-! slices -/
noncomputable def PostO (L : LE) (F H : Hp) (r : R (Option Int)) (W : WX) (σ : L2.St) (Q : Option Int → Hp → Prop) : Prop := match r with
  | .ok o => ∀ F' H', Ext L.T F H F' H' → Q o H'
  | .err c fs => ∀ cls d F' H', Ext L.T F H F' H' → ErrOk L c fs cls d F' H' → W cls d σ H'
  | .stuck => False
noncomputable def tO (L : LE) (fl : List Sh) (W : WX) (f : Env → R (Option Int)) : TO := fun σ H Q => ∃ F B ρ, Rep L fl F B σ H ρ ∧ PostO L F H (f ρ) W σ Q
noncomputable def mNo : Env → R (Option Int) := fun _ => .ok none
noncomputable def dInt? : D → Option (Option Int)
  | .int i => some (some i)
  | _ => none
noncomputable def mSo (f : Env → R D) : Env → R (Option Int) := fun ρ => f ρ >>= fun d => oR (dInt? d)
theorem o_none : PO X none (tO L fl W mNo) := ⟨fun pins s σ H Q I ⟨F, B, ρ, r, p⟩ => po_none.run pins s σ H Q I (p F H r.refl)⟩
theorem o_some {e : Expr} {f : Env → R D} (he : PE X e (tD L fl .b W f)) : PO X (some e) (tO L fl W (mSo f)) := ⟨fun pins s σ H Q I ⟨F, B, ρ, r, p⟩ => (po_some he).run pins s σ H Q I (by
  refine ⟨F, B, ρ, r, ?_⟩
  unfold mSo at p
  cases q : f ρ with
  | ok d =>
    rw [q, bind_ok] at p
    intro v F' H' S e o _ _
    have dv := (own_d o).1
    cases d with
    | int i => cases dv; exact ⟨i, rfl, p F' H' e⟩
    | _ => exact p.elim
  | err c fs => rw [q, bind_err] at p; exact p
  | stuck => rw [q, bind_stuck] at p; exact p)⟩
theorem PostO.weak {F H F' H' : Hp} {r : R (Option Int)} {σ : L2.St} {Q : Option Int → Hp → Prop} (p : PostO L F H r W σ Q) (e : Ext L.T F H F' H') : PostO L F' H' r W σ Q := by
  unfold PostO at p ⊢
  split at p
  · exact fun F2 H2 e2 => p F2 H2 (e.trans e2)
  · exact fun cls d F2 H2 e2 x => p cls d F2 H2 (e.trans e2) x
  · exact p
theorem tO_bind {F B H : Hp} {σ : L2.St} {ρ : Env} {f : Env → R (Option Int)} (r : Rep L fl F B σ H ρ) {Q : Option Int → Hp → Prop} {Q' : VK} {k : Option Int → R D} {sh' : Sh} (p : PostE L F H sh' (f ρ >>= k) W σ Q')
    (hk : ∀ o F' H', Ext L.T F H F' H' → Rep L fl F' B σ H' ρ → PostE L F' H' sh' (k o) W σ Q' → Q o H') : tO L fl W f σ H Q := by
  refine ⟨F, B, ρ, r, ?_⟩
  cases q : f ρ with
  | ok o => rw [q, bind_ok] at p; exact fun F' H' e => hk o F' H' e (r.ext e) (p.weak e)
  | err c fs => rw [q, bind_err] at p; exact p
  | stuck => rw [q, bind_stuck] at p; exact p
noncomputable def cutG {α : Type} (xs : List α) (lo hi : Option Int) : List α := (xs.drop (HT.sIx xs.length 0 lo)).take (HT.sIx xs.length xs.length hi - HT.sIx xs.length 0 lo)
theorem datL_cut {K : PySem.W.Frag} {F : Hp} {vs : List V} {ds : List D} (h : DatL K F vs ds) (lo hi : Option Int) : DatL K F (cutV vs lo hi) (cutG ds lo hi) := by
  unfold cutV cutG
  rw [h.length]
  exact (h.drop _).take _
noncomputable def dSl : D → Option Int → Option Int → Option D
  | .lst xs, lo, hi => some (.lst (cutG xs lo hi))
  | .str s, lo, hi => if s.length ≤ LN then some (.str (cutG s lo hi)) else none
  | _, _, _ => none
noncomputable def dSlL : D → Option Int → Option Int → Option D
  | .lst xs, lo, hi => some (.lst (cutG xs lo hi))
  | _, _, _ => none
noncomputable def mSl (g : D → Option Int → Option Int → Option D) (f : Env → R D) (fl fh : Env → R (Option Int)) : Env → R D := fun ρ => f ρ >>= fun x => fl ρ >>= fun l => fh ρ >>= fun h => oR (g x l h)
theorem cutS_G {s : List Nat} {lo hi : Option Int} : cutS ⟨s.toArray⟩ lo hi = ⟨(cutG s lo hi).toArray⟩ := by
  unfold cutS cutG
  rw [s_len]
/-- of a list (frozen) or a text -/
theorem e_sl {a : Expr} {lo hi : Option Expr} {p2 : Pos} {f : Env → R D} {fl' fh : Env → R (Option Int)} {bw : Bool} (ha : PE X a (tD L fl .s W f)) (hl : PO X lo (tO L fl W fl')) (hh : PO X hi (tO L fl W fh)) (hK : X.K = L.K := by rfl) : PE X (.Subscript a (.Slice lo hi none p2) pos) (tD L fl (.d bw) W (mSl dSl f fl' fh)) :=
  (pe_slice (sl_list.or sl_str) ha hl hh).imp fun σ H Q ⟨F, B, ρ, r, p⟩ => by
    refine tD_bind rfl r (k := fun x => fl' ρ >>= fun l => fh ρ >>= fun h => oR (dSl x l h)) p fun dx x F1 H1 S1 _ e1 r1 o1 _ _ p1 => ?_
    refine tO_bind r1 (k := fun l => fh ρ >>= fun h => oR (dSl dx l h)) (p1.weak e1) fun l F2 H2 e2 r2 p2 => ?_
    refine tO_bind r2 (k := fun h => oR (dSl dx l h)) p2 fun hh F3 H3 e3 r3 p3 => ?_
    have e13 := e2.trans e3
    cases dx with
    | lst xs =>
      obtain ⟨a, vs, rfl, h1, h2⟩ := dat_sq (own_d o1).1
      rw [hK]
      refine .inl ⟨a, vs, rfl, SqL.of (r3.bs.fh _ _ (e13.ff _ _ h1)), fun q hq => ?_⟩
      have e4 := Ext.newF (T := L.T) (o := .lst (cutV vs l hh)) r3.bs.fh r3.bs.nf hq rfl
      exact postE_ok p3 e4 (dat_lift e4.fh (.lst upd_same ((datL_cut (h2.mono e13.ff.sm) l hh).mono e4.ff.sm)))
    | str s =>
      have dv := (own_d o1).1
      cases dv
      have p4 : PostE L F3 H3 (.d bw) (oR (if s.length ≤ LN then some (.str (cutG s l hh)) else none)) W σ Q := p3
      by_cases hl : s.length ≤ LN
      · rw [if_pos hl] at p4
        exact .inr ⟨_, rfl, by rw [s_len]; exact le_line hl, by rw [cutS_G]; exact postE_ok p4 r3.refl .str⟩
      · rw [if_neg hl] at p4; exact p4.elim
    | _ => exact p3.elim

/-! ### in -/
noncomputable def findN (s t : List Nat) (lo : Nat) : Option Nat := (List.range' lo (s.length + 1 - lo)).find? fun i => decide (i + t.length ≤ s.length) && ((s.drop i).take t.length == t)
noncomputable def allAt (xs : List D) : Bool := xs.all isAtom
/-- == of atoms -/
noncomputable def eqA : D → D → Bool
  | .non, .non => true
  | .bl a, .bl b => a == b
  | .bl a, .int b => (if a then 1 else 0) == b
  | .int a, .bl b => a == (if b then 1 else 0)
  | .int a, .int b => a == b
  | .str a, .str b => a == b
  | _, _ => false
noncomputable def dInB : D → D → Option Bool
  | .str t, .str s => some (findN s t 0).isSome
  | x, .lst xs => if isAtom x = true ∧ allAt xs = true then some (xs.any fun y => eqA y x) else none
  | x, .tup xs => if isAtom x = true ∧ allAt xs = true then some (xs.any fun y => eqA y x) else none
  | _, _ => none
noncomputable def dIn (x y : D) : Option D := (dInB x y).map .bl
theorem at_findN {s t : List Nat} {i : Nat} : PySem.StrLaws.At ⟨s.toArray⟩ ⟨t.toArray⟩ (Str.length ⟨s.toArray⟩) i ↔ (decide (i + t.length ≤ s.length) && ((s.drop i).take t.length == t)) = true := by
  unfold PySem.StrLaws.At
  rw [s_len, s_len, PySem.StrLaws.subAt_eq, s_len, Bool.and_eq_true, decide_eq_true_eq]
theorem findN_some {s t : List Nat} {lo i : Nat} (h : findN s t lo = some i) : lo ≤ i ∧ (decide (i + t.length ≤ s.length) && ((s.drop i).take t.length == t)) = true ∧ ∀ k, lo ≤ k → k < i → ¬ (decide (k + t.length ≤ s.length) && ((s.drop k).take t.length == t)) = true := by
  unfold findN at h
  rw [List.find?_range'_eq_some] at h
  obtain ⟨h1, h2, h3⟩ := h
  have h4 := List.mem_range'_1.mp h2
  refine ⟨h4.1, h1, fun k k1 k2 => ?_⟩
  intro z
  have := h3 k k1 k2
  simp only [z] at this
  cases this
theorem findN_none {s t : List Nat} {lo : Nat} (h : findN s t lo = none) : ∀ i, lo ≤ i → ¬ (decide (i + t.length ≤ s.length) && ((s.drop i).take t.length == t)) = true := by
  intro i hi z
  unfold findN at h
  rw [List.find?_eq_none] at h
  have hl : i + t.length ≤ s.length := by
    rw [Bool.and_eq_true, decide_eq_true_eq] at z
    exact z.1
  exact h i (List.mem_range'_1.mpr ⟨hi, by omega⟩) z
/-- the model's search is findN -/
theorem occ_findN (s t : List Nat) (lo : Nat) : (match Builtin.Str.occurrences ⟨s.toArray⟩ ⟨t.toArray⟩ lo (Str.length ⟨s.toArray⟩) 1 with | k :: _ => some k | [] => none) = findN s t lo := by
  rcases PySem.StrLaws.occ_head_from ⟨s.toArray⟩ ⟨t.toArray⟩ lo 1 (Nat.le_refl _) with ⟨h, hn⟩ | ⟨i, r, h, hlo, ha, hn⟩
  · rw [h]
    cases q : findN s t lo with
    | none => rfl
    | some j =>
      obtain ⟨a, b, _⟩ := findN_some q
      exact (hn j a (at_findN.mpr b)).elim
  · rw [h]
    cases q : findN s t lo with
    | none => exact (findN_none q i hlo (at_findN.mp ha)).elim
    | some j =>
      obtain ⟨a, b, c⟩ := findN_some q
      rcases Nat.lt_trichotomy i j with z | z | z
      · exact (c i hlo z (at_findN.mp ha)).elim
      · rw [z]
      · exact (hn j a z (at_findN.mpr b)).elim
theorem occ_empty (s t : List Nat) : (!(Builtin.Str.occurrences ⟨s.toArray⟩ ⟨t.toArray⟩ 0 (Str.length ⟨s.toArray⟩) 1).isEmpty) = (findN s t 0).isSome := by
  rw [← occ_findN]
  cases Builtin.Str.occurrences ⟨s.toArray⟩ ⟨t.toArray⟩ 0 (Str.length ⟨s.toArray⟩) 1 <;> rfl
theorem flat_atom {K : PySem.W.Frag} {F : Hp} {v : V} {d : D} (h : Dat K F v d) (a : isAtom d = true) : flatV v = true := by
  cases h <;> first | rfl | cases a
theorem eqA_V {K : PySem.W.Frag} {F : Hp} {v w : V} {d e : D} (h : Dat K F v d) (h' : Dat K F w e) (a : isAtom d = true) (b : isAtom e = true) : eqV v w = eqA d e := by
  cases h <;> cases h' <;> first | rfl | cases a | cases b | skip
  rename_i s t
  show ((⟨s.toArray⟩ : Str) == ⟨t.toArray⟩) = (s == t)
  rw [Bool.eq_iff_iff]
  simp
theorem any_eqA {K : PySem.W.Frag} {F : Hp} {x : V} {dx : D} (h : Dat K F x dx) (a : isAtom dx = true) : ∀ {vs : List V} {ds : List D}, DatL K F vs ds → allAt ds = true → vs.all flatV = true ∧ inV x vs = ds.any fun y => eqA y dx
  | _, _, .nil, _ => ⟨rfl, rfl⟩
  | _, _, .cons g r, b => by
    unfold allAt at b
    rw [List.all_cons, Bool.and_eq_true] at b
    obtain ⟨i1, i2⟩ := any_eqA h a r b.2
    refine ⟨by rw [List.all_cons, flat_atom g b.1, i1]; rfl, ?_⟩
    unfold inV at i2 ⊢
    rw [List.any_cons, List.any_cons, i2, eqA_V g h b.1 a]
noncomputable def rInB (K : PySem.W.Frag) (neg : Bool) : R2 := fun x y H Q => (fun x y H Q => ∃ i j, x = .str i ∧ y = .str j ∧ Q (.bl (if neg then !(!(Builtin.Str.occurrences j i 0 j.length 1).isEmpty) else !(Builtin.Str.occurrences j i 0 j.length 1).isEmpty)) H) x y H Q ∨ rIn K neg x y H Q
theorem in_way {F H : Hp} {x y : V} {dx dy : D} {neg b : Bool} (s : Same F H) (hx : Dat L.K (cond bw H F) x dx) (hy : Dat L.K (cond bw H F) y dy) (e : dInB dx dy = some b) (Q : VK) (q : Q (.bl (if neg then !b else b)) H) : rInB L.K neg x y H Q := by
  unfold dInB at e
  split at e
  · cases e
    cases hx; cases hy
    refine .inl ⟨_, _, rfl, rfl, ?_⟩
    rw [occ_empty]
    exact q
  · split at e
    · rename_i hh
      cases e
      obtain ⟨a, vs, rfl, h1, h2⟩ := dat_sq hy
      obtain ⟨f1, f2⟩ := any_eqA hx hh.1 h2 hh.2
      exact .inr ⟨a, vs, rfl, .inl (sm_l (cond_sm s) (SqL.of h1)), flat_atom hx hh.1, f1, by rw [f2]; exact q⟩
    · cases e
  · split at e
    · rename_i hh
      cases e
      obtain ⟨a, vs, rfl, h1, h2⟩ := dat_tp hy
      obtain ⟨f1, f2⟩ := any_eqA hx hh.1 h2 hh.2
      exact .inr ⟨a, vs, rfl, .inr (sm_t (cond_sm s) h1), flat_atom hx hh.1, f1, by rw [f2]; exact q⟩
    · cases e
  · cases e
theorem od_in {bw2 : Bool} : OpD L (rInB L.K false) bw (.d bw2) dIn := opD_pure fun F H x y dx dy d s hx hy e => by
  unfold dIn at e
  cases q : dInB dx dy with
  | none => rw [q] at e; cases e
  | some b => rw [q] at e; cases e; exact ⟨.bl b, fun _ => .bl, fun Q k => in_way s hx hy q Q k⟩
theorem or_in (hK : X.K = L.K) : OpR X (compareOp .In) (rInB L.K false) := by
  rw [← hK]
  exact op_in_str.or op_in_seq
/-! ### built-ins -/
theorem callD_pure {r : List V → Hp → VK → Prop} {bw2 : Bool} {g : List D → Option D} (h : ∀ (F H : Hp) (vs : List V) (ds : List D) (d : D), Same F H → DatL L.K (cond bw H F) vs ds → g ds = some d → ∃ v, (∀ F, Dat L.K F v d) ∧ ∀ Q : VK, Q v H → r vs H Q) : CallD L r bw (.d bw2) g :=
  fun F H vs ds d s nt hx e Q q => by
    obtain ⟨v, dv, go⟩ := h F H vs ds d s hx e
    exact go Q (q v F H [] (.refl s nt) (own_lift s (dv F)) List.nodup_nil fun a m => nomatch m)
theorem datL1 {K : PySem.W.Frag} {F : Hp} {vs : List V} {d : D} (h : DatL K F vs [d]) : ∃ v, vs = [v] ∧ Dat K F v d := by
  cases h with
  | cons a b => cases b; exact ⟨_, rfl, a⟩
theorem datL2 {K : PySem.W.Frag} {F : Hp} {vs : List V} {d e : D} (h : DatL K F vs [d, e]) : ∃ v w, vs = [v, w] ∧ Dat K F v d ∧ Dat K F w e := by
  cases h with
  | cons a b => obtain ⟨w, rfl, c⟩ := datL1 b; exact ⟨_, _, rfl, a, c⟩
noncomputable def dLen : List D → Option D
  | [.str s] => if s.length ≤ LN then some (.int s.length) else none
  | [.lst xs] => some (.int xs.length)
  | [.tup xs] => some (.int xs.length)
  | [.scr xs] => some (.int xs.length)
  | _ => none
theorem cd_len {bw2 : Bool} (hK : X.K = L.K) : CallD L (fun xs H Q => ∃ x n, xs = [x] ∧ LenV X.K x H n ∧ Q (.int n) H) bw (.d bw2) dLen := callD_pure fun F H vs ds d s hx e => by
  rw [hK]
  unfold dLen at e
  split at e
  · split at e <;> cases e
    rename_i hl
    obtain ⟨v, rfl, h⟩ := datL1 hx
    cases h
    exact ⟨_, fun _ => .int, fun Q q => ⟨_, _, rfl, ⟨by rw [s_len]; exact le_line hl, (s_len _).symm⟩, q⟩⟩
  · cases e
    obtain ⟨v, rfl, h⟩ := datL1 hx
    obtain ⟨a, ws, rfl, h1, h2⟩ := dat_sq h
    exact ⟨_, fun _ => .int, fun Q q => ⟨_, _, rfl, .inl ⟨ws, sm_l (cond_sm s) (SqL.of h1), h2.length.symm⟩, q⟩⟩
  · cases e
    obtain ⟨v, rfl, h⟩ := datL1 hx
    obtain ⟨a, ws, rfl, h1, h2⟩ := dat_tp h
    exact ⟨_, fun _ => .int, fun Q q => ⟨_, _, rfl, .inr ⟨ws, sm_t (cond_sm s) h1, h2.length.symm⟩, q⟩⟩
  · cases e
    obtain ⟨v, rfl, h⟩ := datL1 hx
    cases h with
    | scr h => exact ⟨_, fun _ => .int, fun Q q => ⟨_, _, rfl, .inl ⟨_, sm_l (cond_sm s) h, (List.length_map ..).symm⟩, q⟩⟩
  · cases e
noncomputable def dAbs : List D → Option D
  | [.int i] => some (.int (if i < 0 then -i else i))
  | _ => none
theorem cd_abs {bw2 : Bool} : CallD L (fun xs H Q => ∃ i, xs = [.int i] ∧ Q (.int (if i < 0 then -i else i)) H) bw (.d bw2) dAbs := callD_pure fun F H vs ds d s hx e => by
  unfold dAbs at e
  split at e <;> cases e
  obtain ⟨v, rfl, h⟩ := datL1 hx
  cases h
  exact ⟨_, fun _ => .int, fun Q q => ⟨_, rfl, q⟩⟩
noncomputable def dMax2 : List D → Option D
  | [.int i, .int j] => some (.int (if j > i then j else i))
  | _ => none
noncomputable def dMin2 : List D → Option D
  | [.int i, .int j] => some (.int (if j < i then j else i))
  | _ => none
theorem cd_max {bw2 : Bool} : CallD L (fun xs H Q => ∃ i j, xs = [.int i, .int j] ∧ Q (.int (if j > i then j else i)) H) bw (.d bw2) dMax2 := callD_pure fun F H vs ds d s hx e => by
  unfold dMax2 at e
  split at e <;> cases e
  obtain ⟨v, w, rfl, h, h'⟩ := datL2 hx
  cases h; cases h'
  exact ⟨_, fun _ => .int, fun Q q => ⟨_, _, rfl, q⟩⟩
theorem cd_min {bw2 : Bool} : CallD L (fun xs H Q => ∃ i j, xs = [.int i, .int j] ∧ Q (.int (if j < i then j else i)) H) bw (.d bw2) dMin2 := callD_pure fun F H vs ds d s hx e => by
  unfold dMin2 at e
  split at e <;> cases e
  obtain ⟨v, w, rfl, h, h'⟩ := datL2 hx
  cases h; cases h'
  exact ⟨_, fun _ => .int, fun Q q => ⟨_, _, rfl, q⟩⟩
noncomputable def dInt1 : List D → Option D
  | [.int i] => some (.int i)
  | [.bl k] => some (.int (if k then 1 else 0))
  | _ => none
theorem cd_int {bw2 : Bool} : CallD L (fun xs H Q => (∃ i, xs = [.int i] ∧ Q (.int i) H) ∨ ∃ k, xs = [.bl k] ∧ Q (.int (if k then 1 else 0)) H) bw (.d bw2) dInt1 := callD_pure fun F H vs ds d s hx e => by
  unfold dInt1 at e
  split at e <;> cases e
  · obtain ⟨v, rfl, h⟩ := datL1 hx
    cases h
    exact ⟨_, fun _ => .int, fun Q q => .inl ⟨_, rfl, q⟩⟩
  · obtain ⟨v, rfl, h⟩ := datL1 hx
    cases h
    exact ⟨_, fun _ => .int, fun Q q => .inr ⟨_, rfl, q⟩⟩
noncomputable def dListOf : List D → Option D
  | [.lst xs] => some (.lst xs)
  | [.tup xs] => some (.lst xs)
  | _ => none
theorem cd_list (hK : X.K = L.K) : CallD L (fun xs H Q => ∃ p ys, xs = [.ref p] ∧ (SqL X.K H p ys ∨ SqT X.K H p ys) ∧ ∀ l, H l = none → Q (.ref l) (upd H l (.lst ys))) false (.l .s) dListOf := fun F H vs ds d s nt hx e Q q => by
  rw [hK]
  have fin : ∀ {ws : List V} {xs : List D} {a : Addr}, DatL L.K F ws xs → d = .lst xs → H a = none → Q (.ref a) (upd H a (.lst ws)) := fun {ws xs a} h e hp => by
    subst e
    refine q _ F _ [a] (Ext.newH s nt hp) (.l upd_same (OwnL.ofDat h)) (by simp) fun b m => ?_
    have e : b = a := by simpa using m
    subst e
    exact ⟨s.free hp, .of hp⟩
  unfold dListOf at e
  split at e <;> cases e
  · obtain ⟨v, rfl, h⟩ := datL1 hx
    obtain ⟨a, ws, rfl, h1, h2⟩ := dat_sq h
    exact ⟨a, ws, rfl, .inl (SqL.of (s _ _ h1)), fun l hl => fin h2 rfl hl⟩
  · obtain ⟨v, rfl, h⟩ := datL1 hx
    obtain ⟨a, ws, rfl, h1, h2⟩ := dat_tp h
    exact ⟨a, ws, rfl, .inr (sm_t s.sm h1), fun l hl => fin h2 rfl hl⟩
noncomputable def dTupOf : List D → Option D
  | [.lst xs] => some (.tup xs)
  | [.tup xs] => some (.tup xs)
  | _ => none
theorem cd_tup {bw2 : Bool} (hK : X.K = L.K) : CallD L (fun xs H Q => ∃ p ys, xs = [.ref p] ∧ ((SqL X.K H p ys ∧ ∀ l, H l = none → Q (.ref l) (upd H l (.tup ys))) ∨ (SqT X.K H p ys ∧ Q (.ref p) H))) false (.d bw2) dTupOf := fun F H vs ds d s nt hx e Q q => by
  rw [hK]
  unfold dTupOf at e
  split at e <;> cases e
  · obtain ⟨v, rfl, h⟩ := datL1 hx
    obtain ⟨a, ws, rfl, h1, h2⟩ := dat_sq h
    refine ⟨a, ws, rfl, .inl ⟨SqL.of (s _ _ h1), fun l hl => ?_⟩⟩
    have e4 := Ext.newF (T := L.T) (o := .tup ws) s nt hl rfl
    exact q _ _ _ [] e4 (own_lift e4.fh (.tup (SqT.of upd_same) (h2.mono e4.ff.sm))) List.nodup_nil fun a m => nomatch m
  · obtain ⟨v, rfl, h⟩ := datL1 hx
    obtain ⟨a, ws, rfl, h1, h2⟩ := dat_tp h
    exact ⟨a, ws, rfl, .inr ⟨sm_t s.sm h1, q _ F H [] (.refl s nt) (own_lift s (.tup h1 h2)) List.nodup_nil fun a m => nomatch m⟩⟩
end
end PD
set_option Elab.async false
set_option linter.all false
set_option maxRecDepth 100000
set_option maxHeartbeats 2000000
namespace PD
open PySem PySem.Spec PyProof.Rows L2

/-! ### all(x in WORDS for x in e), e a text, WORDS a text of the module -/
section
variable {X : Cx} {pins : List (Addr × Obj)} {σ : L2.St} {H : Hp} {s : Shared}
/-- the element of the generator, where its frame is env2 -/
noncomputable def EltW (P : Program) (w : World) (mg : Str → Option Value) (sc : Scope) (x : Str) (elt : Expr) (pb : Nat → Bool) : Prop :=
  ∀ (env2 : PySem.Env) (A2 : Around) (E2 : Value → Shared → Prop) (c : Nat) (t : Tok) (s2 : Shared) (m2 : Str → Option Value), env2.scope = sc → env2.globals = mainGlobals → s2.heap.Ns mainGlobals mg → s2.heap.Ns env2.locals m2 → m2 x = some (.str ⟨#[c]⟩ t) →
    wpAny (model P w) A2 (eval elt env2) (fun y s3 => y = .bool (pb c) ∧ Keeps s2 s3) E2 s2
theorem elt_inG {P : Program} {w : World} {mg : Str → Option Value} {sc : Scope} {x g z : Str} {t : Tok} {p1 p2 p3 : Pos} (hk : sc.kind = .function) (hl : sc.names.lookup x = some .local) (hg : sc.names.lookup g = some .globalImplicit) (hm : mg g = some (.str z t))
    (hd : (x == ("__debug__" : Str)) = false := by decide) (hd2 : (g == ("__debug__" : Str)) = false := by decide) : EltW P w mg sc x (.Compare (.Name x p1) [.In] [.Name g p2] p3) (fun c => decide (c ∈ z.cps.toList)) := by
  intro env2 A2 E2 c tk s2 m2 h1 h2 h3 h4 h5
  have kk : env2.scope.kind = .function := by rw [h1]; exact hk
  have kl : env2.scope.names.lookup x = some .local := by rw [h1]; exact hl
  have kg : env2.kindOf g = some .globalImplicit := by
    show env2.scope.names.lookup g = some .globalImplicit
    rw [h1]; exact hg
  refine wpAny_Compare1 ?_ (by rfl)
  refine wpAny_Name (wpAny_loadName_local kk kl h4 h5 ?_) hd
  refine Calls.Name_function_global kk kg (Calls.loadGlobal_global (by rw [h2]; exact h3) hm ?_) hd2
  exact PyProof.Rows.in_str ⟨congrArg Value.bool (PySem.StrLaws.found_one z c), GxR.keeps_refl _⟩
/-- such a generator is made and ready to be walked -/
theorem gen_w {c T : Addr} {elt iter : Expr} {x : Str} {px gp : Pos} {sc : Scope} {pb : Nat → Bool} {te : TE} {k : Nat} {Z : Value → Shared → Prop} {Rr : Str → Hp → Prop} (hr : Room k X.A) (TB : GxR.TabB X.base X.mg c T) (hcode : X.env.code = .ref c)
    (G : GxR.GenS X.env sc x) (hi : PE X iter te) (hel : EltW X.prog X.w X.mg sc x elt pb) (hs : ∀ v, genFold iter X.env v = pure v) (I : Inv X pins σ H s) (h : te σ H fun v H1 => ∃ a : Str, v = .str a ∧ GxR.TabG H1 T ∧ Rr a H1)
    (hZ : ∀ a H1 g s5, Rr a H1 → GxR.Ready X pins σ H1 T a pb g s5 → Z (.ref g) s5) : wpAny (model X.prog X.w) X.A (eval (.GeneratorExp elt [⟨.Name x px, iter, [], 0⟩] sc gp) X.env) Z X.xe s := by
  have dep : X.A.depth + 1 < recursionLimit ∨ True := .inr trivial
  refine wpAny_GeneratorExp_walksQ hr.hd G.co (closure_ok G.free) G.cell G.dot G.loc G.kind (by have q := hr.dp; omega) ?_ hs
  refine thn (hi.run pins s σ H _ I h) fun val sA ⟨v0, HA, IA, rA, hA⟩ => ?_
  obtain ⟨tx, ev, ⟨ps, hT, hps⟩, hR⟩ := hA
  subst ev
  obtain ⟨tk0, ek⟩ := _root_.id rA
  subst ek
  refine wpAny_pyIter_str fun ob Sv Wv hSv => ?_
  have tabA : sA.heap.get? T = some { cls := .none, data := .fields ps } := IA.hok T _ hT
  have ltT : T < sA.heap.objs.size := Heap.lt_size tabA
  have tabB : (sA.heap.push ob).get? T = some { cls := .none, data := .fields ps } := Heap.get?_push_of_some _ tabA
  have codeB : PySem.W.CodeHd (sA.heap.push ob) c T := TB.code.keeps fun b u q => Heap.get?_push_of_some _ (IA.bk b u q)
  have limB : (sA.heap.push ob).NoLimit := IA.nolimit.push ob
  have nsA : sA.heap.Ns mainGlobals X.mg := IA.mod.glob.keeps IA.bk
  have ltG : mainGlobals < sA.heap.objs.size := nsA.lt
  have go : ∀ (code : Value) (hp : Heap) (tk : Nat) (ps2 : Array Value), Heap.ExtBut T (sA.heap.push ob) hp → (sA.heap.push ob).objs.size ≤ hp.objs.size → hp.get? T = some { cls := .none, data := .fields ps2 } → (∃ more, ps2 = ps ++ more) → TriplesOk ps2.toList →
      wpAny (model X.prog X.w) X.A (builtinsFor X.env.globals X.env.builtins) (fun bi sD =>
        ∃ ia fp wr n0 Pf Sf pz Ff, Value.ref sA.heap.objs.size = .ref ia ∧ (∀ A2 : Around, A2.handled = none → Walks X.prog X.w A2 ia fp wr n0 Pf Sf) ∧ Sf 0 sD.heap ∧ (∀ b ∈ fp, b < sD.heap.objs.size) ∧ sD.heap.NoLimit ∧ cStatics ∉ wr ∧
          (∀ hq : Heap, (∀ b o, sD.heap.get? b = some o → hq.get? b = some o) → QuietGen X.prog X.w (genEnv sc (cloFrom X.env.cells sc.names []) sD.heap.objs.size code bi X.env) x [] elt (List.range sD.heap.objs.size) wr Pf pz Ff hq) ∧
          (∀ a hv tv gs, gs.bare = true → sD.heap.objs.size < a → hv.objs.size = a + 1 → (∀ b o, sD.heap.get? b = some o → hv.get? b = some o) →
            WalksS X.prog X.w X.A.in4 a (a :: sD.heap.objs.size :: List.range sD.heap.objs.size) (sD.heap.objs.size :: wr) (GenOnlyQ sD.gens.size) (passing pz n0 0).length (fun j y => ∃ i, (passing pz n0 0)[j]? = some i ∧ Ff i y)
              (GenAt X.prog X.w X.A.in4 a sD.gens.size sD.heap.objs.size (List.range sD.heap.objs.size) wr pz n0 Ff) →
            GenAt X.prog X.w X.A.in4 a sD.gens.size sD.heap.objs.size (List.range sD.heap.objs.size) wr pz n0 Ff 0 { sD with gens := sD.gens.push gs, toks := tv, heap := hv } → Z (.ref a) { sD with gens := sD.gens.push gs, toks := tv, heap := hv })) X.xe { sA with heap := hp, toks := tk } := by
    intro code hp tk ps2 ext sz tabP grew okP
    obtain ⟨bm, bo, f1, f2, f3, f4, f5, f6, f7, f8⟩ := TB.bm
    have statNe : cStatics ≠ T := fun q => by
      obtain ⟨_, hn1, _⟩ := IA.nolimit
      obtain ⟨o', _, _, g1, g2, _⟩ := hn1
      rw [q, tabA] at g1
      cases g1; cases g2
    have statLt : cStatics < sA.heap.objs.size := by
      obtain ⟨_, hn1, _⟩ := IA.nolimit
      exact hn1.lt
    have szB : (sA.heap.push ob).objs.size = sA.heap.objs.size + 1 := Heap.size_push ..
    have gr : sA.heap.objs.size < hp.objs.size := by
      have q := sz
      rw [szB] at q
      exact q
    have keepP : ∀ b u, b ≠ T → sA.heap.get? b = some u → hp.get? b = some u := fun b u hb q => ext b u hb (Heap.get?_push_of_some _ q)
    refine wpAny_builtinsFor (m := X.mg) (by rw [IA.ok.glob]; exact (nsA.push ob).extBut ext TB.gP) f1 f2 (keepP _ _ f4 (IA.bk _ _ f5)) f6 f7 f8 ?_
    refine ⟨sA.heap.objs.size, [sA.heap.objs.size], [sA.heap.objs.size], tx.cps.size, SignAt tx, Sv, (fun _ => true), (fun i y => ∃ cc, tx.cps[i]? = some cc ∧ y = .bool (pb cc)), rfl, Wv, ?_, ?_, limB.extBut ext statNe, ?_, ?_, ?_⟩
    · refine (Wv X.A hr.hd).frame _ _ _ hSv fun b hb u q => ext b u (fun z => ?_) q
      have eb : b = sA.heap.objs.size := by simpa using hb
      exact Nat.ne_of_lt ltT (z.symm.trans eb)
    · intro b hb
      have eb : b = sA.heap.objs.size := by simpa using hb
      show b < hp.objs.size
      rw [eb]
      exact gr
    · intro z
      have eb : cStatics = sA.heap.objs.size := by simpa using z
      exact Nat.ne_of_lt statLt eb
    · intro hq hhq
      refine ⟨fun A2 E2 i v s2 m2 g1 g2 g3 g4 g5 => ?_, fun A2 E2 i v s2 m2 g1 g2 g3 g4 g5 g6 => ?_⟩
      · simp only [List.forIn_nil]
        exact wpAny_pure ⟨rfl, GxR.keeps_refl _⟩
      · obtain ⟨cc, u, hcc, rfl⟩ := g2
        have nsQ : s2.heap.Ns mainGlobals X.mg := by
          obtain ⟨o, es, ep, q1, q2⟩ := nsA
          refine ⟨o, es, ep, g6 mainGlobals ?_ ?_ o (hhq _ _ (keepP _ _ TB.gP q1)), q2⟩
          · rw [List.mem_range]
            show mainGlobals < hp.objs.size
            exact Nat.lt_trans ltG gr
          · intro z
            have eb : mainGlobals = sA.heap.objs.size := by simpa using z
            exact Nat.ne_of_lt ltG eb
        refine wpAny_mono (hel _ A2 E2 cc u s2 m2 rfl IA.ok.glob nsQ g4 g5) (fun y s3 q => ⟨⟨cc, hcc, q.1⟩, q.2⟩) fun _ _ q => q
    · intro a hv tv gs bare1 age szv keepv Wz gat
      simp only [GxR.passing_true, List.length_range] at Wz
      refine hZ tx HA a _ hR ⟨_, _, _, _, _, Wz.in4_1, gat, ?_, fun sE hmv => ?_⟩
      · intro j y sj Qj Ej hy hQj
        obtain ⟨i, hij, cc, hcc, rfl⟩ := hy
        obtain ⟨hj, ej⟩ := List.getElem?_eq_some_iff.mp hij
        have ej : j = i := by rw [List.getElem_range] at ej; exact ej
        subst ej
        have at_ : tx.cps.toList[j]? = some cc := by rw [Array.getElem?_toList]; exact hcc
        have hQ2 : Qj (GxR.trF pb tx.cps.toList j) sj := hQj
        rw [GxR.trF_some at_] at hQ2
        exact wpAny_truthy_bool hQ2
      · obtain ⟨more, em⟩ := grew
        have old : ∀ b u, sA.heap.get? b = some u → b ∉ hp.objs.size :: [sA.heap.objs.size] := fun b u q hb => by
          have hl := Heap.lt_size q
          have : b = hp.objs.size ∨ b = sA.heap.objs.size := by simpa using hb
          rcases this with z | z
          · exact Nat.ne_of_lt (Nat.lt_trans hl gr) z
          · exact Nat.ne_of_lt hl z
        have K1 := GxR.inv_tab (more := more) (h' := sE.heap) (g' := sE.gens) (d' := sE.drawn) (t' := sE.toks) IA hT (fun b u hb q => hmv.heap b u (old b u q) (keepv b u (keepP b u hb q)))
          (by rw [← em]; exact hmv.heap T _ (old T _ tabA) (keepv T _ tabP)) (AllBare.movedS (IA.bare.push bare1) hmv)
        rw [GxR.sh_eta sA sE hmv.os] at K1
        exact ⟨upd HA T (.tbl (ps ++ more)), ⟨⟨_, upd_same, by rw [← em]; exact okP⟩, fun b hb => upd_ne hb⟩, K1⟩
  refine ⟨limB, ?_⟩
  cases hf : codeAmong gp ps.toList with
  | none =>
    refine wpAny_genexprCodeX hcode (codeB.code tabB hps) (codeB.tab tabB) hf fun c2 hC tC hxC hgeC hltC coC _ tbC _ => ?_
    obtain ⟨_, _, _, _, _, _, _, _, _, _, _, _, _, _, _, _, _, _, _, trip, _⟩ := coC
    exact go _ hC tC _ hxC (Nat.le_trans hgeC (Nat.le_of_lt hltC)) tbC.2 ⟨_, rfl⟩ trip
  | some cv =>
    refine wpAny_genexprCode_hit hcode (codeB.code tabB hps) hf ?_
    exact go cv (sA.heap.push ob) sA.toks ps (Heap.ExtBut.refl _ _) (Nat.le_refl _) tabB ⟨#[], by simp⟩ hps
theorem pe_allW {c T : Addr} {elt iter : Expr} {x : Str} {px p pos gp : Pos} {sc : Scope} {pb : Nat → Bool} {te : TE} {k : Nat} (hr : Room k X.A) (hm : X.mg "all" = none) (TB : GxR.TabB X.base X.mg c T) (hcode : X.env.code = .ref c) (G : GxR.GenS X.env sc x)
    (hi : PE X iter te) (hel : EltW X.prog X.w X.mg sc x elt pb) (hs : ∀ v, genFold iter X.env v = pure v) (hg : Gl X "all" := by rfl)
    (he : starEach [.GeneratorExp elt [⟨.Name x px, iter, [], 0⟩] sc gp] X.env = (false, eval (.GeneratorExp elt [⟨.Name x px, iter, [], 0⟩] sc gp) X.env) :: starEach [] X.env := by rfl) : PE X (.Call (.Name "all" p) [.GeneratorExp elt [⟨.Name x px, iter, [], 0⟩] sc gp] [] pos) (GxR.tAllS T pb te) := by
  refine ⟨fun pins s σ H Q I h => ?_⟩
  refine wpAny_Call_Name_kw (ld_blt I hg hm (show bootBuiltins "all" = some (.builtin "all") by decide +kernel) ?_)
  refine PyProof.Rows.callWith_builtin1 ?_ he (by rfl)
  rw [he]
  have key := gen_w (px := px) (gp := gp) (Rr := fun a H1 => ∀ H2, GxR.Tabbed T H1 H2 → Q (.bl (a.cps.toList.all pb)) H2) (Z := fun u s5 => wpAny (model X.prog X.w) X.A (spliced (backTo pos (starEach [] X.env))) (fun us s6 => wpAny (model X.prog X.w) X.A (call (.builtin "all") (u :: us)) (EP X pins σ Q) X.xe s6) X.xe s5) hr TB hcode G hi hel hs I h fun a H1 g s5 hR hG => by
    obtain ⟨fp, wr, Gf, Ff, Sf, Wf, hst, htr, hI⟩ := hG
    refine Calls.spliced_nil ?_
    refine call_all_walkS (Wf.self 0 _ _ _ hst ⟨g, fp, wr, Gf, _, Ff, Sf, _, rfl, Wf, hst, htr, fun s' hmv => ?_⟩)
    obtain ⟨H2, hT, J⟩ := hI s' hmv
    refine ⟨.bl _, H2, J, rfl, ?_⟩
    rw [GxR.all_signs a pb]
    exact hR H2 hT
  exact Calls.spliced_cons key
end
end PD
set_option Elab.async false
set_option linter.all false
set_option maxRecDepth 100000
set_option maxHeartbeats 2000000
namespace PD
open PySem PySem.Spec PyProof.Rows L2

/-! ### all(x in WORDS for x in e) -/
noncomputable def dAllS (pb : Nat → Bool) : D → Option D
  | .str s => some (.bl (s.all pb))
  | _ => none
section
variable {X : Cx} {L : LE} {fl : List Sh} {W : WX} {pos : Pos}
theorem e_all {c T : Addr} {elt iter : Expr} {x : Str} {px p gp : Pos} {sc : Scope} {pb : Nat → Bool} {f : Env → R D} {k : Nat} {bw : Bool} (hr : Room k X.A) (hm : X.mg "all" = none) (TB : GxR.TabB X.base X.mg c T) (hT : InT L.T (.g T)) (G : GxR.GenS X.env sc x) (hi : PE X iter (tD L fl .s W f)) (hel : EltW X.prog X.w X.mg sc x elt pb)
    (hcode : X.env.code = .ref c := by rfl) (hs : ∀ v, genFold iter X.env v = pure v := by intro _; rfl) (hg : Gl X "all" := by rfl)
    (he : starEach [.GeneratorExp elt [⟨.Name x px, iter, [], 0⟩] sc gp] X.env = (false, eval (.GeneratorExp elt [⟨.Name x px, iter, [], 0⟩] sc gp) X.env) :: starEach [] X.env := by rfl) : PE X (.Call (.Name "all" p) [.GeneratorExp elt [⟨.Name x px, iter, [], 0⟩] sc gp] [] pos) (tD L fl (.d bw) W (m1 (dAllS pb) f)) :=
  (pe_allW hr hm TB hcode G hi hel hs hg he).imp fun σ H Q ⟨F, B, ρ, r, p⟩ => by
    refine tD_bind rfl r (k := fun x => oR (dAllS pb x)) p fun d v F1 H1 S1 _ e1 r1 o1 _ _ p1 => ?_
    have p2 := p1.weak e1
    have dv := (own_d o1).1
    cases d with
    | str s =>
      cases dv
      have tg : GxR.TabG H1 T := r1.bs.tab _ hT.1
      refine ⟨_, rfl, tg, fun H2 ⟨t2, k2⟩ => ?_⟩
      have ne : ∀ a o, H1 a = some o → isTbl o = false → a ≠ T := fun a o h t z => by
        obtain ⟨ps, q, _⟩ := tg
        rw [z, q] at h
        cases h; cases t
      have ex : Ext L.T F1 H1 F1 H2 := ⟨fun a o h t => by rw [k2 a (ne a o h t)]; exact h, fun P m h => by
        by_cases z : P.a = T
        · rw [hT.2 P m z]; exact t2
        · match P, z, h with
          | .g P, z, ⟨ps, q, w⟩ => exact ⟨ps, by rw [k2 P z]; exact q, w⟩
          | .s P q0, z, ⟨ps, q, w, r⟩ =>
            refine ⟨ps, by rw [k2 P z]; exact q, w, fun x cv hc => ?_⟩
            obtain ⟨c, o, vs, t, φ, e1, e2, e3⟩ := r x cv hc
            refine ⟨c, o, vs, t, φ, e1, ?_, e3⟩
            rw [k2 c fun z => by
              obtain ⟨ps', q', _⟩ := tg
              rw [z, q'] at e2
              cases e2]
            exact e2, .refl _, fun a o h => by rw [k2 a (ne a o (r1.bs.fh a o h) (r1.bs.nf a o h))]; exact r1.bs.fh a o h, fun _ _ _ _ n => n, r1.bs.nf⟩
      have e0 : (⟨s.toArray⟩ : Str).cps.toList = s := by simp
      rw [e0]
      exact postE_ok (d := .bl (s.all pb)) p2 ex .bl
    | _ => exact p2.elim
end
section
variable {P : Program} {w : World} {K : PySem.W.Frag} {mg : Str → Option Value} {base : Heap} {L : LE}
/-- a def whose code object is known -/
theorem fnDc {x qual : Str} {st : Stmt} {f c : Addr} {oc : Value} {od an : Option Addr} {osl : Array (Option Value)} {kV doc pm ct : Value} {N ps : List Str} {k : Nat} (lk : K.lookup f = some ⟨oc, od, .func (PySem.W.fnOf x qual (defArgs st) (defBody st) (defScope st) .none kV doc pm an (.ref c) ct), osl⟩)
    (hcd : PySem.W.codeIn K (.ref c) qual = true) (S : FnScope N ps (defScope st)) (hL : L.K = K) {fl fl' rest : List Sh} {rs : Sh} {b : Env → R Fl} (fall : Bool) (hfl : fl = List.replicate ps.length .s ++ rest) (hln : fl.length = N.length) (hfall : fall = true → rs = .s)
    (hb : ∀ (A : Around) (outer : List PySem.Env) (s : Shared) (H : Hp) (E : XK), Room k (A.deeper (envOfC qual (defScope st) s.heap.objs.size f (.ref c))) →
      PSs (cxOf (L2.CX P w) P w K mg base N qual (defScope st) f (.ref c) A outer s H E) (defBody st) (tS L ⟨rs, [], []⟩ fl fl' (WF' E) b))  (hnx : fl.all (fun sh => !sh.isX) = true := by rfl) :
    FnOk P w K mg base (L2.CX P w) (k + 1) f (PySem.W.fnOf x qual (defArgs st) (defBody st) (defScope st) .none kV doc pm an (.ref c) ct) ps (spD L rs ps.length (mFn N.length fall b)) := by
  refine fn_of lk hcd S (fun vs H Q E ⟨_, _, ds, _, d, hl, _⟩ => d.length.trans hl) (fun A outer s H vs Q E hr ⟨F0, B, ds, bs, d, hl, p⟩ => ⟨_, hb A outer s H E hr, ?_⟩)
  refine ⟨F0, B, _, rep_start (N := N) bs d (by rw [hl]; exact hfl) hln hnx, ?_⟩
  unfold mFn at p
  generalize b (ds.map some ++ List.replicate (N.length - ds.length) none) = r at p
  cases r with
  | ok y =>
    cases y with
    | nx ρ =>
      dsimp only at p
      cases fall with
      | false => rw [if_neg Bool.false_ne_true] at p; exact p.elim
      | true =>
        rw [if_pos rfl] at p
        have e := hfall rfl
        subst e
        exact fun σ' F' H' s r' => p .non F' H' [] s r'.bs (.d (bw := false) .non) List.nodup_nil (fun a m => nomatch m)
    | rt d => exact p
    | bk ρ => exact p.elim
    | ct ρ => exact p.elim
    | ex c fs ρ => exact fun cls d fl0 σ' F' H' s r' x => p cls d F' H' s r'.bs x
  | err c fs => exact p.elim
  | stuck => exact p.elim
end

/-! ### the end -/
open LamX in
theorem walk_tabs {l : PySem.W.OpenLaw} {n k : Nat} {q : Program} {loose : List Str} {XP : (Str → Option Value) → Heap → Prop} {YP : World → Heap → Prop} {d : DefRec} {K : Params → PySem.W.Frag} {CX : World → CXT} {x : Str}
    (hn : l.most = some n) (hn2 : n ≤ sizeLine) (hdf : d.params.defaults = []) (hr : Room k callerA) (hY : ∀ (w : World) (h : Heap), YP w h → (K w.params).In h)
    (F : ∀ (w : World) (mg : Str → Option Value) (fa : Addr) (h : Heap), YP w h → (K w.params).In h → h.Ns mainGlobals mg → mg d.name = some (.ref fa) →
      (∀ (nm : Str) (f : Addr), ((recsOf q).any fun e => e.name == nm) = true → mg nm = some (.ref f) → OwnTab (K w.params) f h) → LawAtS l w (K w.params) (CX w) k n x mg fa h)
    (hCX : ∀ (w : World) (H : Hp) (s : Shared) (e : Value) (s' : Shared), CX w [] H s (fun _ _ _ => False) e s' → False) :
    PySem.W.WalkO q loose XP YP l.row.toRowW d [] (fun f vs => PySem.call f vs) := by
  refine Att.attach_callB hn hdf fun w s0 s1 mg mb fa o pm cd doc a vs ns G Y ho hd hcd hmg hobj hints hlen hbits hg => ?_
  have KX := hY w _ Y
  have own : ∀ (nm : Str) (f : Addr), ((recsOf q).any fun e => e.name == nm) = true → mg nm = some (.ref f) → OwnTab (K w.params) f s1.heap := fun nm f hrec hm0 c P o1 fd1 e dd vs1 sl k1 k2 k3 k4 k5 => by
    obtain ⟨dL, hm, hn1⟩ := List.any_eq_true.mp hrec
    have hn2 : dL.name = nm := beq_iff_eq.mp hn1
    obtain ⟨a', o', fd', c', P', h1, h2, h3, h4, h5, h6⟩ := G.T.tab dL hm
    rw [hn2, hm0] at h1
    cases h1
    rw [KX _ _ k1] at h2
    cases h2
    rw [k2] at h3
    cases h3
    rw [k3] at h4
    cases h4
    obtain ⟨⟨oc, vc, e1, _, e3, e4⟩, hP⟩ := h6
    rw [KX _ _ k4] at e1
    cases e1
    cases e3
    rw [k5] at e4
    cases e4
    exact hP
  obtain ⟨fd, cs, sp, hT, nT, C, hb, hsp, hF⟩ := F w mg fa _ Y KX G.T.g hmg own
  exact law_callTs KX G.T.g G.T.b G.T.builtins G.T.nolimit hg hT nT C G.T.bmain hobj hints (Nat.le_trans hlen hn2) hr hF hb (fun H hH hS => hsp H a ns hlen hbits hH hS) fun H e s' => hCX w H s1 e s'
theorem cx_false {P : Program} {w : World} {H : Hp} {s : Shared} {e : Value} {s' : Shared} (h : L2.CX P w [] H s (fun _ _ _ => False) e s') : False := by
  obtain ⟨_, _, _, _, _, _, _, _, _, _, _, _, z⟩ := h
  exact z
/-- a code object's table, empty at the law's entry -/
structure CTab (K : PySem.W.Frag) (h : Heap) (c T : Addr) : Prop where
  t : h.get? T = some { cls := .none, data := .fields #[] }
  n : K.lookup T = none
  c : PySem.W.CodeHd h c T
open LamX in
theorem law_at {l : PySem.W.OpenLaw} {w : World} {K : PySem.W.Frag} {k n : Nat} {x : Str} {mg : Str → Option Value} {fa : Addr} {h : Heap} {fd : FuncData} (cs : List (Addr × Addr)) (TT : List Tab) (hTT : ∀ t ∈ TT, ∃ p ∈ cs, p.2 = t.a) (ca : Str → Addr) (m : List D → R D) (hcs : ∀ p ∈ cs, CTab K h p.1 p.2) (hb : ∀ (s : Shared) (u : Value), BindsTo s fd ⟨[u], []⟩ [(x, u)])
    (hm : ∀ ns : List Int, ns.length ≤ n → (∀ z ∈ ns, Builtin.Int.intBits z ≤ 1048576) → m [.scr ns] = .ok (.bl true))
    (F : ∀ base : Heap, K.In base → base.Ns mainGlobals mg → (∀ p ∈ cs, GxR.TabB base mg p.1 p.2) → FnOk l.prog w K mg base (L2.CX l.prog w) k fa fd [x] (spD ⟨K, ca, TT⟩ .s 1 m)) : LawAtS l w K (L2.CX l.prog w) k n x mg fa h := by
  refine ⟨fd, cs, _, fun p hp => (hcs p hp).t, fun p hp => (hcs p hp).n, fun p hp => (hcs p hp).c, hb, fun H a ns hl hbits hH hS => ?_, fun base kb nb tb => F base kb nb fun p hp => ⟨(tb p hp).code, (tb p hp).bm, (tb p hp).gP⟩⟩
  refine ⟨visH H, fun _ => none, [.scr ns], ⟨fun a o h => (visH_of h).1, (fun a o h => nomatch h), (fun a o h => nomatch h), fun a o h => (visH_of h).2, (fun a o h => nomatch h), fun P hP => ?_⟩, ?_, rfl, ?_⟩
  · obtain ⟨p, hp, e⟩ := hTT P hP
    have e0 := hH p hp
    rw [e] at e0
    match P, e0 with
    | .g P, e0 => exact ⟨#[], e0, True.intro⟩
    | .s P q, e0 => exact ⟨#[], e0, True.intro, fun z cv hc => by
        have hc : codeAmong z [] = some cv := hc
        simp [codeAmong] at hc⟩
  · refine .cons (.scr ?_) .nil
    exact sm_l (fun a o h t => visH_some h t) hS
  · rw [hm ns hl hbits]
    intro v F' H' S s b o nd fr
    have dv := (own_d o).1
    cases dv
    rfl
end PD
set_option Elab.async false
set_option linter.all false
set_option maxRecDepth 100000
set_option maxHeartbeats 2000000
namespace PD
open PySem PySem.Spec PyProof.Rows L2

/-! ### isinstance(x, T) of a built-in T -/
noncomputable def tyN : D → String
  | .non => "NoneType"
  | .bl _ => "bool"
  | .int _ => "int"
  | .str _ => "str"
  | .lst _ => "list"
  | .scr _ => "list"
  | .tup _ => "tuple"
  | .rng _ _ => "range"
  | .obj _ _ _ => "object"
  | .dic _ _ => "dict"
  | .dct _ _ => "dict"
noncomputable def isRng : D → Bool
  | .rng _ _ => true
  | .obj _ _ _ => true
  | .dic _ _ => true
  | .dct _ _ => true
  | _ => false
noncomputable def isiB (T : String) (d : D) : Bool := tyN d == T || (T == "int" && tyN d == "bool")
noncomputable def dIsi (T : String) : D → Option D := fun d => if isRng d = true then none else some (.bl (isiB T d))
theorem tyX_of {K : PySem.W.Frag} {H : Hp} {v : V} {d : D} (n : isRng d = false) (h : Dat K H v d) : TyX K H v (.type (tyN d)) := by
  cases h with
  | rng _ => cases n
  | obj _ _ _ _ => cases n
  | dic _ _ _ => cases n
  | dct _ _ _ => cases n
  | non => exact .base .non
  | bl => exact .base (.bl _)
  | int => exact .base (.int _)
  | str => exact .base (.str _)
  | lst h r => exact .base (.lst h)
  | tup h r =>
    rcases h with (h | ⟨o, h⟩) | ⟨o, its, n, hk, hc, _⟩
    · exact .base (.tup h)
    · exact .fTuple h
    · exact .kTuple hk hc
  | scr h =>
    rcases h with (h | ⟨o, h⟩) | ⟨o, its, n, hk, hc, _⟩
    · exact .base (.lst h)
    · exact .base (.frz h)
    · exact .kList hk hc
noncomputable def kitOkB (T : String) : Bool := ["NoneType", "bool", "int", "str", "list", "tuple"].all fun a => kitB a T == some (a == T || (T == "int" && a == "bool"))
theorem kit_int : kitOkB "int" = true := by decide +kernel
theorem kit_bool : kitOkB "bool" = true := by decide +kernel
theorem kit_str : kitOkB "str" = true := by decide +kernel
theorem kit_list : kitOkB "list" = true := by decide +kernel
theorem kit_tuple : kitOkB "tuple" = true := by decide +kernel
theorem kit_of' {T : String} (h : kitOkB T = true) (d : D) (n : isRng d = false) : kitB (tyN d) T = some (isiB T d) := by
  unfold kitOkB at h
  rw [List.all_eq_true] at h
  have key : tyN d ∈ ["NoneType", "bool", "int", "str", "list", "tuple"] := by
    cases d <;> first | (simp [tyN]; done) | cases n
  have := h _ key
  exact eq_of_beq this
section
variable {X : Cx} {L : LE} {J : Jn} {fl fl1 fl' : List Sh} {W : WX} {pos : Pos}
theorem boot_isinstance : bootBuiltins "isinstance" = some (.builtin "isinstance") := by decide +kernel
theorem e_isi {T : String} {TS : Str} {e : Expr} {f : Env → R D} {p p2 : Pos} {bw : Bool} (hk : kitOkB T = true) (hm : X.mg "isinstance" = none) (hT : X.mg TS = none) (hv : bootBuiltins TS = some (.type T)) (he : PE X e (tD L fl .b W f)) (hK : X.K = L.K := by rfl) (hg : Gl X "isinstance" := by rfl) (hgT : Gl X TS := by rfl) (hn : TS ≠ "__name__" := by decide) (hdb : (TS == ("__debug__" : Str)) = false := by decide)
    (hse : starEach [e, .Name TS p2] X.env = (false, eval e X.env) :: starEach [.Name TS p2] X.env := by rfl) (hpl : (backTo pos (starEach [.Name TS p2] X.env)).any (·.1) = false := by rfl) :
    PE X (.Call (.Name "isinstance" p) [e, .Name TS p2] [] pos) (tD L fl (.d bw) W (m1 (dIsi T) f)) :=
  (pe_callB call_isi hg hm boot_isinstance (pa_cons he (pa_cons (pe_bltn (v := .ty T) hgT hT hv rfl hn hdb) pa_nil) hse) (he := hse) (hpl := hpl)).imp fun σ H Q ⟨F, B, ρ, r, p⟩ => by
    refine tD_bind rfl r (k := fun x => oR (dIsi T x)) p fun d v F1 H1 S1 _ e1 r1 o1 _ _ p1 => ?_
    have dv : Dat L.K H1 v d := (own_d o1).1
    unfold dIsi at p1
    cases n : isRng d with
    | true => rw [n, if_pos rfl] at p1; exact p1.elim
    | false =>
      rw [n, if_neg Bool.false_ne_true] at p1
      exact ⟨v, .ty T, _, _, _, rfl, .ty T, by rw [hK]; exact tyX_of n dv, kit_ty (kit_of' hk d n), postE_ok (d := .bl (isiB T d)) p1 e1 .bl⟩

/-! ### methods of texts -/
noncomputable def mM (g : List Nat → List D → Option D) (fo : Env → R D) (fs : Env → R (List D)) : Env → R D := fun ρ => fo ρ >>= fun o => match o with
  | .str s => fs ρ >>= fun xs => oR (g s xs)
  | _ => .stuck
noncomputable def MethD (L : LE) (r : V → List V → Hp → VK → Prop) (bw : Bool) (sh : Sh) (g : List Nat → List D → Option D) : Prop := ∀ (F H : Hp) (s : List Nat) (vs : List V) (ds : List D) (d : D), Same F H → NoT F → DatL L.K (cond bw H F) vs ds → g s ds = some d →
  ∀ Q : VK, (∀ v F' H' S, Ext L.T F H F' H' → Own L.K F' H' sh v d S → S.Nodup → (∀ a ∈ S, F' a = none ∧ Nw H a) → Q v H') → r (.str ⟨s.toArray⟩) vs H Q
theorem e_strm {id : String} {name : Str} {o e : Expr} {es : List Expr} {apos cpos : Pos} {r : V → List V → Hp → VK → Prop} {bw : Bool} {sh : Sh} {g : List Nat → List D → Option D} {fo : Env → R D} {fs : Env → R (List D)} (slot : Slot "str" name id) (hty : typeOf (.builtin id) = pure (.type "method_descriptor")) (hm : MtR X id r) (hd : MethD L r bw sh g)
    (ho : PE X o (tD L fl .s W fo)) (ha : PA X (e :: es) (tA L fl bw W fs)) (hbase : attributeBase o name X.env (eval o X.env) = eval o X.env := by rfl)
    (hfew : ((backTo cpos (starEach (e :: es) X.env)).all (fun x => !x.1) && (backToKw cpos (keywordEach [] X.env)).all (fun x => x.1.isSome) && decide ((e :: es).length + ([] : List Keyword).length + (if ([] : List Keyword).isEmpty then 0 else 1) < 30)) = true := by rfl)
    (hline : (apos.endLine == cpos.line) = true := by rfl) (hs : starEach (e :: es) X.env = (false, eval e X.env) :: starEach es X.env := by rfl) (hplain : (backTo cpos (starEach es X.env)).any (·.1) = false := by rfl) :
    PE X (.Call (.Attribute o name apos) (e :: es) [] cpos) (tD L fl sh W (mM g fo fs)) :=
  (pe_bm PySem.F.plainAttrs_str slot hty hm ho ha hbase hfew hline hs hplain).imp fun σ H Q ⟨F, B, ρ, r, p⟩ => by
    refine tD_bind rfl r (k := fun o => match o with | .str s => fs ρ >>= fun xs => oR (g s xs) | _ => .stuck) p fun d v F1 H1 S1 _ e1 r1 o1 _ _ p1 => ?_
    have dv := (own_d o1).1
    cases d with
    | str s =>
      cases dv
      refine ⟨rfl, ?_⟩
      refine tA_bind rfl r1 (k := fun xs => oR (g s xs)) (p1.weak e1) fun ds vs F2 H2 _ e2 r2 d2 p2 => ?_
      cases q : g s ds with
      | none => rw [q] at p2; exact p2.elim
      | some d => rw [q] at p2; exact hd F2 H2 s vs ds d r2.bs.fh r2.bs.nf d2 q Q p2
    | _ => exact p1.elim
theorem methD_pure {r : V → List V → Hp → VK → Prop} {bw bw2 : Bool} {g : List Nat → List D → Option D} (h : ∀ (F H : Hp) (z : List Nat) (vs : List V) (ds : List D) (d : D), Same F H → DatL L.K (cond bw H F) vs ds → g z ds = some d → ∃ v, (∀ F, Dat L.K F v d) ∧ ∀ Q : VK, Q v H → r (.str ⟨z.toArray⟩) vs H Q) : MethD L r bw (.d bw2) g :=
  fun F H z vs ds d s nt hx e Q q => by
    obtain ⟨v, dv, go⟩ := h F H z vs ds d s hx e
    exact go Q (q v F H [] (.refl s nt) (own_lift s (dv F)) List.nodup_nil fun a m => nomatch m)
/-- find: the first place from lo on, or -1 -/
noncomputable def findI (s t : List Nat) (lo : Nat) : Int := match findN s t lo with
  | some i => (i : Nat)
  | none => -1
noncomputable def dFind (s : List Nat) : List D → Option D
  | [.str t] => some (.int (findI s t 0))
  | _ => none
/-- join -/
noncomputable def strsOf : List D → Option (List (List Nat))
  | [] => some []
  | .str s :: ds => (strsOf ds).map (s :: ·)
  | _ => none
noncomputable def joinD (sep : List Nat) : List (List Nat) → List Nat
  | [] => []
  | [x] => x
  | x :: y :: r => x ++ sep ++ joinD sep (y :: r)
noncomputable def dJoin (s : List Nat) : List D → Option D
  | [.lst xs] => match strsOf xs with
    | some zs => if (zs.map (·.length)).sum + zs.length * s.length ≤ LN then some (.str (joinD s zs)) else none
    | none => none
  | _ => none
theorem strs_V {K : PySem.W.Frag} {F : Hp} : ∀ {vs : List V} {ds : List D} {zs : List (List Nat)}, DatL K F vs ds → strsOf ds = some zs → vs = (zs.map fun z => (⟨z.toArray⟩ : Str)).map V.str
  | _, _, zs, .nil, e => by
    unfold strsOf at e
    cases e
    rfl
  | _, _, zs, .cons (d := d) (ds := ds) h r, e => by
    cases d with
    | str s =>
      unfold strsOf at e
      cases q : strsOf ds with
      | none => rw [q] at e; cases e
      | some ys =>
        rw [q] at e
        cases e
        cases h
        rw [strs_V r q]
        rfl
    | _ => unfold strsOf at e; cases e
theorem join_D (sep : List Nat) : ∀ zs : List (List Nat), Str.join ⟨sep.toArray⟩ (zs.map fun z => (⟨z.toArray⟩ : Str)) = ⟨(joinD sep zs).toArray⟩
  | [] => rfl
  | [x] => rfl
  | x :: y :: r => by
    show (⟨x.toArray⟩ : Str) ++ ⟨sep.toArray⟩ ++ Str.join ⟨sep.toArray⟩ ((y :: r).map fun z => (⟨z.toArray⟩ : Str)) = _
    rw [join_D sep (y :: r), s_app, s_app]
    rfl
theorem md_join (hK : X.K = L.K) {bw2 : Bool} : MethD L (fun x xs H Q => ∃ a p, ∃ ys : List Str, x = .str a ∧ xs = [.ref p] ∧ (SqL X.K H p (ys.map V.str) ∨ SqT X.K H p (ys.map V.str)) ∧ (ys.map (·.length)).sum + ys.length * a.length ≤ 16777216 ∧ Q (.str (Txt.join a ys)) H) true (.d bw2) dJoin := methD_pure fun F H z vs ds d s hx e => by
  unfold dJoin at e
  split at e
  · rename_i xs
    split at e
    · rename_i zs q
      split at e <;> cases e
      rename_i hl
      obtain ⟨v, rfl, h⟩ := datL1 hx
      obtain ⟨a, ws, rfl, h1, h2⟩ := dat_sq h
      have e1 := strs_V h2 q
      have e2 : (zs.map fun z => (⟨z.toArray⟩ : Str)).map (·.length) = zs.map (·.length) := by
        rw [List.map_map]
        exact List.map_congr_left fun x _ => s_len x
      refine ⟨_, fun _ => .str, fun Q k => ⟨_, a, zs.map fun z => (⟨z.toArray⟩ : Str), rfl, rfl, .inl (by rw [hK, ← e1]; exact SqL.of h1), ?_, ?_⟩⟩
      · rw [e2, List.length_map, s_len]
        exact Nat.le_trans hl (by decide)
      · unfold Txt.join
        rw [PySem.StrLaws.glued_eq_join, join_D]
        exact k
    · cases e
  · cases e

/-! ### list comprehensions, as the rules' own -/
theorem e_lc {elt tg iter : Expr} {ifs : List Expr} {scope : Scope} (own : List (Str × Nat)) {fi : Env → R (List D)} {T : D → Env → Option Env} {ft : Env → R Bool} {fe : Env → R D} (hN : X.N.Nodup) (hi : PI X tg iter (tI L fl W fi)) (ok : blkC X.N X.env.scope scope own = true)
    (hg : ∀ (s : Shared) (H : Hp) (C : Addr) (cl : List (Str × Addr)) (fp : List Addr), PG (X.blk s H scope (compEnvC scope cl C X.env) fp) tg (tG L fl fl (own.map (·.2)) T))
    (ht : ∀ (s : Shared) (H : Hp) (C : Addr) (cl : List (Str × Addr)) (fp : List Addr), PTs (X.blk s H scope (compEnvC scope cl C X.env) fp) ifs (tT L fl W0 ft))
    (he : ∀ (s : Shared) (H : Hp) (C : Addr) (cl : List (Str × Addr)) (fp : List Addr), PE (X.blk s H scope (compEnvC scope cl C X.env) fp) elt (tD L fl .s W0 fe))
    (hc : X.calm = true := by rfl) (hw : noXs fl (own.map (·.2)) = true := by rfl) (hs : ∀ x, foldedSetIterable iter X.env x = pure x := by intro _; rfl) : PE X (.ListComp elt [⟨tg, iter, ifs, 0⟩] scope pos) (tD L fl (.l .s) W (mLc fi (own.map (·.2)) T ft fe)) :=
  (pe_lc hc hN hi (blkOk_by ok) hg ht he hs).imp fun _ _ _ h => t_lc hw h
theorem ts_nil : PTs X [] (tT L fl W mYes) := ⟨fun pins s σ H Q I ⟨F, B, ρ, r, p⟩ => pts_nil.run pins s σ H Q I (p F H r.refl)⟩
theorem ts_one {c : Expr} {f : Env → R Bool} (h : PT X c (tT L fl W f)) : PTs X [c] (tT L fl W f) := pts_one h
/-- name = [..] -/
theorem s_setLc (i : Nat) {y : Str} {py spos : Pos} {elt tg iter : Expr} {ifs : List Expr} {scope : Scope} (own : List (Str × Nat)) {fi : Env → R (List D)} {T : D → Env → Option Env} {ft : Env → R Bool} {fe : Env → R D} (hN : X.N.Nodup) (hi : PI X tg iter (tI L fl W fi)) (ok : blkC X.N X.env.scope scope own = true)
    (hg : ∀ (s : Shared) (H : Hp) (C : Addr) (cl : List (Str × Addr)) (fp : List Addr), PG (X.blk s H scope (compEnvC scope cl C X.env) fp) tg (tG L fl fl (own.map (·.2)) T))
    (ht : ∀ (s : Shared) (H : Hp) (C : Addr) (cl : List (Str × Addr)) (fp : List Addr), PTs (X.blk s H scope (compEnvC scope cl C X.env) fp) ifs (tT L fl W0 ft))
    (he : ∀ (s : Shared) (H : Hp) (C : Addr) (cl : List (Str × Addr)) (fp : List Addr), PE (X.blk s H scope (compEnvC scope cl C X.env) fp) elt (tD L fl .s W0 fe))
    (hsw : swapsWith (.ListComp elt [⟨tg, iter, ifs, 0⟩] scope pos) (some (.Name y py)) spos.line X.env = pure true) (hf' : fl.set i (.l .s) = fl1 := by rfl) (hc : X.calm = true := by rfl) (hy : X.N[i]? = some y := by rfl) (hyl : X.env.scope.names.lookup y = some .local := by rfl) (hw : noXs fl (own.map (·.2)) = true := by rfl) (hs : ∀ x, foldedSetIterable iter X.env x = pure x := by intro _; rfl) :
    PS X (.Assign [.Name y py] (.ListComp elt [⟨tg, iter, ifs, 0⟩] scope pos) spos) (tS L J fl fl1 W (sSet i (mLc fi (own.map (·.2)) T ft fe))) :=
  (ps_setLc hc hN hy hyl hsw hi (blkOk_by ok) hg ht he hs).imp fun D σ H ⟨F, B, ρ, r, p⟩ => t_lc (L := L) (fl := fl) (W := W) hw ⟨F, B, ρ, r, PostS.bindE r p fun d v F' H' S _ e _ o nd fr p1 => by
    subst hf'
    exact p1 _ F' H' (.refl _) (r.setE e o rfl nd fr)⟩
end
end PD
set_option Elab.async false
set_option linter.all false
set_option maxRecDepth 100000
set_option maxHeartbeats 2000000
namespace PD
open PySem PySem.Spec PyProof.Rows L2
section
variable {X : Cx} {L : LE} {J : Jn} {fl fl1 fl' : List Sh} {W : WX} {pos : Pos}
/-! unary operators -/
noncomputable def dNeg : D → Option D
  | .int i => some (.int (-i))
  | _ => none
/-! x op= e on a shared name -/
noncomputable def sAug (i : Nat) (g : D → D → Option D) (f : Env → R D) : Env → R Fl := fun ρ => match ρ[i]? with
  | some (some x) => liftE (f ρ) ρ fun y => match g x y with
    | some d => .ok (.nx (ρ.set i (some d)))
    | none => .stuck
  | _ => .stuck
/-! targets of any form -/
noncomputable def sAsg (f : Env → R D) (T : D → Env → Option Env) : Env → R Fl := fun ρ => liftE (f ρ) ρ fun d => match T d ρ with
  | some ρ' => .ok (.nx ρ')
  | none => .stuck
theorem s_asg {tg e : Expr} {f : Env → R D} {T : D → Env → Option Env} {vs : List Nat} (he : PE X e (tD L fl .s W f)) (hg : PG X tg (tG L fl fl1 vs T)) (hs : swapsWithSole [tg] e pos.line X.env = pure false := by rfl) (hw : swappedStores [tg] e X.env = pure none := by rfl)
    (h1 : (assignEach [tg] X.env).map (·.2) = [assign tg X.env] := by rfl) : PS X (.Assign [tg] e pos) (tS L J fl fl1 W (sAsg f T)) :=
  (ps_asg he hg hs hw h1).imp fun D σ H ⟨F, B, ρ, r, p⟩ => ⟨F, B, ρ, r, PostS.bindE r p fun d v F' H' S _ e r' o nd fr p1 => by
    cases q : T d ρ with
    | none => simp only [q] at p1; exact p1.elim
    | some ρ' =>
      simp only [q] at p1
      exact ⟨F', B, ρ, d, r', (own_d o).1, ρ', q, fun σ' _ r2 => p1 σ' F' H' (.refl _) r2⟩⟩
/-! x[k] = e on an own list with shared items -/
noncomputable def sSetIx (i : Nat) (fe fk : Env → R D) : Env → R Fl := fun ρ => liftE (fe ρ) ρ fun d => match getL ρ i with
  | some xs => liftE (fk ρ) ρ fun k => match k with
    | .int j => match ixN xs.length j with
      | some m => .ok (.nx (ρ.set i (some (.lst (xs.set m d)))))
      | none => .stuck
    | _ => .stuck
  | none => .stuck
end
end PD
set_option Elab.async false
set_option linter.all false
set_option maxRecDepth 100000
set_option maxHeartbeats 2000000
namespace PD
open PySem PySem.Spec PyProof.Rows L2
theorem boot_abs' : bootBuiltins "abs" = some (.builtin "abs") := by decide +kernel
theorem boot_min' : bootBuiltins "min" = some (.builtin "min") := by decide +kernel
theorem boot_max' : bootBuiltins "max" = some (.builtin "max") := by decide +kernel
/-- a module's constant -/
noncomputable def GInt (mg : Str → Option Value) (x : Str) (i : Int) : Prop := ∃ t, mg x = some (.int i t)
noncomputable def GStr (mg : Str → Option Value) (x : Str) (s : List Nat) : Prop := ∃ y t, mg x = some (.str y t) ∧ y.cps.toList = s
section
variable {X : Cx} {L : LE} {J : Jn} {fl fl1 fl' : List Sh} {W : WX} {pos : Pos}
theorem e_gi {i : Int} {x : Str} {bw : Bool} (hm : GInt X.mg x i) (hg : Gl X x := by rfl) (hd : (x == ("__debug__" : Str)) = false := by decide) : PE X (.Name x pos) (tD L fl (.d bw) W (mC (.int i))) := by
  obtain ⟨t, h⟩ := hm
  exact e_gint h hg hd
theorem elt_in' {P : Program} {w : World} {mg : Str → Option Value} {sc : Scope} {x g : Str} {s : List Nat} {p1 p2 p3 : Pos} (hm : GStr mg g s) (hk : sc.kind = .function := by rfl) (hl : sc.names.lookup x = some .local := by decide +kernel) (hg : sc.names.lookup g = some .globalImplicit := by decide +kernel)
    (hd : (x == ("__debug__" : Str)) = false := by decide) (hd2 : (g == ("__debug__" : Str)) = false := by decide) : EltW P w mg sc x (.Compare (.Name x p1) [.In] [.Name g p2] p3) (fun c => decide (c ∈ s)) := by
  obtain ⟨y, t, h, e⟩ := hm
  subst e
  exact elt_inG hk hl hg h hd hd2
/-- name = [..], the list shared at once -/
theorem s_setLcS (i : Nat) {y : Str} {py spos : Pos} {elt tg iter : Expr} {ifs : List Expr} {scope : Scope} (own : List (Str × Nat)) {fi : Env → R (List D)} {T : D → Env → Option Env} {ft : Env → R Bool} {fe : Env → R D} (hN : X.N.Nodup) (hi : PI X tg iter (tI L fl W fi)) (ok : blkC X.N X.env.scope scope own = true)
    (hg : ∀ (s : Shared) (H : Hp) (C : Addr) (cl : List (Str × Addr)) (fp : List Addr), PG (X.blk s H scope (compEnvC scope cl C X.env) fp) tg (tG L fl fl (own.map (·.2)) T))
    (ht : ∀ (s : Shared) (H : Hp) (C : Addr) (cl : List (Str × Addr)) (fp : List Addr), PTs (X.blk s H scope (compEnvC scope cl C X.env) fp) ifs (tT L fl W0 ft))
    (he : ∀ (s : Shared) (H : Hp) (C : Addr) (cl : List (Str × Addr)) (fp : List Addr), PE (X.blk s H scope (compEnvC scope cl C X.env) fp) elt (tD L fl .s W0 fe))
    (hsw : swapsWith (.ListComp elt [⟨tg, iter, ifs, 0⟩] scope pos) (some (.Name y py)) spos.line X.env = pure true) (hf' : fl.set i .s = fl1 := by rfl) (hc : X.calm = true := by rfl) (hy : X.N[i]? = some y := by rfl) (hyl : X.env.scope.names.lookup y = some .local := by rfl) (hw : noXs fl (own.map (·.2)) = true := by rfl) (hs : ∀ x, foldedSetIterable iter X.env x = pure x := by intro _; rfl) :
    PS X (.Assign [.Name y py] (.ListComp elt [⟨tg, iter, ifs, 0⟩] scope pos) spos) (tS L J fl fl1 W (sSet i (mLc fi (own.map (·.2)) T ft fe))) :=
  (s_setLc (J := J) (fl1 := fl.set i (.l .s)) i own hN hi ok hg ht he hsw rfl hc hy hyl hw hs).imp fun D σ H ⟨F, B, ρ, r, p⟩ => ⟨F, B, ρ, r, by
    subst hf'
    unfold PostS at p ⊢
    split at p
    · intro σ' F' H' s r'
      obtain ⟨F2, s2, r2⟩ := r'.frz (sh := .s) (i := i)
      rw [List.set_set] at r2
      exact p σ' F2 H' (s.trans s2) r2
    · exact p
    · exact p
    · exact p
    · exact p
    · exact p
    · exact p⟩
/-! x.extend(e), name = x.pop() on own lists with shared items -/
noncomputable def sExt (i : Nat) (f : Env → R D) : Env → R Fl := fun ρ => match getL ρ i with
  | some xs => liftE (f ρ) ρ fun d => match d with
    | .lst ys => if xs.length + ys.length ≤ LN then .ok (.nx (ρ.set i (some (.lst (xs ++ ys))))) else .stuck
    | _ => .stuck
  | none => .stuck
/-- x.append(e) where the value of e is dropped: as before -/
noncomputable def sPop (j i : Nat) : Env → R Fl := fun ρ => match getL ρ i with
  | some xs => match xs.getLast? with
    | some d => .ok (.nx ((ρ.set i (some (.lst xs.dropLast))).set j (some d)))
    | none => .stuck
  | none => .stuck
/-! a, b = e1, e2 with plain local names -/
noncomputable def sPar (i j : Nat) (f g : Env → R D) : Env → R Fl := fun ρ => liftE (f ρ) ρ fun a => liftE (g ρ) ρ fun b => .ok (.nx ((ρ.set i (some a)).set j (some b)))
end
theorem xcl_mk {K : PySem.W.Frag} {mg : Str → Option Value} {ca : Str → Addr} {T : List Tab} {c : Str} {x : Addr} (e : ca c = x) (g : mg c = some (.ref x)) (q : PySem.W.excIn K x [.type "ValueError", .type "Exception", .type "BaseException", .type "object"] "ValueError.__new__" = true)
    (k : PySem.W.keepIn K (.ref x) = true) (b : PySem.W.subIn K (.ref x) (.type "BaseException") = some true) (t : PySem.W.typeIn K (.ref x) = some (.type "type")) : Xcl K mg ⟨K, ca, T⟩ c := by
  subst e
  exact ⟨g, q, k, b, t⟩
theorem free_vac {ns : List (Str × NameKind)} {cells : List (Str × Addr)} (h : ∀ y ∈ ns, y.2 ≠ .free) : ∀ y ∈ ns, y.2 = .free → ∃ c, cells.lookup y.1 = some c := fun y m e => absurd e (h y m)
/-! a mirror without fuel -/
section
variable {P : Program} {w : World} {K : PySem.W.Frag} {mg : Str → Option Value} {base : Heap} {L : LE}
theorem fn_stuck {x qual : Str} {st : Stmt} {f : Addr} {fd : FuncData} {N ps : List Str} {k : Nat} (F : Fun K x qual st f fd) (S : FnScope N ps (defScope st)) (hL : L.K = K) {rs : Sh} :
    FnOk P w K mg base (L2.CX P w) (k + 1) f fd ps (spD L rs ps.length (fun _ => .stuck)) := by
  refine F.okX S (fun vs H Q E ⟨_, _, ds, _, d, hl, _⟩ => d.length.trans hl) (fun cdv A outer s H vs Q E hr ⟨F0, B, ds, bs, d, hl, p⟩ => p.elim)
end
end PD
set_option Elab.async false
set_option linter.all false
set_option maxRecDepth 100000
set_option maxHeartbeats 2000000
/-! # try with any number of clauses, named or not -/
namespace PD
open PySem PySem.Spec PyProof.Rows L2
/-- a clause: its class, its name's slot, what its suite asks -/
noncomputable abbrev Cl1 := Value × Option Nat × (Addr → Value → Option Addr → TS)
/-- the ends behind a suite: the name is gone -/
noncomputable def endsI (io : Option Nat) (D : Ends) : Ends := match io with
  | some i => { nx := fun τ G => D.nx (τ.set i none) G, rt := D.rt, bk := fun τ G => D.bk (τ.set i none) G, ct := fun τ G => D.ct (τ.set i none) G }
  | none => D
noncomputable def putI (io : Option Nat) (a : Addr) (τ : L2.St) : L2.St := match io with
  | some i => τ.set i (some (.ref a))
  | none => τ
noncomputable def wN (K : PySem.W.Frag) (Wo : WX) (D : Ends) : List Cl1 → WX
  | [] => Wo
  | c :: r => fun k d τ G => ∃ b, PySem.W.exmOne K k c.1 = some b ∧ (b = true → ∀ a, G a = none → c.2.2 a k d (endsI c.2.1 D) (putI c.2.1 a τ) G) ∧ (b = false → wN K Wo D r k d τ G)
noncomputable def slotOk (X : Cx) (no : Option Str) (io : Option Nat) : Prop := match no, io with
  | some n, some i => X.N[i]? = some n ∧ X.env.kindOf n = some .local
  | none, none => True
  | _, _ => False
inductive Cls1 (X : Cx) : List ExceptHandler → List Cl1 → Prop
  | nil : Cls1 X [] []
  | cons {y : Str} {v : Value} {no : Option Str} {io : Option Nat} {u : Addr → Value → Option Addr → TS} {s0 : Stmt} {ss : List Stmt} {p1 p2 : Pos} {hs : List ExceptHandler} {l : List Cl1} (hc : Names X y v) (hio : slotOk X no io)
      (hu : ∀ (a : Addr) (o : Obj) (k : Value) (d : Option Addr) (pn : List (Addr × Obj)), Zc k d o → (∃ fs, o.data = .fields fs) → PSs (X.suite a ((a, o) :: pn)) (s0 :: ss) (u a k d)) (r : Cls1 X hs l) :
      Cls1 X (.ExceptHandler (some (.Name y p1)) no (s0 :: ss) p2 :: hs) ((v, io, u) :: l)
section
variable {X : Cx} {Wo : WX} {bd : List Stmt} {h0 : ExceptHandler} {hs : List ExceptHandler} {l : List Cl1} {pp : Pos} {tb : WX → TS}
end
end PD
set_option Elab.async false
set_option linter.all false
set_option maxRecDepth 100000
set_option maxHeartbeats 2000000
namespace PD
open PySem PySem.Spec PyProof.Rows L2

/-! ### all slots shared -/
section
variable {L : LE} {F B H : Hp} {σ : L2.St} {ρ : Env}
theorem Rep.frzN : ∀ (n : Nat) {F : Hp} {fl : List Sh}, Rep L fl F B σ H ρ → ∃ F' fl', Same F F' ∧ Rep L fl' F' B σ H ρ ∧ fl'.length = fl.length ∧ (∀ j, j < n → j < fl.length → fl'[j]? = some .s) ∧ ∀ j, n ≤ j → fl'[j]? = fl[j]?
  | 0, F, fl, r => ⟨F, fl, .refl _, r, rfl, (fun j h => by omega), fun _ _ => rfl⟩
  | n + 1, F, fl, r => by
    obtain ⟨F1, fl1, s1, r1, l1, a1, b1⟩ := Rep.frzN n r
    obtain ⟨F2, s2, r2⟩ := r1.frz (sh := .s) (i := n)
    refine ⟨F2, fl1.set n .s, s1.trans s2, r2, by rw [List.length_set, l1], fun j h1 h2 => ?_, fun j h => ?_⟩
    · by_cases z : j = n
      · subst z; rw [List.getElem?_set_self (by omega)]
      · rw [List.getElem?_set_ne (Ne.symm z)]; exact a1 j (by omega) h2
    · rw [List.getElem?_set_ne (by omega)]; exact b1 j (by omega)
theorem Rep.frzAll {fl : List Sh} (r : Rep L fl F B σ H ρ) : ∃ F', Same F F' ∧ Rep L (List.replicate fl.length .s) F' B σ H ρ := by
  obtain ⟨F', fl', s, r', l, a, _⟩ := Rep.frzN fl.length r
  have e : fl' = List.replicate fl.length .s := by
    apply List.ext_getElem?
    intro j
    by_cases h : j < fl.length
    · rw [a j h h, List.getElem?_replicate, if_pos h]
    · rw [List.getElem?_eq_none (by omega), List.getElem?_replicate, if_neg h]
  subst e
  exact ⟨F', s, r'⟩
/-- a slot gets just a value -/
theorem Rep.setX {fl : List Sh} (r : Rep L fl F B σ H ρ) (i : Nat) (v : V) (eo : Option (Addr × List (Str × V))) (he : ∀ dx ws, eo = some (dx, ws) → F dx = some (.xd ws)) : Rep L (fl.set i (.x v eo)) F B (σ.set i (some v)) H (ρ.set i none) := by
  refine ⟨r.bs, by rw [List.length_set, List.length_set]; exact r.ls, by rw [List.length_set, List.length_set]; exact r.lr, fun j u eo2 q => ?_, ?_⟩
  · by_cases z : j = i
    · subst z
      have hl : j < fl.length := by
        have := (List.getElem?_eq_some_iff.mp q).1
        rwa [List.length_set] at this
      rw [List.getElem?_set_self hl] at q
      cases q
      exact ⟨by rw [List.getElem?_set_self (by rw [r.ls]; exact hl)], he⟩
    · rw [List.getElem?_set_ne (Ne.symm z)] at q ⊢
      exact r.px j u eo2 q
  · obtain ⟨Ss, h1, h2, h3, h4⟩ := r.sl
    refine ⟨Ss, fun j d q => ?_, h2, h3, h4⟩
    by_cases z : j = i
    · subst z
      have hl : j < ρ.length := by
        have := (List.getElem?_eq_some_iff.mp q).1
        rwa [List.length_set] at this
      rw [List.getElem?_set_self hl] at q
      cases q
    · rw [List.getElem?_set_ne (Ne.symm z)] at q
      obtain ⟨v', sh, a1, a2, a3, a4⟩ := h1 j d q
      exact ⟨v', sh, by rw [List.getElem?_set_ne (Ne.symm z)]; exact a1, by rw [List.getElem?_set_ne (Ne.symm z)]; exact a2, a3, a4⟩
end

/-! ### try: body, except C1 as e1: .., except C2: .. -/
/-- what the name's slot is behind the suite's start and end -/
noncomputable def clrI (io : Option Nat) (ρ : Env) : Env := match io with
  | some i => ρ.set i none
  | none => ρ
/-- a clause: which classes it catches, its name's slot, its suite -/
structure Cl2 where
  tbl : Str → Option Bool
  io : Option Nat
  g : Env → R Fl
noncomputable def endN (io : Option Nat) : R Fl → R Fl
  | .ok (.rt d) => .ok (.rt d)
  | .ok (.nx ρ) => .ok (.nx (clrI io ρ))
  | _ => .stuck
noncomputable def goN : List Cl2 → Str → List (Str × D) → Env → R Fl
  | [], c, fs, ρ => .ok (.ex c fs ρ)
  | k :: r, c, fs, ρ => match k.tbl c with
    | some true => if fs = [] then endN k.io (k.g (clrI k.io ρ)) else .stuck
    | some false => goN r c fs ρ
    | none => .stuck
noncomputable def xfl (fl : List Sh) (io : Option Nat) (a : Addr) : List Sh := match io with
  | some i => (List.replicate fl.length .s).set i (.x (.ref a) none)
  | none => List.replicate fl.length .s
section
variable {X : Cx} {L : LE} {J : Jn} {fl fl1 fl' : List Sh} {W : WX} {pos : Pos}
/-- the name is gone -/
theorem Rep.clr {F B H : Hp} {σ : L2.St} {ρ : Env} {fl fl' : List Sh} (r : Rep L fl F B σ H ρ) (i : Nat) (h : fl' = fl.set i .s) : Rep L fl' F B (σ.set i none) H (ρ.set i none) := by
  subst h
  refine ⟨r.bs, by rw [List.length_set, List.length_set]; exact r.ls, by rw [List.length_set, List.length_set]; exact r.lr, fun j u eo q => ?_, ?_⟩
  · by_cases z : j = i
    · subst z
      have hl : j < fl.length := by
        have := (List.getElem?_eq_some_iff.mp q).1
        rwa [List.length_set] at this
      rw [List.getElem?_set_self hl] at q
      cases q
    · rw [List.getElem?_set_ne (Ne.symm z)] at q ⊢
      exact r.px j u eo q
  · obtain ⟨Ss, h1, h2, h3, h4⟩ := r.sl
    refine ⟨Ss, fun j d q => ?_, h2, h3, h4⟩
    by_cases z : j = i
    · subst z
      have hl : j < ρ.length := by
        have := (List.getElem?_eq_some_iff.mp q).1
        rwa [List.length_set] at this
      rw [List.getElem?_set_self hl] at q
      cases q
    · rw [List.getElem?_set_ne (Ne.symm z)] at q
      obtain ⟨v', sh, a1, a2, a3, a4⟩ := h1 j d q
      exact ⟨v', sh, by rw [List.getElem?_set_ne (Ne.symm z)]; exact a1, by rw [List.getElem?_set_ne (Ne.symm z)]; exact a2, a3, a4⟩
/-- the clauses of a try whose body ends at fl' -/
inductive Cls2 (X : Cx) (L : LE) (J : Jn) (fl fl' : List Sh) : List ExceptHandler → List Cl2 → List Cl1 → Prop
  | nil : Cls2 X L J fl fl' [] [] []
  | cons {x : Str} {no : Option Str} {io : Option Nat} {tbl : Str → Option Bool} {g : Env → R Fl} {b0 : Stmt} {suite : List Stmt} {np p2 : Pos} {hs : List ExceptHandler} {cl : List Cl2} {l : List Cl1} {flE : Addr → List Sh}
      (hg : Gl X x) (hd : (x == ("__debug__" : Str)) = false) (hm : X.mg x = some (.ref (L.ca x))) (ht : ∀ c b, tbl c = some b → PySem.W.exmOne X.K (.ref (L.ca c)) (.ref (L.ca x)) = some b ∧ (b = true → c = x)) (hio : slotOk X no io)
      (hfl : ∀ a, (match io with | some i => (flE a).set i .s | none => flE a) = fl')
      (hsu : ∀ (a : Addr) (oe : Obj) (pn : List (Addr × Obj)), Zc (.ref (L.ca x)) none oe → (∃ vs, oe.data = .fields vs) → PSs (X.suite a ((a, oe) :: pn)) (b0 :: suite) (tS L J (xfl fl io a) (flE a) W0 g))
      (r : Cls2 X L J fl fl' hs cl l) :
      Cls2 X L J fl fl' (.ExceptHandler (some (.Name x np)) no (b0 :: suite) p2 :: hs) (⟨tbl, io, g⟩ :: cl)
        ((.ref (L.ca x), io, fun a k d D σ H => (k = .ref (L.ca x) ∧ d = none) ∧ tS L J (xfl fl io a) (flE a) W0 g D σ H) :: l)
theorem Cls2.run {hs : List ExceptHandler} {cl : List Cl2} {l : List Cl1} (h : Cls2 X L J fl fl' hs cl l) {D : Ends} {F B F' H' : Hp} {c : Str} {fs : List (Str × PD.D)} {ρ' : Env} {σ' : L2.St} {d : Option Addr} {fl0 : List Sh} (hK : X.K = X.K)
    (r : Rep L fl0 F' B σ' H' ρ') (hl : fl0.length = fl.length) (s : Same F F') (er : ErrOk L c fs (.ref (L.ca c)) d F' H') (p : PostS L J fl' F B W D (goN cl c fs ρ')) : wN X.K W D l (.ref (L.ca c)) d σ' H' := by
  induction h with
  | nil => exact p (.ref (L.ca c)) d fl0 σ' F' H' s r er
  | @cons x no io tbl g b0 suite np p2 hs cl l flE hg hd hm ht hio hfl hsu _ ih =>
    unfold goN at p
    dsimp only at p
    cases qt : tbl c with
    | none => rw [qt] at p; exact p.elim
    | some b =>
      obtain ⟨t1, t2⟩ := ht c b qt
      rw [qt] at p
      cases b with
      | false => exact ⟨false, t1, fun z => (nomatch z), fun _ => ih p⟩
      | true =>
        refine ⟨true, t1, fun _ a ha => ?_, fun z => (nomatch z)⟩
        have ex := t2 rfl
        subst ex
        dsimp only at p
        by_cases hfs : fs = []
        · rw [if_pos hfs] at p
          subst hfs
          have ed : d = none := er.2
          subst ed
          refine ⟨⟨rfl, rfl⟩, ?_⟩
          obtain ⟨F2, s2, r2⟩ := r.frzAll
          rw [hl] at r2
          cases io with
          | none =>
            refine ⟨F2, B, _, r2, ?_⟩
            have hf : flE a = fl' := hfl a
            rw [hf]
            have p : PostS L J fl' F B W D (endN none (g ρ')) := p
            show PostS L J fl' F2 B W0 D (g ρ')
            cases qg : g ρ' with
            | ok z =>
              rw [qg] at p
              cases z with
              | rt d => exact PostS.weak (r := .ok (.rt d)) p (s.trans s2)
              | nx ρ2 => exact PostS.weak (r := .ok (.nx ρ2)) p (s.trans s2)
              | _ => exact p.elim
            | _ => rw [qg] at p; exact p.elim
          | some i =>
            have r3 := r2.setX i (.ref a) none (fun _ _ z => nomatch z)
            refine ⟨F2, B, _, r3, ?_⟩
            have hf : (flE a).set i .s = fl' := hfl a
            have p : PostS L J fl' F B W D (endN (some i) (g (ρ'.set i none))) := p
            show PostS L J (flE a) F2 B W0 _ (g (ρ'.set i none))
            cases qg : g (ρ'.set i none) with
            | ok z =>
              rw [qg] at p
              cases z with
              | rt d => exact PostS.weak (r := .ok (.rt d)) p (s.trans s2)
              | nx ρ2 =>
                have p := PostS.weak (r := .ok (.nx (ρ2.set i none))) p (s.trans s2)
                exact fun σ3 F3 H3 s3 r4 => p _ F3 H3 s3 (r4.clr i hf.symm)
              | _ => exact p.elim
            | _ => rw [qg] at p; exact p.elim
        · rw [if_neg hfs] at p; exact p.elim
/-! isinstance(e, C) of the error that the suite holds -/
/-- what isinstance of an error of the class C asks -/
structure XE (K : PySem.W.Frag) (L : LE) (c : Str) : Prop where
  e : ExcC K (L.ca c)
/-- the class T stands at ca T; an error of the class c is one of T: b -/
structure XK (K : PySem.W.Frag) (mg : Str → Option Value) (L : LE) (c T : Str) (b : Bool) : Prop where
  g : mg T = some (.ref (L.ca T))
  k : PySem.W.kitOne K (.ref (L.ca c)) (.ref (L.ca T)) = some b
/-! with a tuple of own classes -/
/-- own classes named in a row -/
inductive Clss (X : Cx) (L : LE) : List Expr → List Addr → Prop
  | nil : Clss X L [] []
  | cons {T : Str} {p : Pos} {es : List Expr} {cs : List Addr} : X.mg T = some (.ref (L.ca T)) → Gl X T → (T == ("__debug__" : Str)) = false → Clss X L es cs → (starEach (.Name T p :: es) X.env = (false, eval (.Name T p) X.env) :: starEach es X.env) → Clss X L (.Name T p :: es) (L.ca T :: cs)
end
end PD
set_option Elab.async false
set_option linter.all false
set_option maxRecDepth 100000
set_option maxHeartbeats 2000000
namespace PD
open PySem PySem.Spec PyProof.Rows L2

/-! ### list(range(..)), xs[::-1] -/
noncomputable def dRevL : D → Option D
  | .lst xs => some (.lst xs.reverse)
  | _ => none
theorem DatL.snoc {K : PySem.W.Frag} {F : Hp} {v : V} {d : D} : ∀ {vs : List V} {ds : List D}, DatL K F vs ds → Dat K F v d → DatL K F (vs ++ [v]) (ds ++ [d])
  | _, _, .nil, h => .cons h .nil
  | _, _, .cons a r, h => .cons a (DatL.snoc r h)
section
variable {X : Cx} {L : LE} {J : Jn} {fl fl1 fl' : List Sh} {W : WX} {pos : Pos}
/-! ### owned tuples of atoms and lists -/
theorem ownN_of {K : PySem.W.Frag} {F H : Hp} : ∀ {vs : List V} {ds : List D}, DatL K F vs ds → allAt ds = true → OwnL K F H .n vs ds []
  | _, _, .nil, _ => .nil
  | _, _, .cons h r, a => by
    unfold allAt at a
    rw [List.all_cons, Bool.and_eq_true] at a
    exact OwnL.cons (S := []) (S' := []) (.na a.1 h) (ownN_of r a.2)
/-- an own list of atoms -/
noncomputable def mAtL (f : Env → R D) : Env → R D := fun ρ => f ρ >>= fun d => match d with
  | .lst xs => if allAt xs = true then .ok (.lst xs) else .stuck
  | _ => .stuck
/-! y = x[k]: the own list in x's tuple becomes y's, and x is given up -/
end
/-! ### the classes that a try knows -/
/-- a class that is caught -/
structure XH (K : PySem.W.Frag) (mg : Str → Option Value) (L : LE) (c : Str) : Prop where
  m : mg c = some (.ref (L.ca c))
  x : PySem.W.exmOne K (.ref (L.ca c)) (.ref (L.ca c)) = some true
  e : XE K L c
end PD
set_option Elab.async false
set_option linter.all false
set_option maxRecDepth 100000
set_option maxHeartbeats 4000000
namespace PD
open PySem PySem.Spec PyProof.Rows L2

/-! ### sets of texts and ints -/
section
variable {X : Cx}
end
/-! ### len({e for x in it}), e texts -/
/-- the different ones, as they come -/
noncomputable def ded : List (List Nat) → List (List Nat) → List (List Nat)
  | acc, [] => acc
  | acc, z :: zs => ded (if z ∈ acc then acc else acc ++ [z]) zs
noncomputable def mLenSc (fi : Env → R (List D)) (vs : List Nat) (T : D → Env → Option Env) (ft : Env → R Bool) (fe : Env → R D) : Env → R D := fun ρ => fi ρ >>= fun ds => lcGo T ft fe (wipeD ρ vs) ds >>= fun xs => match strsOf xs with
  | some zs => if zs.length ≤ 4000 then .ok (.int ((ded [] zs).length : Nat)) else .stuck
  | none => .stuck
noncomputable def keyS (z : List Nat) : Key := .inr ⟨z.toArray⟩
theorem keyS_inj {a b : List Nat} (h : keyS a = keyS b) : a = b := by
  unfold keyS at h
  have h2 := Sum.inr.inj h
  have := congrArg (fun s : Str => s.cps.toList) h2
  simpa using this
theorem call_lenK {X : Cx} : CallR X (.builtin "len") (fun xs H Q => ∃ (a : Addr) (S : Key → Bool) (n : Nat), xs = [.ref a] ∧ H a = some (SetK X.prog X.w a S n) ∧ Q (.int (n : Nat)) H) := by
  intro pins s σ H xs us Q I r h
  obtain ⟨a, S, n, rfl, hS, q⟩ := h
  cases r with
  | cons r0 rr =>
    cases rr
    cases r0
    obtain ⟨o, es, ep, t, ho, hex, hd, _, _, hb, hf, hn⟩ := setK_get I hS
    have b : scanBound = 4096 := rfl
    refine call_len_set ho hex hd hf (by omega) ⟨.int (n : Nat), H, I.tok _, ⟨_, by rw [hn]⟩, q⟩
section
variable {X : Cx} {L : LE} {fl : List Sh} {W : WX} {pos : Pos}
end
end PD
set_option Elab.async false
set_option linter.all false
set_option maxRecDepth 100000
set_option maxHeartbeats 4000000
namespace PD
open PySem PySem.Spec PyProof.Rows L2

/-! ### a range as a value -/
noncomputable def dRng1 : D → Option D
  | .int j => if -LR ≤ j ∧ j ≤ LR then some (.rng 0 j) else none
  | _ => none
noncomputable def gRn : D → Option (List D)
  | .rng lo hi => if (-LR ≤ lo ∧ lo ≤ LR) ∧ (-LR ≤ hi ∧ hi ≤ LR) then some (rngL lo (hi - lo).toNat) else none
  | _ => none
section
variable {X : Cx} {L : LE} {J : Jn} {fl fl1 fl' : List Sh} {W : WX} {pos : Pos} {tg : Expr}
end
end PD
set_option Elab.async false
set_option linter.all false
set_option maxRecDepth 100000
set_option maxHeartbeats 4000000
namespace PD
open PySem PySem.Spec PyProof.Rows L2

/-! ### sum, max, min of a list of ints -/
noncomputable def intsOf : List D → Option (List Int)
  | [] => some []
  | .int i :: ds => (intsOf ds).map (i :: ·)
  | _ => none
theorem ints_V {K : PySem.W.Frag} {F : Hp} : ∀ {vs : List V} {ds : List D} {ns : List Int}, DatL K F vs ds → intsOf ds = some ns → vs = ns.map V.int
  | _, _, ns, .nil, e => by
    unfold intsOf at e
    cases e
    rfl
  | _, _, ns, .cons (d := d) (ds := ds) h r, e => by
    cases d with
    | int i =>
      unfold intsOf at e
      cases q : intsOf ds with
      | none => rw [q] at e; cases e
      | some ys =>
        rw [q] at e
        cases e
        cases h
        rw [ints_V r q]
        rfl
    | _ => unfold intsOf at e; cases e
noncomputable def dSumL : List D → Option D
  | [.lst xs] => match intsOf xs with
    | some ns => some (.int ns.sum)
    | none => none
  | _ => none
section
variable {X : Cx} {L : LE} {bw : Bool}
theorem cd_sum {bw2 : Bool} (hK : X.K = L.K) : CallD L (rSum X.K) bw (.d bw2) dSumL := callD_pure fun F H vs ds d s hx e => by
  unfold dSumL at e
  split at e
  · rename_i xs
    split at e
    · rename_i ns q
      cases e
      obtain ⟨v, rfl, h⟩ := datL1 hx
      obtain ⟨a, ws, rfl, h1, h2⟩ := dat_sq h
      have e1 := ints_V h2 q
      exact ⟨_, fun _ => .int, fun Q k => ⟨a, ns, rfl, by rw [hK, ← e1]; exact sm_l (cond_sm s) (SqL.of h1), k⟩⟩
    · cases e
  · cases e
end
theorem boot_sum' : bootBuiltins "sum" = some (.builtin "sum") := by decide +kernel
end PD
set_option Elab.async false
set_option linter.all false
set_option maxRecDepth 100000
set_option maxHeartbeats 4000000
namespace PD
open PySem PySem.Spec PyProof.Rows L2

/-! ### for k, x in enumerate(xs, start=c) -/
section
variable {X : Cx} {L : LE} {fl : List Sh} {W : WX} {pos : Pos}
/-- pairs of counts and items -/
noncomputable def enumL (c : Int) : List D → List D
  | [] => []
  | x :: xs => .tup [.int c, x] :: enumL (c + 1) xs
noncomputable def gEn (c : Int) : D → Option (List D)
  | .lst xs => some (enumL c xs)
  | _ => none
end
end PD
set_option Elab.async false
set_option linter.all false
set_option maxRecDepth 100000
set_option maxHeartbeats 2000000
/-! # own classes: fields, methods -/
namespace PD
open PySem PySem.Spec PyProof.Rows L2
section
variable {K : PySem.W.Frag}
end
/-- a method that may be called -/
structure MCal (P : Program) (w : World) (K : PySem.W.Frag) (mg : Str → Option Value) (base : Heap) (L : LE) (c m : Str) (k : Nat) (rs : Sh) (n : Nat) (mt : List D → R D) : Prop where
  ex : ∀ C, PySem.W.nsIn K mainGlobals c = some (some (.ref C)) → ∃ f fd ps, Cls K C ∧ Meth K C m f ∧ FnOk P w K mg base (L2.CX P w) k f fd ps (spD L rs (n + 1) mt) ∧ Binds K fd ps []
noncomputable def mMeth (tab : List (Str × (List D → R D))) (m : Str) (n : Nat) (fo : Env → R D) (fs : Env → R (List D)) : Env → R D := fun ρ => fo ρ >>= fun o => match o with
  | .obj c ks vs => match tab.lookup c with
    | some mt => if ks.contains m = true then .stuck else fs ρ >>= fun ds => if ds.length = n then mt (.obj c ks vs :: ds) else .stuck
    | none => .stuck
  | _ => .stuck
section
variable {X : Cx} {L : LE} {fl : List Sh} {W : WX} {pos : Pos}
theorem postF_of {F1 B H1 : Hp} {rs : Sh} {r0 : R D} {σ : L2.St} {Q : VK} (r1 : Bs L F1 B H1) (p1 : PostE L F1 H1 rs r0 W σ Q) : PostF L F1 (offH F1 H1) rs r0 Q (WE W σ) := by
  unfold PostE at p1
  unfold PostF
  cases r0 with
  | ok d =>
    intro v F2 H2 S s b o nd fr
    refine p1 v F2 H2 S (offH_ext s r1.fh b) o nd fun a m => ⟨(fr a m).1, fun u hu => ?_⟩
    cases t : isTbl u with
    | true => rfl
    | false =>
      have z := (fr a m).2
      cases qf : F1 a with
      | none => rw [offH_some qf hu t] at z; cases z
      | some u' =>
        have z2 := (fr a m).1
        rw [s a u' qf] at z2
        cases z2
  | err c fs => exact fun cls d F2 H2 s b x => p1 cls d F2 H2 (offH_ext s r1.fh b) x
  | stuck => exact p1
noncomputable def mMeth0 (tab : List (Str × (List D → R D))) (m : Str) (fo : Env → R D) : Env → R D := fun ρ => fo ρ >>= fun o => match o with
  | .obj c ks vs => match tab.lookup c with
    | some mt => if ks.contains m = true then .stuck else mt [.obj c ks vs]
    | none => .stuck
  | _ => .stuck
end
end PD
set_option Elab.async false
set_option linter.all false
set_option maxRecDepth 100000
set_option maxHeartbeats 2000000
/-! # own classes: __init__, C(..) -/
namespace PD
open PySem PySem.Spec PyProof.Rows L2
section
variable {L : LE} {fl : List Sh} {F B H : Hp} {σ : L2.St} {ρ : Env}
end
/-- self.f = e, a new field -/
noncomputable def sFldI (i : Nat) (f : Str) (fe : Env → R D) : Env → R Fl := fun ρ => liftE (fe ρ) ρ fun d => match ρ[i]? with
  | some (some (.obj c ks vs)) => if ks.contains f = false ∧ ks.length < 900 then .ok (.nx (ρ.set i (some (.obj c (ks ++ [f]) (vs ++ [d]))))) else .stuck
  | _ => .stuck
section
variable {X : Cx} {L : LE} {J : Jn} {fl fl1 fl' : List Sh} {W : WX} {pos : Pos}
end

/-! ### __init__ -/
noncomputable def PostIn (L : LE) (F B : Hp) (x C dx : Addr) (ks : List Str) (r : R (List D)) (Q : VK) (E : L2.XK) : Prop := match r with
  | .ok ds => ∀ F' H' us, Same F F' → Bs L F' B H' → F' x = none → H' x = some (.ins C dx (ks.zip us)) → ks.length = us.length → DatL L.K F' us ds → Q .non H'
  | .err c fs => ∀ cls d F' H', Same F F' → Bs L F' B H' → ErrOk L c fs cls d F' H' → E cls d H'
  | .stuck => False
noncomputable def spI (L : LE) (c : Str) (ks : List Str) (n : Nat) (m : List D → R (List D)) : Sp := fun vs H Q E => ∃ F B ds x C dx us, vs = .ref x :: us ∧ PySem.W.nsIn L.K mainGlobals c = some (some (.ref C)) ∧ Bs L F B H ∧ F x = none ∧ B x = none ∧
  H x = some (.ins C dx []) ∧ DatL L.K F us ds ∧ ds.length = n ∧ PostIn L F B x C dx ks (m ds) Q E
noncomputable def initOf (ks : List Str) (ρ : Env) : R (List D) := match ρ[0]? with
  | some (some (D.obj _ ks' vs)) => if ks' = ks then .ok vs else .stuck
  | _ => .stuck
section
variable {P : Program} {w : World} {K : PySem.W.Frag} {mg : Str → Option Value} {base : Heap} {L : LE}
end
end PD
namespace PD
open PySem PySem.Spec PyProof.Rows L2
/-- a class that may be made -/
structure MkC (P : Program) (w : World) (K : PySem.W.Frag) (mg : Str → Option Value) (base : Heap) (L : LE) (c : Str) (k : Nat) (ks : List Str) (n : Nat) (mi : List D → R (List D)) : Prop where
  ex : ∃ C f fd ps, PySem.W.nsIn K mainGlobals c = some (some (.ref C)) ∧ mg c = some (.ref C) ∧ Mk K C f ∧ FnOk P w K mg base (L2.CX P w) k f fd ps (spI L c ks n mi) ∧ Binds K fd ps []
noncomputable def mMake (c : Str) (ks : List Str) (n : Nat) (mi : List D → R (List D)) (fs : Env → R (List D)) : Env → R D := fun ρ => fs ρ >>= fun ds => if ds.length = n then mi ds >>= fun vs => .ok (.obj c ks vs) else .stuck
section
variable {X : Cx} {L : LE} {fl : List Sh} {W : WX} {pos : Pos}
end
/-! ### own lists handed to a call whose result holds no list -/
mutual
/-- no list within -/
noncomputable def noL : D → Bool
  | .lst _ => false
  | .scr _ => false
  | .tup xs => noLs xs
  | .obj _ _ xs => noLs xs
  | .dic _ _ => false
  | .dct _ _ => false
  | _ => true
noncomputable def noLs : List D → Bool
  | [] => true
  | x :: xs => noL x && noLs xs
end
noncomputable def isLst : HO → Bool
  | .lst _ => true
  | _ => false
/-- what is frozen, and all lists -/
noncomputable def lf (F H : Hp) : Hp := fun a => match F a with
  | some o => some o
  | none => match H a with
    | some (.lst vs) => some (.lst vs)
    | _ => none
section
variable {K : PySem.W.Frag} {F H F2 F3 : Hp}
theorem lf_F {a : Addr} {o : HO} (h : F a = some o) : lf F H a = some o := by unfold lf; rw [h]
theorem lf_l {a : Addr} {vs : List V} (n : F a = none) (h : H a = some (.lst vs)) : lf F H a = some (.lst vs) := by unfold lf; rw [n, h]
theorem lf_of {a : Addr} {o : HO} (h : lf F H a = some o) : F a = some o ∨ (F a = none ∧ H a = some o ∧ isLst o = true) := by
  unfold lf at h
  cases q : F a with
  | some u => rw [q] at h; exact .inl h
  | none =>
    rw [q] at h
    dsimp only at h
    split at h
    · rename_i vs e
      cases h
      exact .inr ⟨rfl, e, rfl⟩
    · cases h
theorem lf_same : Same F (lf F H) := fun a o h => lf_F h
theorem lf_to (s : Same F H) : Same (lf F H) H := fun a o h => by
  rcases lf_of h with h | ⟨_, h, _⟩
  · exact s a o h
  · exact h
theorem lf_nt (n : NoT F) : NoT (lf F H) := fun a o h => by
  rcases lf_of h with h | ⟨_, _, h⟩
  · exact n a o h
  · cases o with
    | lst _ => rfl
    | _ => cases h
theorem rd_no {a : Addr} {u : HO} (nu : isLst u = false) (k : ∀ a o, F2 a = some o → isLst o = false → F3 a = some o) (h : Rd F2 a u) : Rd F3 a u := by
  rcases h with h | ⟨o, h⟩
  · exact .inl (k _ _ h nu)
  · exact .inr ⟨o, k _ _ h rfl⟩
mutual
theorem dat_noL (k : ∀ a o, F2 a = some o → isLst o = false → F3 a = some o) : ∀ {v : V} {d : D}, noL d = true → Dat K F2 v d → Dat K F3 v d
  | _, _, _, .non => .non
  | _, _, _, .bl => .bl
  | _, _, _, .int => .int
  | _, _, _, .str => .str
  | _, _, n, .lst _ _ => nomatch n
  | _, _, n, .scr _ => nomatch n
  | _, _, n, .tup h r => .tup (by
      rcases h with h | h
      · exact .inl (rd_no rfl k h)
      · exact .inr h) (datL_noL k (by unfold noL at n; exact n) r)
  | _, _, _, .rng h => .rng (k _ _ h rfl)
  | _, _, n, .obj c h l r => .obj c (k _ _ h rfl) l (datL_noL k (by unfold noL at n; exact n) r)
  | _, _, n, .dic _ _ _ => nomatch n
  | _, _, n, .dct _ _ _ => nomatch n
theorem datL_noL (k : ∀ a o, F2 a = some o → isLst o = false → F3 a = some o) : ∀ {vs : List V} {ds : List D}, noLs ds = true → DatL K F2 vs ds → DatL K F3 vs ds
  | _, _, _, .nil => .nil
  | _, _, n, .cons h r => by
    unfold noLs at n
    rw [Bool.and_eq_true] at n
    exact .cons (dat_noL k n.1 h) (datL_noL k n.2 r)
end
end
noncomputable def gNoL (d : D) : R D := if noL d = true then .ok d else .stuck
open Classical in
/-- what was frozen, and what is new -/
noncomputable def newF (F1 H1 F2 : Hp) : Hp := fun a => match F1 a with
  | some o => some o
  | none => if ∃ o, H1 a = some o ∧ isTT o = false then none else F2 a
section
variable {L : LE} {W : WX} {F1 H1 F2 H2 : Hp}
theorem newF_ext (fh : Same F1 H1) (nf : NoT F1) (e : Ext L.T (lf F1 H1) H1 F2 H2) : Ext L.T F1 H1 (newF F1 H1 F2) H2 ∧ ∀ a o, F2 a = some o → isLst o = false → newF F1 H1 F2 a = some o := by
  have s12 : Same F1 F2 := fun a o h => e.ff a o (lf_F h)
  refine ⟨⟨e.hh, e.ht, fun a o h => ?_, fun a o h => ?_, fun a o h t n => ?_, fun a o h => ?_⟩, fun a o h nl => ?_⟩
  · unfold newF; rw [h]
  · unfold newF at h
    cases q : F1 a with
    | some u => rw [q] at h; cases h; exact e.fh a o (s12 a o q)
    | none =>
      rw [q] at h
      dsimp only at h
      split at h
      · cases h
      · exact e.fh a o h
  · unfold newF
    rw [n]
    dsimp only
    rw [if_pos ⟨o, h, t⟩]
  · unfold newF at h
    cases q : F1 a with
    | some u => rw [q] at h; cases h; exact nf a o q
    | none =>
      rw [q] at h
      dsimp only at h
      split at h
      · cases h
      · exact e.nt a o h
  · unfold newF
    cases q : F1 a with
    | some u =>
      have z := s12 a u q
      rw [h] at z
      cases z
      rfl
    | none =>
      dsimp only
      split
      · rename_i hx
        obtain ⟨u, h1, h2⟩ := hx
        exfalso
        cases ql : lf F1 H1 a with
        | none =>
          have z := e.hid a u h1 h2 ql
          rw [h] at z; cases z
        | some u' =>
          have z := e.ff a u' ql
          rw [h] at z
          cases z
          rcases lf_of ql with y | ⟨_, _, y⟩
          · rw [q] at y; cases y
          · rw [y] at nl; cases nl
      · exact h
theorem errOk_noL {c : Str} {fs : List (Str × D)} {cls : Value} {d : Option Addr} {F3 : Hp} (k : ∀ a o, F2 a = some o → isLst o = false → F3 a = some o) (h : ErrOk L c fs cls d F2 H2) : ErrOk L c fs cls d F3 H2 := by
  obtain ⟨h1, h2⟩ := h
  refine ⟨h1, ?_⟩
  split at h2
  · exact h2
  · obtain ⟨dx, ws, a1, a2, a3⟩ := h2
    exact ⟨dx, ws, a1, k _ _ a2 rfl, fun p m => by
      obtain ⟨v, b1, b2, b3⟩ := a3 p m
      exact ⟨v, b1, b2, dat_atom b2 b3⟩⟩
theorem postE_lf {bw : Bool} {r0 : R D} {σ : L2.St} {Q : VK} (fh : Same F1 H1) (nf : NoT F1) (p : PostE L F1 H1 (.d bw) (r0 >>= gNoL) W σ Q) : PostE L (lf F1 H1) H1 .s r0 W σ Q := by
  cases r0 with
  | ok d =>
    rw [bind_ok] at p
    unfold gNoL at p
    by_cases n : noL d = true
    · rw [if_pos n] at p
      intro v F2 H2 S e o nd fr
      obtain ⟨ex, k⟩ := newF_ext fh nf e
      exact postE_ok p ex (dat_lift ex.fh (dat_noL k n (own_d o).1))
    · rw [if_neg n] at p; exact p.elim
  | err c fs =>
    rw [bind_err] at p
    intro cls d F2 H2 e x
    obtain ⟨ex, k⟩ := newF_ext fh nf e
    exact p cls d _ H2 ex (errOk_noL k x)
  | stuck => exact p
end
/-- shapes of lists, and lists of lists -/
noncomputable def Sh.listy : Sh → Bool
  | .d bw => !bw
  | .l e => e.listy
  | _ => false
section
variable {K : PySem.W.Frag} {F H : Hp}
mutual
theorem Own.lf : ∀ {sh : Sh} {v : V} {d : D} {S : List Addr}, sh.listy = true → Own K F H sh v d S → (∀ a ∈ S, F a = none) → Dat K (PD.lf F H) v d
  | _, _, _, _, _, .d (bw := false) h, _ => h.mono lf_same.sm
  | _, _, _, _, n, .d (bw := true) _, _ => nomatch n
  | _, _, _, _, n, .l h r, k => .lst (lf_l (k _ List.mem_cons_self) h) (OwnL.lf (by exact n) r fun a m => k a (List.mem_cons_of_mem _ m))
  | _, _, _, _, n, .na _ _, _ => nomatch n
  | _, _, _, _, n, .nl _ _, _ => nomatch n
  | _, _, _, _, n, .nt _ _, _ => nomatch n
  | _, _, _, _, n, .i _ _ _ _, _ => nomatch n
  | _, _, _, _, n, .q _ _ _, _ => nomatch n
  | _, _, _, _, n, .qt _ _ _, _ => nomatch n
  | _, _, _, _, n, .ql _ _ _, _ => nomatch n
theorem OwnL.lf : ∀ {sh : Sh} {vs : List V} {ds : List D} {S : List Addr}, sh.listy = true → OwnL K F H sh vs ds S → (∀ a ∈ S, F a = none) → DatL K (PD.lf F H) vs ds
  | _, _, _, _, _, .nil, _ => .nil
  | _, _, _, _, n, .cons h r, k => .cons (Own.lf n h fun a m => k a (List.mem_append_left _ m)) (OwnL.lf n r fun a m => k a (List.mem_append_right _ m))
end
end
noncomputable def PostL (L : LE) (F H : Hp) (r : R D) (W : WX) (σ : L2.St) (Q : VK) : Prop := match r with
  | .ok d => ∀ v F' H', Ext L.T F H F' H' → Dat L.K (lf F' H') v d → Q v H'
  | .err c fs => ∀ cls d F' H', Ext L.T F H F' H' → ErrOk L c fs cls d F' H' → W cls d σ H'
  | .stuck => False
noncomputable def PostAL (L : LE) (F H : Hp) (r : R (List D)) (W : WX) (σ : L2.St) (Q : List V → Hp → Prop) : Prop := match r with
  | .ok ds => ∀ vs F' H', Ext L.T F H F' H' → DatL L.K (lf F' H') vs ds → Q vs H'
  | .err c fs => ∀ cls d F' H', Ext L.T F H F' H' → ErrOk L c fs cls d F' H' → W cls d σ H'
  | .stuck => False
noncomputable def tL (L : LE) (fl : List Sh) (W : WX) (f : Env → R D) : TE := fun σ H Q => ∃ F B ρ, Rep L fl F B σ H ρ ∧ PostL L F H (f ρ) W σ Q
noncomputable def tAl (L : LE) (fl : List Sh) (W : WX) (f : Env → R (List D)) : TA := fun σ H Q => ∃ F B ρ, Rep L fl F B σ H ρ ∧ PostAL L F H (f ρ) W σ Q
theorem lf_mono {L : LE} {F1 H1 F2 H2 : Hp} (e : Ext L.T F1 H1 F2 H2) : Sm (lf F1 H1) (lf F2 H2) := fun a o h t => by
  rcases lf_of h with h | ⟨n, h, l⟩
  · exact lf_F (e.ff a o h)
  · cases o with
    | lst vs => exact lf_l (e.hid a _ h rfl n) (e.hh a _ h rfl)
    | _ => cases l
section
variable {X : Cx} {L : LE} {fl : List Sh} {W : WX} {pos : Pos}
theorem l_s {e : Expr} {f : Env → R D} (h : PE X e (tD L fl .s W f)) : PE X e (tL L fl W f) := h.imp fun σ H Q ⟨F, B, ρ, r, p⟩ => ⟨F, B, ρ, r, by
  unfold PostL at p
  unfold PostE
  cases q : f ρ <;> rw [q] at p
  · exact fun v F' H' S e o _ _ => p v F' H' e ((own_d o).1.mono lf_same.sm)
  · exact p
  · exact p⟩
theorem l_own (i : Nat) {sh : Sh} {x : Str} {pos : Pos} (hs : fl[i]? = some sh := by rfl) (hl : sh.listy = true := by rfl) (hN : X.N[i]? = some x := by rfl) (hv : Vis X.env.scope x := by first | exact Or.inl rfl | exact Or.inr (Or.inl rfl) | exact Or.inr (Or.inr rfl)) (hd : (x == ("__debug__" : Str)) = false := by decide)
    (hcd : (x == ("__classdict__" : Str)) = false := by decide) : PE X (.Name x pos) (tL L fl W (mV i)) := by
  refine (pv i hN hv hd hcd).imp fun σ H Q ⟨F, B, ρ, r, p⟩ => ?_
  unfold mV at p
  split at p
  · rename_i d e
    obtain ⟨Ss, h1, _, _, h4⟩ := r.sl
    obtain ⟨v, sh', a1, a2, _, a4⟩ := h1 i d e
    rw [hs] at a2
    cases a2
    exact ⟨v, a1, p v F H r.refl (a4.lf hl fun a m => (h4 i a m).1)⟩
  · exact p.elim
theorem al_nil : PA X [] (tAl L fl W mNil) := pa_nil.imp fun σ H Q ⟨F, B, ρ, r, p⟩ => p [] F H r.refl .nil
theorem al_cons {e : Expr} {es : List Expr} {f : Env → R D} {fs : Env → R (List D)} (he : PE X e (tL L fl W f)) (hr : PA X es (tAl L fl W fs)) (hs : starEach (e :: es) X.env = (false, eval e X.env) :: starEach es X.env := by rfl) :
    PA X (e :: es) (tAl L fl W (mCons f fs)) :=
  (pa_cons he hr hs).imp fun σ H Q ⟨F, B, ρ, r, p⟩ => ⟨F, B, ρ, r, by
    unfold mCons at p
    cases q : f ρ with
    | ok d =>
      rw [q, bind_ok] at p
      intro v F1 H1 e1 d1
      refine ⟨F1, B, ρ, r.ext e1, ?_⟩
      cases q2 : fs ρ with
      | ok ds =>
        rw [q2, bind_ok] at p
        exact fun vs F2 H2 e2 d2 => p (v :: vs) F2 H2 (e1.trans e2) (.cons (d1.mono (lf_mono e2)) d2)
      | err c xs => rw [q2, bind_err] at p; exact fun cls d F2 H2 e2 x => p cls d F2 H2 (e1.trans e2) x
      | stuck => rw [q2, bind_stuck] at p; exact p
    | err c xs => rw [q, bind_err] at p; exact p
    | stuck => rw [q, bind_stuck] at p; exact p⟩
theorem tAl_bind {f : Env → R (List D)} {F B H : Hp} {σ : L2.St} {ρ : Env} (r : Rep L fl F B σ H ρ) {Q : List V → Hp → Prop} {Q' : VK} {k : List D → R D} {sh' : Sh}
    (p : PostE L F H sh' (f ρ >>= k) W σ Q')
    (hk : ∀ ds vs F' H', Ext L.T F H F' H' → Rep L fl F' B σ H' ρ → DatL L.K (lf F' H') vs ds → PostE L F' H' sh' (k ds) W σ Q' → Q vs H') : tAl L fl W f σ H Q := by
  refine ⟨F, B, ρ, r, ?_⟩
  cases q : f ρ with
  | ok ds =>
    rw [q, bind_ok] at p
    exact fun vs F' H' e o => hk ds vs F' H' e (r.ext e) o (p.weak e)
  | err c fs => rw [q, bind_err] at p; exact p
  | stuck => rw [q, bind_stuck] at p; exact p
noncomputable def mCallL (n : Nat) (m : List D → R D) (fs : Env → R (List D)) : Env → R D := fun ρ => fs ρ >>= fun ds => if ds.length = n then m ds >>= gNoL else .stuck
theorem lf_bs {F1 B1 H1 : Hp} (b : Bs L F1 B1 H1) : Bs L (lf F1 H1) (offH (lf F1 H1) H1) H1 := ⟨lf_to b.fh, fun a o h => (offH_of h).2.1, fun a o h _ => (offH_of h).1, lf_nt b.nf, fun a o h => (offH_of h).2.2, b.tab⟩
theorem e_callL {x : Str} {p : Pos} {e : Expr} {es : List Expr} {k j n : Nat} {m : List D → R D} {fs : Env → R (List D)} {bw : Bool} (c : Cal X.prog X.w X.K X.mg X.base L x k .s n m) (hr : Room j X.A) (tk : Takes X W)
    (ha : PA X (e :: es) (tAl L fl W fs)) (hk : k ≤ j := by first | decide | omega) (hg : Gl X x := by rfl) (hdb : (x == ("__debug__" : Str)) = false := by decide) (he : starEach (e :: es) X.env = (false, eval e X.env) :: starEach es X.env := by rfl) (hpl : (backTo pos (starEach es X.env)).any (·.1) = false := by rfl) :
    PE X (.Call (.Name x p) (e :: es) [] pos) (tD L fl (.d bw) W (mCallL n m fs)) := by
  obtain ⟨f, fd, ps, G, hm, hkp, hb⟩ := c.ex
  refine (pe_callS G (hr.mono hk) hg hm hkp hb (fun σ => passAt tk σ) ha hdb he hpl).imp fun σ H Q ⟨F, B, ρ, r, p⟩ => ?_
  refine tAl_bind r (k := fun ds => if ds.length = n then m ds >>= gNoL else .stuck) p fun ds vs F1 H1 e1 r1 d1 p1 => ?_
  by_cases hl : ds.length = n
  · rw [if_pos hl] at p1
    have b := lf_bs r1.bs
    exact ⟨lf F1 H1, offH (lf F1 H1) H1, ds, b, d1, hl, postF_of b (postE_lf r1.bs.fh r1.bs.nf p1)⟩
  · rw [if_neg hl] at p1; exact p1.elim
noncomputable def mMakeL (c : Str) (ks : List Str) (n : Nat) (mi : List D → R (List D)) (fs : Env → R (List D)) : Env → R D := fun ρ => fs ρ >>= fun ds => if ds.length = n then (mi ds >>= fun vs => .ok (.obj c ks vs)) >>= gNoL else .stuck
end
end PD
set_option Elab.async false
set_option linter.all false
set_option maxRecDepth 100000
set_option maxHeartbeats 4000000
/-! # what is not reached; tables of methods; walks over lists and tuples; enumerate; isinstance of an own class -/
namespace PD
open PySem PySem.Spec PyProof.Rows L2
section
variable {X : Cx} {L : LE} {J : Jn} {fl fl1 fl' : List Sh} {W : WX} {pos : Pos}
theorem i_seq {tg e : Expr} {f : Env → R D} {g : D → Option (List D)} (he : PE X e (tD L fl .s W f)) (hg : ∀ d xs, g d = some xs → gL d = some xs ∨ gT d = some xs ∨ gS d = some xs) (hK : X.K = L.K := by rfl) : PI X tg e (tI L fl W (iOf g f)) := ⟨fun pins s σ H Q I h => by
  obtain ⟨F, B, ρ, r, p⟩ := h
  cases q : f ρ with
  | stuck => unfold iOf at p; rw [q] at p; exact p.elim
  | err c fs => exact (i_list he hK).run pins s σ H Q I ⟨F, B, ρ, r, by unfold iOf at p ⊢; rw [q] at p ⊢; exact p⟩
  | ok d =>
    cases qg : g d with
    | none => unfold iOf at p; rw [q, bind_ok, qg] at p; exact p.elim
    | some xs =>
      have p' : PostI L F H (.ok xs) W σ Q := by unfold iOf at p; rw [q, bind_ok, qg] at p; exact p
      rcases hg d xs qg with z | z | z
      · exact (i_list he hK).run pins s σ H Q I ⟨F, B, ρ, r, by unfold iOf; rw [q, bind_ok, z]; exact p'⟩
      · exact (i_tup he hK).run pins s σ H Q I ⟨F, B, ρ, r, by unfold iOf; rw [q, bind_ok, z]; exact p'⟩
      · exact (i_str he).run pins s σ H Q I ⟨F, B, ρ, r, by unfold iOf; rw [q, bind_ok, z]; exact p'⟩⟩
end
/-- a list, a tuple or a text walked -/
noncomputable def gSq : D → Option (List D)
  | .lst xs => some xs
  | .tup xs => some xs
  | .scr ns => some (ns.map .int)
  | .str s => some (s.map fun c => .str [c])
  | _ => none
theorem gSq_ok : ∀ d xs, gSq d = some xs → gL d = some xs ∨ gT d = some xs ∨ gS d = some xs := fun d xs h => by
  cases d with
  | lst ys => exact .inl h
  | tup ys => exact .inr (.inl h)
  | scr ns => exact .inl h
  | str s => exact .inr (.inr h)
  | _ => cases h
section
variable {P : Program} {w : World} {K : PySem.W.Frag} {mg : Str → Option Value} {base : Heap} {L : LE} {m : Str} {n : Nat} {rs : Sh}
theorem MCal.mono {c : Str} {j k : Nat} {mt : List D → R D} (h : MCal P w K mg base L c m j rs n mt) (hk : j ≤ k) : MCal P w K mg base L c m k rs n mt := ⟨fun C hC => by
  obtain ⟨f, fd, ps, a, b, G, d⟩ := h.ex C hC
  exact ⟨f, fd, ps, a, b, G.mono hk, d⟩⟩
end
/-! ### enumerate(list) -/
section
variable {X : Cx} {L : LE} {fl : List Sh} {W : WX} {pos : Pos}
/-! ### isinstance(e, C) of an instance of C -/
noncomputable def dIsC (c : Str) : D → Option D
  | .obj c' _ _ => if c' = c then some (.bl true) else none
  | _ => none
/-- what isinstance of the class asks -/
structure IsC (K : PySem.W.Frag) (mg : Str → Option Value) (c : Str) : Prop where
  ex : ∃ C, PySem.W.nsIn K mainGlobals c = some (some (.ref C)) ∧ mg c = some (.ref C) ∧ C8.InsC K C
end
end PD
namespace PD
open PySem PySem.Spec PyProof.Rows L2
end PD
set_option Elab.async false
set_option linter.all false
set_option maxRecDepth 100000
set_option maxHeartbeats 2000000
/-! # dicts of one's own, with shared values; read where they are shared -/
namespace PD
open PySem PySem.Spec PyProof.Rows L2
section
variable {L : LE} {fl : List Sh} {F B H : Hp} {σ : L2.St} {ρ : Env}
/-- a slot that owns one object gets another content -/
theorem Rep.mutG {i : Nat} {sh : Sh} {d : D} (r : Rep L fl F B σ H ρ) (hs : fl[i]? = some sh) (hx : ρ[i]? = some (some d)) (hS : ∀ v S, Own L.K F H sh v d S → ∃ p, v = .ref p ∧ S = [p]) :
    ∃ p, σ[i]? = some (some (.ref p)) ∧ Own L.K F H sh (.ref p) d [p] ∧ F p = none ∧ B p = none ∧ (∃ o, H p = some o ∧ isTbl o = false) ∧
      ∀ F' H0 o' d', Ext L.T F H F' H0 → isTT o' = false → Own L.K F' (upd H0 p o') sh (.ref p) d' [p] → Rep L fl F' B σ (upd H0 p o') (ρ.set i (some d')) := by
  obtain ⟨Ss, h1, h2, h3, h4⟩ := r.sl
  obtain ⟨v, sh', a1, a2, a3, a4⟩ := h1 i _ hx
  rw [hs] at a2
  cases a2
  obtain ⟨p, rfl, eS⟩ := hS v (Ss i) a4
  rw [eS] at a4
  have n4 := h4 i p (by rw [eS]; exact List.mem_cons_self)
  obtain ⟨nF, nB, o0, ho0, to0⟩ := n4
  refine ⟨p, a1, a4, nF, nB, ⟨o0, ho0, to0⟩, fun F' H0 o' d' ex to' own' => ?_⟩
  have r' := r.ext ex
  have Fp : F' p = none := ex.hid p _ ho0 to0 nF
  have at_ : ∀ a, a ≠ p → upd H0 p o' a = H0 a := fun a z => upd_ne z
  refine ⟨⟨fun a o q => ?_, fun a o q => ?_, r'.bs.fb, r'.bs.nf, r'.bs.nb, fun P hP => ?_⟩, r.ls, by rw [List.length_set]; exact r.lr, r'.px, ?_⟩
  · rw [at_ a fun z => by rw [z, Fp] at q; cases q]; exact r'.bs.fh a o q
  · rw [at_ a fun z => by rw [z, nB] at q; cases q]; exact r'.bs.bh a o q
  · have hp0 := ex.hh p _ ho0 to0
    exact tabH_same (fun a o q t => by rw [at_ a fun z => by rw [z, hp0] at q; cases q; rw [tt_tbl to0] at t; cases t]; exact q) (r'.bs.tab P hP)
  · refine ⟨Ss, fun j d2 q => ?_, h2, h3, fun j a m => ?_⟩
    · by_cases z : j = i
      · subst z
        have hlr : j < ρ.length := (List.getElem?_eq_some_iff.mp hx).1
        rw [List.getElem?_set_self hlr] at q
        cases q
        rw [eS]
        exact ⟨_, _, a1, hs, a3, own'⟩
      · rw [List.getElem?_set_ne (Ne.symm z)] at q
        obtain ⟨v', sh', b1, b2, b3, b4⟩ := h1 j d2 q
        refine ⟨v', sh', b1, b2, b3, Own.at ex.ff.sm (ex.tup.upd (ex.hh p _ ho0 to0) (tt_tup to0)) b3 b4 fun a m => ?_⟩
        have na : a ≠ p := fun w => z (h2 j i a m (by rw [eS, w]; exact List.mem_cons_self))
        rw [at_ a na]
        obtain ⟨_, _, u, q3, q4⟩ := h4 j a m
        rw [q3]
        exact ex.hh a u q3 q4
    · obtain ⟨q1, q2, u, q3, q4⟩ := h4 j a m
      by_cases w : a = p
      · subst w
        exact ⟨Fp, nB, _, upd_same, to'⟩
      · exact ⟨ex.hid a u q3 q4 q1, q2, u, by rw [at_ a w]; exact ex.hh a u q3 q4, q4⟩
end
noncomputable def keyOf : D → Option DKey
  | .int i => some (.i i)
  | .str s => some (.s s)
  | _ => none
theorem DKey.k_inj {a b : DKey} (h : a.k = b.k) : a = b := by
  cases a <;> cases b <;> simp [DKey.k] at h
  · rw [h]
  · rw [h]
theorem keyOf_v {K : PySem.W.Frag} {F : Hp} {v : V} {d : D} {k : DKey} (h : Dat K F v d) (e : keyOf d = some k) : v = kV k.k := by
  cases h <;> cases e <;> rfl
section
variable {κ κ' : Type} [DecidableEq κ] [DecidableEq κ'] {K : PySem.W.Frag} {F : Hp} {f : κ → κ'}
noncomputable def dgetV (ks : List κ) (vs : List D) (k : κ) : Option D := ((ks.zip vs).find? fun kv => decide (kv.1 = k)).map (·.2)
theorem dget_dat (hf : ∀ a b, f a = f b → a = b) {k : κ} : ∀ {ks : List κ} {us : List V} {ds : List D}, DatL K F us ds → (∀ d, dgetV ks ds k = some d → ∃ v, valV ((ks.map f).zip us) (f k) = some v ∧ Dat K F v d) ∧ (dgetV ks ds k = none → valV ((ks.map f).zip us) (f k) = none)
  | [], us, ds, _ => ⟨fun d h => by simp [dgetV] at h, fun _ => rfl⟩
  | k0 :: ks, [], [], .nil => ⟨fun d h => by simp [dgetV] at h, fun _ => rfl⟩
  | k0 :: ks, u :: us, d0 :: ds, .cons hd hr => by
    obtain ⟨i1, i2⟩ := dget_dat hf (k := k) (ks := ks) hr
    by_cases e : k0 = k
    · subst e
      refine ⟨fun d h => ⟨u, by rw [List.map_cons, List.zip_cons_cons]; exact valV_pos rfl, ?_⟩, fun h => ?_⟩
      · have : dgetV (k0 :: ks) (d0 :: ds) k0 = some d0 := by simp [dgetV]
        rw [this] at h
        cases h
        exact hd
      · have : dgetV (k0 :: ks) (d0 :: ds) k0 = some d0 := by simp [dgetV]
        rw [this] at h; cases h
    · have e2 : dgetV (k0 :: ks) (d0 :: ds) k = dgetV ks ds k := by simp [dgetV, e]
      have e3 : valV (((k0 :: ks).map f).zip (u :: us)) (f k) = valV ((ks.map f).zip us) (f k) := by
        rw [List.map_cons, List.zip_cons_cons]
        exact valV_neg fun z => e (hf _ _ z)
      rw [e2, e3]
      exact ⟨i1, i2⟩
/-- the values behind d[k] = v, and the keys -/
noncomputable def dputV (ks : List κ) (vs : List D) (k : κ) (v : D) : List D := if k ∈ ks then (ks.zip vs).map (fun kv => if kv.1 = k then v else kv.2) else vs ++ [v]
noncomputable def dputK (ks : List κ) (k : κ) : List κ := if k ∈ ks then ks else ks ++ [k]
theorem putK_zip (hf : ∀ a b, f a = f b → a = b) {k : κ} {ks : List κ} {us : List V} {ds : List D} {v : V} {d : D} (hl : ks.length = us.length) (h : DatL K F us ds) (hv : Dat K F v d) :
    ∃ us', putK ((ks.map f).zip us) (f k) v = ((dputK ks k).map f).zip us' ∧ (dputK ks k).length = us'.length ∧ DatL K F us' (dputV ks ds k d) := by
  have any_ : ∀ {ks : List κ} {us : List V}, ks.length = us.length → (((ks.map f).zip us).any fun kv => decide (kv.1 = f k)) = decide (k ∈ ks) := by
    intro ks
    induction ks with
    | nil => intro us _; rfl
    | cons k0 ks ih =>
      intro us hl
      cases us with
      | nil => simp at hl
      | cons u us =>
        rw [List.map_cons, List.zip_cons_cons, List.any_cons, ih (by simpa using hl)]
        by_cases e : k0 = k
        · subst e; simp
        · have e2 : ¬ f k0 = f k := fun z => e (hf _ _ z)
          have e3 : ¬ k = k0 := fun z => e z.symm
          simp [e2, e3]
  unfold putK
  rw [any_ hl]
  by_cases m : k ∈ ks
  · rw [if_pos (by simpa using m)]
    unfold dputK dputV
    rw [if_pos m, if_pos m]
    have key : ∀ {ks : List κ} {us : List V} {ds : List D}, ks.length = us.length → DatL K F us ds → ∃ us', ((ks.map f).zip us).map (fun kv => if kv.1 = f k then (kv.1, v) else kv) = (ks.map f).zip us' ∧ ks.length = us'.length ∧ DatL K F us' ((ks.zip ds).map fun kv => if kv.1 = k then d else kv.2) := by
      intro ks
      induction ks with
      | nil => intro us ds hl _; exact ⟨[], rfl, rfl, .nil⟩
      | cons k0 ks ih =>
        intro us ds hl h
        cases h with
        | nil => simp at hl
        | @cons u d0 us ds h0 hr =>
          obtain ⟨us', e1, e2, e3⟩ := ih (by simpa using hl) hr
          rw [List.map_cons, List.zip_cons_cons, List.map_cons, List.zip_cons_cons, List.map_cons, e1]
          by_cases e : k0 = k
          · subst e
            exact ⟨v :: us', by simp, by simp [e2], .cons (by simp; exact hv) e3⟩
          · have e4 : ¬ f k0 = f k := fun z => e (hf _ _ z)
            exact ⟨u :: us', by simp [e4], by simp [e2], .cons (by simp [e]; exact h0) e3⟩
    exact key hl h
  · rw [if_neg (by simpa using m)]
    unfold dputK dputV
    rw [if_neg m, if_neg m]
    exact ⟨us ++ [v], by rw [List.map_append, List.zip_append (by rw [List.length_map, hl])]; rfl, by rw [List.length_append, List.length_append, hl]; rfl, h.append (.cons hv .nil)⟩
end
/-! ### mirrors -/
noncomputable def getQ (ρ : Env) (i : Nat) : Option (List DKey × List D) := match ρ[i]? with
  | some (some (.dic ks vs)) => some (ks, vs)
  | _ => none
theorem getQ_some {ρ : Env} {i : Nat} {ks : List DKey} {vs : List D} (h : getQ ρ i = some (ks, vs)) : ρ[i]? = some (some (.dic ks vs)) := by
  unfold getQ at h
  split at h
  · rename_i ks' vs' e; cases h; exact e
  · cases h
noncomputable def mDIn (i : Nat) (fk : Env → R D) : Env → R D := fun ρ => match getQ ρ i with
  | some (ks, vs) => fk ρ >>= fun k => match keyOf k with
    | some kk => .ok (.bl (dgetV ks vs kk).isSome)
    | none => .stuck
  | none => .stuck
section
variable {X : Cx} {L : LE} {J : Jn} {fl fl1 fl' : List Sh} {W : WX} {pos : Pos}
/-- what a slot's dict holds -/
theorem Rep.dict {F B H : Hp} {σ : L2.St} {ρ : Env} {i : Nat} {ks : List DKey} {vs : List D} (r : Rep L fl F B σ H ρ) (h : getQ ρ i = some (ks, vs)) (hs : fl[i]? = some .q) : ∃ p us, σ[i]? = some (some (.ref p)) ∧ H p = some (.dK ((ks.map DKey.k).zip us)) ∧ ks.length = us.length ∧ DatL L.K F us vs := by
  obtain ⟨Ss, h1, _⟩ := r.sl
  obtain ⟨v, sh, a1, a2, _, a4⟩ := h1 i _ (getQ_some h)
  rw [hs] at a2
  cases a2
  generalize Ss i = S at a4
  cases a4 with
  | q b1 b2 b3 => exact ⟨_, _, a1, b1, b2, b3⟩
end
end PD
set_option Elab.async false
set_option linter.all false
set_option maxRecDepth 100000
set_option maxHeartbeats 1000000
/-! # text[::-1] -/
namespace L2
open PySem PySem.Spec PyProof.Rows
variable {X : Cx}
end L2
namespace PD
open PySem PySem.Spec PyProof.Rows L2
noncomputable def dRevS : D → Option D
  | .str s => if s.length ≤ LN then some (.str s.reverse) else none
  | _ => none
section
variable {X : Cx} {L : LE} {fl : List Sh} {W : WX} {pos : Pos}
end
end PD
set_option linter.all false
set_option maxRecDepth 100000
namespace PD
open PySem PyProof.Rows L2
/-! # Running mirrors by simp -/
section
variable {α : Type} {ρ ρ' : Env} {d x y z : D} {i j : Nat}
@[simp] theorem oR_some {a : α} : oR (some a) = .ok a := Eq.trans rfl rfl
@[simp] theorem oR_none : (oR (none : Option α)) = .stuck := Eq.trans rfl rfl
@[simp] theorem okb {β : Type} {a : α} {k : α → R β} : ((R.ok a : R α) >>= k) = k a := Eq.trans rfl rfl
@[simp] theorem mV_0 : mV 0 (some d :: ρ) = .ok d := Eq.trans rfl rfl
@[simp] theorem mV_s {o : Option D} : mV (i + 1) (o :: ρ) = mV i ρ := by unfold mV; rw [List.getElem?_cons_succ]
@[simp] theorem mC_eq : mC d ρ = .ok d := Eq.trans rfl rfl
noncomputable def k1 (g : D → Option D) : R D → R D := fun r => r >>= fun x => oR (g x)
@[simp] theorem k1_ok {g : D → Option D} : k1 g (.ok x) = oR (g x) := Eq.trans rfl rfl
@[simp] theorem m1_eq {g : D → Option D} {f : Env → R D} : m1 g f ρ = k1 g (f ρ) := Eq.trans rfl rfl
noncomputable def k2 (g : D → D → Option D) : R D → R D → R D := fun r s => r >>= fun x => s >>= fun y => oR (g x y)
@[simp] theorem k2_ok {g : D → D → Option D} : k2 g (.ok x) (.ok y) = oR (g x y) := Eq.trans rfl rfl
@[simp] theorem m2_eq {g : D → D → Option D} {f h : Env → R D} : m2 g f h ρ = k2 g (f ρ) (h ρ) := Eq.trans rfl rfl
noncomputable def kN {β : Type} (g : List D → Option β) : R (List D) → R β := fun r => r >>= fun x => oR (g x)
@[simp] theorem kN_ok {β : Type} {g : List D → Option β} {xs : List D} : kN g (.ok xs) = oR (g xs) := Eq.trans rfl rfl
@[simp] theorem mN_eq {g : List D → Option D} {f : Env → R (List D)} : mN g f ρ = kN g (f ρ) := Eq.trans rfl rfl
@[simp] theorem iArgs_eq {g : List D → Option (List D)} {f : Env → R (List D)} : iArgs g f ρ = kN g (f ρ) := Eq.trans rfl rfl
noncomputable def kO {β : Type} (g : D → Option β) : R D → R β := fun r => r >>= fun x => oR (g x)
@[simp] theorem kO_ok {β : Type} {g : D → Option β} : kO g (.ok x) = oR (g x) := Eq.trans rfl rfl
@[simp] theorem iOf_eq {g : D → Option (List D)} {f : Env → R D} : iOf g f ρ = kO g (f ρ) := Eq.trans rfl rfl
@[simp] theorem mB_eq {f : Env → R D} : mB f ρ = kO dBool (f ρ) := Eq.trans rfl rfl
@[simp] theorem mTru_eq {f : Env → R D} : mTru f ρ = kO dTru (f ρ) := Eq.trans rfl rfl
@[simp] theorem mSo_eq {f : Env → R D} : mSo f ρ = kO dInt? (f ρ) := Eq.trans rfl rfl
@[simp] theorem mNo_eq : mNo ρ = .ok none := Eq.trans rfl rfl
@[simp] theorem mNil_eq : mNil ρ = .ok [] := Eq.trans rfl rfl
noncomputable def kC : R D → R (List D) → R (List D) := fun r s => r >>= fun x => s >>= fun xs => .ok (x :: xs)
@[simp] theorem kC_ok {xs : List D} : kC (.ok x) (.ok xs) = .ok (x :: xs) := Eq.trans rfl rfl
@[simp] theorem mCons_eq {f : Env → R D} {g : Env → R (List D)} : mCons f g ρ = kC (f ρ) (g ρ) := Eq.trans rfl rfl
@[simp] theorem dBool_bl {b : Bool} : dBool (.bl b) = some b := Eq.trans rfl rfl
@[simp] theorem dInt?_int {a : Int} : dInt? (.int a) = some (some a) := Eq.trans rfl rfl
/-- a test's two ways -/
noncomputable def kIf {β : Type} (f g : Env → R β) (ρ : Env) : R Bool → R β := fun r => r >>= fun b => if b = true then f ρ else g ρ
@[simp] theorem kIf_t {β : Type} {f g : Env → R β} : kIf f g ρ (.ok true) = f ρ := Eq.trans rfl rfl
@[simp] theorem kIf_f {β : Type} {f g : Env → R β} : kIf f g ρ (.ok false) = g ρ := Eq.trans rfl rfl
@[simp] theorem mIf_eq {c : Env → R Bool} {f g : Env → R D} : mIf c f g ρ = kIf f g ρ (c ρ) := Eq.trans rfl rfl
noncomputable def kAnd (g : Env → R Bool) (ρ : Env) : R Bool → R Bool := fun r => r >>= fun b => if b = true then g ρ else .ok false
@[simp] theorem kAnd_t {g : Env → R Bool} : kAnd g ρ (.ok true) = g ρ := Eq.trans rfl rfl
@[simp] theorem kAnd_f {g : Env → R Bool} : kAnd g ρ (.ok false) = .ok false := Eq.trans rfl rfl
@[simp] theorem mAnd_eq {f g : Env → R Bool} : mAnd f g ρ = kAnd g ρ (f ρ) := Eq.trans rfl rfl
noncomputable def kOr (g : Env → R Bool) (ρ : Env) : R Bool → R Bool := fun r => r >>= fun b => if b = true then .ok true else g ρ
@[simp] theorem kOr_t {g : Env → R Bool} : kOr g ρ (.ok true) = .ok true := Eq.trans rfl rfl
@[simp] theorem kOr_f {g : Env → R Bool} : kOr g ρ (.ok false) = g ρ := Eq.trans rfl rfl
@[simp] theorem mOr_eq {f g : Env → R Bool} : mOr f g ρ = kOr g ρ (f ρ) := Eq.trans rfl rfl
noncomputable def kNot : R Bool → R Bool := fun r => r >>= fun b => .ok (!b)
@[simp] theorem kNot_ok {b : Bool} : kNot (.ok b) = .ok (!b) := Eq.trans rfl rfl
@[simp] theorem mNot_eq {f : Env → R Bool} : mNot f ρ = kNot (f ρ) := Eq.trans rfl rfl
noncomputable def kAndV (g : Env → R D) (ρ : Env) : R D → R D := fun r => r >>= fun d => oR (dBool d) >>= fun b => if b = true then g ρ else .ok (.bl false)
@[simp] theorem kAndV_t {g : Env → R D} : kAndV g ρ (.ok (.bl true)) = g ρ := Eq.trans rfl rfl
@[simp] theorem kAndV_f {g : Env → R D} : kAndV g ρ (.ok (.bl false)) = .ok (.bl false) := Eq.trans rfl rfl
@[simp] theorem mAndV_eq {f g : Env → R D} : mAndV f g ρ = kAndV g ρ (f ρ) := Eq.trans rfl rfl
noncomputable def kOrV (g : Env → R D) (ρ : Env) : R D → R D := fun r => r >>= fun d => oR (dBool d) >>= fun b => if b = true then .ok (.bl true) else g ρ
@[simp] theorem kOrV_t {g : Env → R D} : kOrV g ρ (.ok (.bl true)) = .ok (.bl true) := Eq.trans rfl rfl
@[simp] theorem kOrV_f {g : Env → R D} : kOrV g ρ (.ok (.bl false)) = g ρ := Eq.trans rfl rfl
@[simp] theorem mOrV_eq {f g : Env → R D} : mOrV f g ρ = kOrV g ρ (f ρ) := Eq.trans rfl rfl
noncomputable def kCh (g' : D → D → Option D) (c : Env → R D) (ρ : Env) (y : D) : Option D → R D := fun o => oR o >>= fun z => oR (dBool z) >>= fun k => if k = true then c ρ >>= fun u => oR (g' y u) else .ok (.bl false)
noncomputable def kCh0 (g g' : D → D → Option D) (c : Env → R D) (ρ : Env) : R D → R D → R D := fun a b => a >>= fun x => b >>= fun y => kCh g' c ρ y (g x y)
@[simp] theorem kCh0_ok {g g' : D → D → Option D} {c : Env → R D} : kCh0 g g' c ρ (.ok x) (.ok y) = kCh g' c ρ y (g x y) := Eq.trans rfl rfl
@[simp] theorem kCh_t {g' : D → D → Option D} {c : Env → R D} : kCh g' c ρ y (some (.bl true)) = k2 g' (.ok y) (c ρ) := Eq.trans rfl rfl
@[simp] theorem kCh_f {g' : D → D → Option D} {c : Env → R D} : kCh g' c ρ y (some (.bl false)) = .ok (.bl false) := Eq.trans rfl rfl
@[simp] theorem mChain_eq {g g' : D → D → Option D} {a b c : Env → R D} : mChain g g' a b c ρ = kCh0 g g' c ρ (a ρ) (b ρ) := Eq.trans rfl rfl
noncomputable def kAt : R D → R D := fun r => r >>= fun d => if isAtom d = true then .ok d else .stuck
@[simp] theorem kAt_ok : kAt (.ok d) = if isAtom d = true then .ok d else .stuck := Eq.trans rfl rfl
@[simp] theorem mAt_eq {f : Env → R D} : mAt f ρ = kAt (f ρ) := Eq.trans rfl rfl
noncomputable def kSl (g : D → Option Int → Option Int → Option D) : R D → R (Option Int) → R (Option Int) → R D := fun a l h => a >>= fun x => l >>= fun l => h >>= fun h => oR (g x l h)
@[simp] theorem kSl_ok {g : D → Option Int → Option Int → Option D} {l h : Option Int} : kSl g (.ok x) (.ok l) (.ok h) = oR (g x l h) := Eq.trans rfl rfl
@[simp] theorem mSl_eq {g : D → Option Int → Option Int → Option D} {f : Env → R D} {l h : Env → R (Option Int)} : mSl g f l h ρ = kSl g (f ρ) (l ρ) (h ρ) := Eq.trans rfl rfl
noncomputable def kM (g : List Nat → List D → Option D) : R D → R (List D) → R D := fun a r => a >>= fun o => match o with
  | .str s => r >>= fun xs => oR (g s xs)
  | _ => .stuck
@[simp] theorem kM_ok {g : List Nat → List D → Option D} {s : List Nat} {xs : List D} : kM g (.ok (.str s)) (.ok xs) = oR (g s xs) := Eq.trans rfl rfl
@[simp] theorem mM_eq {g : List Nat → List D → Option D} {f : Env → R D} {fs : Env → R (List D)} : mM g f fs ρ = kM g (f ρ) (fs ρ) := Eq.trans rfl rfl
noncomputable def kCl (n : Nat) (m : List D → R D) : R (List D) → R D := fun r => r >>= fun ds => if ds.length = n then m ds else .stuck
@[simp] theorem kCl1 {m : List D → R D} : kCl 1 m (.ok [x]) = m [x] := Eq.trans rfl rfl
@[simp] theorem kCl2 {m : List D → R D} : kCl 2 m (.ok [x, y]) = m [x, y] := Eq.trans rfl rfl
@[simp] theorem kCl3 {m : List D → R D} : kCl 3 m (.ok [x, y, z]) = m [x, y, z] := Eq.trans rfl rfl
@[simp] theorem kCl4 {m : List D → R D} : kCl 4 m (.ok [x, y, z, d]) = m [x, y, z, d] := Eq.trans rfl rfl
@[simp] theorem mCall_eq {n : Nat} {m : List D → R D} {f : Env → R (List D)} : mCall n m f ρ = kCl n m (f ρ) := Eq.trans rfl rfl
@[simp] theorem noF_ok {α : Type} {a : α} : noF (.ok a) = .ok a := Eq.trans rfl rfl
@[simp] theorem noF_err {α : Type} {c : PySem.Str} : noF (.err c [] : R α) = .err c [] := Eq.trans rfl rfl
noncomputable def kClA (n : Nat) (m : List D → R D) : R (List D) → R D := fun r => r >>= fun ds => if ds.length = n then noF (m ds) >>= fun d => if isAtom d = true then .ok d else .stuck else .stuck
@[simp] theorem kClA_ok {n : Nat} {m : List D → R D} {ds : List D} : kClA n m (.ok ds) = kAt (noF (kCl n m (.ok ds))) := by
  show (if ds.length = n then _ else _) = kAt (noF (if ds.length = n then m ds else .stuck))
  by_cases h : ds.length = n
  · rw [if_pos h, if_pos h]; rfl
  · rw [if_neg h, if_neg h]; rfl
@[simp] theorem mCallA_eq {n : Nat} {m : List D → R D} {f : Env → R (List D)} : mCallA n m f ρ = kClA n m (f ρ) := Eq.trans rfl rfl
noncomputable def kClL (n : Nat) (m : List D → R D) : R (List D) → R D := fun r => r >>= fun ds => if ds.length = n then m ds >>= gNoL else .stuck
noncomputable def kG : R D → R D := fun r => r >>= gNoL
@[simp] theorem kG_ok : kG (.ok d) = gNoL d := Eq.trans rfl rfl
@[simp] theorem kG_err {c : PySem.Str} {fs : List (PySem.Str × D)} : kG (.err c fs) = .err c fs := Eq.trans rfl rfl
@[simp] theorem kClL_ok {n : Nat} {m : List D → R D} {ds : List D} : kClL n m (.ok ds) = kG (kCl n m (.ok ds)) := by
  show (if ds.length = n then _ else _) = kG (if ds.length = n then m ds else .stuck)
  by_cases h : ds.length = n
  · rw [if_pos h, if_pos h]; rfl
  · rw [if_neg h, if_neg h]; rfl
@[simp] theorem mCallL_eq {n : Nat} {m : List D → R D} {f : Env → R (List D)} : mCallL n m f ρ = kClL n m (f ρ) := Eq.trans rfl rfl
/-! objects -/
noncomputable def kMk (c : PySem.Str) (ks : List PySem.Str) (n : Nat) (mi : List D → R (List D)) : R (List D) → R D := fun r => r >>= fun ds => if ds.length = n then mi ds >>= fun vs => .ok (.obj c ks vs) else .stuck
noncomputable def kOb (c : PySem.Str) (ks : List PySem.Str) : R (List D) → R D := fun r => r >>= fun vs => .ok (.obj c ks vs)
@[simp] theorem kOb_ok {c : PySem.Str} {ks : List PySem.Str} {vs : List D} : kOb c ks (.ok vs) = .ok (.obj c ks vs) := Eq.trans rfl rfl
@[simp] theorem kOb_err {c c' : PySem.Str} {ks : List PySem.Str} {fs : List (PySem.Str × D)} : kOb c ks (.err c' fs) = .err c' fs := Eq.trans rfl rfl
@[simp] theorem kMk_ok1 {c : PySem.Str} {ks : List PySem.Str} {mi : List D → R (List D)} : kMk c ks 1 mi (.ok [d]) = kOb c ks (mi [d]) := Eq.trans rfl rfl
@[simp] theorem kMk_ok2 {c : PySem.Str} {ks : List PySem.Str} {mi : List D → R (List D)} : kMk c ks 2 mi (.ok [d, x]) = kOb c ks (mi [d, x]) := Eq.trans rfl rfl
@[simp] theorem mMake_eq {c : PySem.Str} {ks : List PySem.Str} {n : Nat} {mi : List D → R (List D)} {fs : Env → R (List D)} : mMake c ks n mi fs ρ = kMk c ks n mi (fs ρ) := Eq.trans rfl rfl
noncomputable def kMkL (c : PySem.Str) (ks : List PySem.Str) (n : Nat) (mi : List D → R (List D)) : R (List D) → R D := fun r => r >>= fun ds => if ds.length = n then (mi ds >>= fun vs => .ok (.obj c ks vs)) >>= gNoL else .stuck
@[simp] theorem kMkL_ok1 {c : PySem.Str} {ks : List PySem.Str} {mi : List D → R (List D)} : kMkL c ks 1 mi (.ok [d]) = kG (kOb c ks (mi [d])) := Eq.trans rfl rfl
@[simp] theorem kMkL_ok2 {c : PySem.Str} {ks : List PySem.Str} {mi : List D → R (List D)} : kMkL c ks 2 mi (.ok [d, x]) = kG (kOb c ks (mi [d, x])) := Eq.trans rfl rfl
@[simp] theorem mMakeL_eq {c : PySem.Str} {ks : List PySem.Str} {n : Nat} {mi : List D → R (List D)} {fs : Env → R (List D)} : mMakeL c ks n mi fs ρ = kMkL c ks n mi (fs ρ) := Eq.trans rfl rfl
noncomputable def kMt (tab : List (PySem.Str × (List D → R D))) (m : PySem.Str) (n : Nat) : R D → R (List D) → R D := fun r s => r >>= fun o => match o with
  | .obj c ks vs => match tab.lookup c with
    | some mt => if ks.contains m = true then .stuck else s >>= fun ds => if ds.length = n then mt (.obj c ks vs :: ds) else .stuck
    | none => .stuck
  | _ => .stuck
@[simp] theorem mMeth_eq {tab : List (PySem.Str × (List D → R D))} {m : PySem.Str} {n : Nat} {fo : Env → R D} {fs : Env → R (List D)} : mMeth tab m n fo fs ρ = kMt tab m n (fo ρ) (fs ρ) := Eq.trans rfl rfl
noncomputable def kM0 (tab : List (PySem.Str × (List D → R D))) (m : PySem.Str) : R D → R D := fun r => r >>= fun o => match o with
  | .obj c ks vs => match tab.lookup c with
    | some mt => if ks.contains m = true then .stuck else mt [.obj c ks vs]
    | none => .stuck
  | _ => .stuck
@[simp] theorem mMeth0_eq {tab : List (PySem.Str × (List D → R D))} {m : PySem.Str} {fo : Env → R D} : mMeth0 tab m fo ρ = kM0 tab m (fo ρ) := Eq.trans rfl rfl
@[simp] theorem gSq_l {xs : List D} : gSq (.lst xs) = some xs := Eq.trans rfl rfl
@[simp] theorem gSq_t {xs : List D} : gSq (.tup xs) = some xs := Eq.trans rfl rfl
@[simp] theorem gSq_s {s : List Nat} : gSq (.str s) = some (s.map fun c => .str [c]) := Eq.trans rfl rfl
@[simp] theorem gEn_l {xs : List D} {c : Int} : gEn c (.lst xs) = some (enumL c xs) := Eq.trans rfl rfl
@[simp] theorem dIsC_o {c : PySem.Str} {ks : List PySem.Str} {vs : List D} : dIsC c (.obj c ks vs) = some (.bl true) := if_pos rfl
/-! statements -/
noncomputable def kS (g : Env → R Fl) : R Fl → R Fl := fun r => r >>= fun r => match r with
  | .nx ρ' => g ρ'
  | r => .ok r
@[simp] theorem kS_nx {g : Env → R Fl} : kS g (.ok (.nx ρ)) = g ρ := Eq.trans rfl rfl
@[simp] theorem kS_rt {g : Env → R Fl} : kS g (.ok (.rt d)) = .ok (.rt d) := Eq.trans rfl rfl
@[simp] theorem kS_bk {g : Env → R Fl} : kS g (.ok (.bk ρ)) = .ok (.bk ρ) := Eq.trans rfl rfl
@[simp] theorem kS_ct {g : Env → R Fl} : kS g (.ok (.ct ρ)) = .ok (.ct ρ) := Eq.trans rfl rfl
@[simp] theorem kS_ex {g : Env → R Fl} {c : PySem.Str} {fs : List (PySem.Str × D)} : kS g (.ok (.ex c fs ρ)) = .ok (.ex c fs ρ) := Eq.trans rfl rfl
@[simp] theorem sSeq_eq {f g : Env → R Fl} : sSeq f g ρ = kS g (f ρ) := Eq.trans rfl rfl
@[simp] theorem sNx_eq : sNx ρ = .ok (.nx ρ) := Eq.trans rfl rfl
@[simp] theorem sBk_eq : sBk ρ = .ok (.bk ρ) := Eq.trans rfl rfl
@[simp] theorem sCt_eq : sCt ρ = .ok (.ct ρ) := Eq.trans rfl rfl
@[simp] theorem sRaise_eq {c : PySem.Str} : sRaise c ρ = .ok (.ex c [] ρ) := Eq.trans rfl rfl
@[simp] theorem sRetN_eq : sRetN ρ = .ok (.rt .non) := Eq.trans rfl rfl
noncomputable def kSet (i : Nat) (ρ : Env) : R D → R Fl := fun r => liftE r ρ fun d => .ok (.nx (ρ.set i (some d)))
@[simp] theorem kSet_ok : kSet i ρ (.ok d) = .ok (.nx (ρ.set i (some d))) := Eq.trans rfl rfl
@[simp] theorem kSet_err {c : PySem.Str} {fs : List (PySem.Str × D)} : kSet i ρ (.err c fs) = .ok (.ex c fs ρ) := Eq.trans rfl rfl
@[simp] theorem sSet_eq {f : Env → R D} : sSet i f ρ = kSet i ρ (f ρ) := Eq.trans rfl rfl
noncomputable def kDrop (ρ : Env) : R D → R Fl := fun r => liftE r ρ fun _ => .ok (.nx ρ)
@[simp] theorem kDrop_ok : kDrop ρ (.ok d) = .ok (.nx ρ) := Eq.trans rfl rfl
@[simp] theorem kDrop_err {c : PySem.Str} {fs : List (PySem.Str × D)} : kDrop ρ (.err c fs) = .ok (.ex c fs ρ) := Eq.trans rfl rfl
@[simp] theorem sDrop_eq {f : Env → R D} : sDrop f ρ = kDrop ρ (f ρ) := Eq.trans rfl rfl
noncomputable def kRet (ρ : Env) : R D → R Fl := fun r => liftE r ρ fun d => .ok (.rt d)
@[simp] theorem kRet_ok : kRet ρ (.ok d) = .ok (.rt d) := Eq.trans rfl rfl
@[simp] theorem kRet_err {c : PySem.Str} {fs : List (PySem.Str × D)} : kRet ρ (.err c fs) = .ok (.ex c fs ρ) := Eq.trans rfl rfl
@[simp] theorem sRet_eq {f : Env → R D} : sRet f ρ = kRet ρ (f ρ) := Eq.trans rfl rfl
noncomputable def kIfS (f g : Env → R Fl) (ρ : Env) : R Bool → R Fl := fun r => liftE r ρ fun b => if b = true then f ρ else g ρ
@[simp] theorem kIfS_t {f g : Env → R Fl} : kIfS f g ρ (.ok true) = f ρ := Eq.trans rfl rfl
@[simp] theorem kIfS_f {f g : Env → R Fl} : kIfS f g ρ (.ok false) = g ρ := Eq.trans rfl rfl
@[simp] theorem sIf_eq {c : Env → R Bool} {f g : Env → R Fl} : sIf c f g ρ = kIfS f g ρ (c ρ) := Eq.trans rfl rfl
noncomputable def kFor (T : D → Env → Option Env) (b : Env → R Fl) (ρ : Env) : R (List D) → R Fl := fun r => liftE r ρ fun ds => sLoop T b ds ρ
@[simp] theorem kFor_ok {T : D → Env → Option Env} {b : Env → R Fl} {ds : List D} : kFor T b ρ (.ok ds) = sLoop T b ds ρ := Eq.trans rfl rfl
@[simp] theorem sFor_eq {f : Env → R (List D)} {T : D → Env → Option Env} {b : Env → R Fl} : sFor f T b ρ = kFor T b ρ (f ρ) := Eq.trans rfl rfl
@[simp] theorem getL_0 {xs : List D} : getL (some (.lst xs) :: ρ) 0 = some xs := Eq.trans rfl rfl
@[simp] theorem getL_s {o : Option D} : getL (o :: ρ) (i + 1) = getL ρ i := by unfold getL; rw [List.getElem?_cons_succ]
noncomputable def kApp (i : Nat) (ρ : Env) : Option (List D) → R D → R Fl := fun o r => match o with
  | some xs => liftE r ρ fun d => if xs.length < LN then .ok (.nx (ρ.set i (some (.lst (xs ++ [d]))))) else .stuck
  | none => .stuck
@[simp] theorem sApp_eq {f : Env → R D} : sApp i f ρ = kApp i ρ (getL ρ i) (f ρ) := Eq.trans rfl rfl
theorem kApp_ok {xs : List D} (h : xs.length < LN) : kApp i ρ (some xs) (.ok d) = .ok (.nx (ρ.set i (some (.lst (xs ++ [d]))))) := if_pos h
@[simp] theorem gSet_eq : gSet i d ρ = some (ρ.set i (some d)) := Eq.trans rfl rfl
/-! comprehensions -/
noncomputable def kLn : R (List D) → R D := fun r => r >>= fun xs => if xs.length ≤ LN then .ok (.lst xs) else .stuck
theorem kLn_ok {xs : List D} (h : xs.length ≤ LN) : kLn (.ok xs) = .ok (.lst xs) := if_pos h
noncomputable def kLc (T : D → Env → Option Env) (ft : Env → R Bool) (fe : Env → R D) (ρ : Env) : R (List D) → R D := fun r => r >>= fun ds => kLn (lcGo T ft fe ρ ds)
@[simp] theorem kLc_ok {T : D → Env → Option Env} {ft : Env → R Bool} {fe : Env → R D} {ds : List D} : kLc T ft fe ρ (.ok ds) = kLn (lcGo T ft fe ρ ds) := Eq.trans rfl rfl
@[simp] theorem mLc_eq {fi : Env → R (List D)} {vs : List Nat} {T : D → Env → Option Env} {ft : Env → R Bool} {fe : Env → R D} : mLc fi vs T ft fe ρ = kLc T ft fe (wipeD ρ vs) (fi ρ) := Eq.trans rfl rfl
@[simp] theorem wipeD_1 {v : Nat} : wipeD ρ [v] = ρ.set v none := Eq.trans rfl rfl
@[simp] theorem mYes_eq : mYes ρ = .ok true := Eq.trans rfl rfl
theorem lc_step {T : D → Env → Option Env} {ft : Env → R Bool} {fe : Env → R D} {ds ys : List D} (h : T d ρ = some ρ') (h1 : ft ρ' = .ok true) (h2 : fe ρ' = .ok y) (h3 : lcGo T ft fe ρ ds = .ok ys) : lcGo T ft fe ρ (d :: ds) = .ok (y :: ys) := by
  show (match T d ρ with | none => _ | some ρ' => _) = _
  rw [h]; show (nE (ft ρ') >>= _) = _
  rw [h1]; show (nE (fe ρ') >>= _) = _
  rw [h2]; show (lcGo T ft fe ρ ds >>= _) = _
  rw [h3]; rfl
theorem lc_skip {T : D → Env → Option Env} {ft : Env → R Bool} {fe : Env → R D} {ds ys : List D} (h : T d ρ = some ρ') (h1 : ft ρ' = .ok false) (h3 : lcGo T ft fe ρ ds = .ok ys) : lcGo T ft fe ρ (d :: ds) = .ok ys := by
  show (match T d ρ with | none => _ | some ρ' => _) = _
  rw [h]; show (nE (ft ρ') >>= _) = _
  rw [h1]; exact h3
/-- each item gives one -/
theorem lc_all {T : D → Env → Option Env} {ft : Env → R Bool} {fe : Env → R D} {β : Type} (emb : β → D) (P : β → Prop) : ∀ {ds : List D}, (∀ d ∈ ds, ∃ ρ' y, T d ρ = some ρ' ∧ ft ρ' = .ok true ∧ fe ρ' = .ok (emb y) ∧ P y) → ∃ ys : List β, lcGo T ft fe ρ ds = .ok (ys.map emb) ∧ ys.length = ds.length ∧ ∀ y ∈ ys, P y
  | [], _ => ⟨[], rfl, rfl, fun y m => nomatch m⟩
  | d :: ds, h => by
    obtain ⟨ρ', y, a, b, c, p⟩ := h d (List.mem_cons_self ..)
    obtain ⟨ys, e, l, q⟩ := lc_all emb P (ds := ds) fun d' m => h d' (List.mem_cons_of_mem _ m)
    refine ⟨y :: ys, lc_step a b c e, by rw [List.length_cons, List.length_cons, l], fun z m => ?_⟩
    rcases List.mem_cons.mp m with rfl | m
    · exact p
    · exact q z m
/-- filter and map -/
theorem lc_fm {T : D → Env → Option Env} {ft : Env → R Bool} {fe : Env → R D} {β : Type} (emb : β → D) (p : β → Bool) (g : β → D) : ∀ {xs : List β}, (∀ x ∈ xs, ∃ ρ', T (emb x) ρ = some ρ' ∧ ft ρ' = .ok (p x) ∧ (p x = true → fe ρ' = .ok (g x))) → lcGo T ft fe ρ (xs.map emb) = .ok ((xs.filter p).map g)
  | [], _ => rfl
  | x :: xs, h => by
    obtain ⟨ρ', a, b, c⟩ := h x (List.mem_cons_self ..)
    have e := lc_fm emb p g (xs := xs) fun d' m => h d' (List.mem_cons_of_mem _ m)
    rw [List.map_cons]
    cases q : p x with
    | true =>
      rw [List.filter_cons_of_pos q, List.map_cons]
      exact lc_step a (by rw [b, q]) (c q) e
    | false =>
      rw [List.filter_cons_of_neg (by rw [q]; exact Bool.false_ne_true)]
      exact lc_skip a (by rw [b, q]) e
/-- the body of a def -/
noncomputable def kF (fall : Bool) : R Fl → R D := fun r => match r with
  | .ok (.nx _) => if fall = true then .ok .non else .stuck
  | .ok (.rt d) => .ok d
  | .ok (.ex c fs _) => .err c fs
  | _ => .stuck
@[simp] theorem kF_rt {fall : Bool} : kF fall (.ok (.rt d)) = .ok d := Eq.trans rfl rfl
@[simp] theorem kF_nx : kF true (.ok (.nx ρ)) = .ok .non := Eq.trans rfl rfl
@[simp] theorem kF_ex {fall : Bool} {c : PySem.Str} {fs : List (PySem.Str × D)} : kF fall (.ok (.ex c fs ρ)) = .err c fs := Eq.trans rfl rfl
theorem mFn_eq {n : Nat} {fall : Bool} {b : Env → R Fl} {ds : List D} : mFn n fall b ds = kF fall (b (ds.map some ++ List.replicate (n - ds.length) none)) := Eq.trans rfl rfl
/-! loops -/
theorem loop_nx {T : D → Env → Option Env} {b : Env → R Fl} {ds : List D} {ρ1 ρ2 : Env} (h : T d ρ = some ρ1) (hb : b ρ1 = .ok (.nx ρ2)) : sLoop T b (d :: ds) ρ = sLoop T b ds ρ2 := by
  show (match T d ρ with | none => _ | some ρ1 => _) = _
  rw [h]; show (b ρ1 >>= _) = _
  rw [hb]; rfl
/-- an invariant over a list's items -/
theorem loop_inv {T : D → Env → Option Env} {b : Env → R Fl} (I : Nat → Env → Prop) : ∀ (ds : List D) (k : Nat) (ρ : Env), I k ρ →
    (∀ (j : Nat) (d : D) (ρ : Env), ds[j]? = some d → I (k + j) ρ → ∃ ρ1 ρ2, T d ρ = some ρ1 ∧ b ρ1 = .ok (.nx ρ2) ∧ I (k + j + 1) ρ2) → ∃ ρ', sLoop T b ds ρ = .ok (.nx ρ') ∧ I (k + ds.length) ρ'
  | [], k, ρ, h, _ => ⟨ρ, rfl, h⟩
  | d :: ds, k, ρ, h, hs => by
    obtain ⟨ρ1, ρ2, e1, e2, h2⟩ := hs 0 d ρ rfl h
    obtain ⟨ρ', e3, h3⟩ := loop_inv I ds (k + 1) ρ2 h2 fun j d' ρ' q h' => by
      have := hs (j + 1) d' ρ' (by rw [List.getElem?_cons_succ]; exact q) (by rw [show k + (j + 1) = k + 1 + j by omega]; exact h')
      rw [show k + (j + 1) + 1 = k + 1 + j + 1 by omega] at this
      exact this
    refine ⟨ρ', (loop_nx e1 e2).trans e3, ?_⟩
    rw [List.length_cons, show k + (ds.length + 1) = k + 1 + ds.length by omega]
    exact h3
theorem rngL_get {lo : Int} {n j : Nat} {d : D} (h : (rngL lo n)[j]? = some d) : j < n ∧ d = .int (lo + j) := by
  unfold rngL at h
  rw [List.getElem?_map] at h
  cases q : (List.range n)[j]? with
  | none => rw [q] at h; cases h
  | some k =>
    rw [q] at h
    cases h
    obtain ⟨h1, h2⟩ := List.getElem?_eq_some_iff.mp q
    rw [List.length_range] at h1
    rw [List.getElem_range] at h2
    subst h2
    exact ⟨h1, rfl⟩
theorem rngL_ints {lo : Int} {n : Nat} : rngL lo n = ((List.range n).map fun i : Nat => lo + (i : Int)).map D.int := by unfold rngL; rw [List.map_map]; rfl
theorem rngL0 {n : Nat} : rngL 0 n = ((List.range n).map fun i : Nat => (i : Int)).map D.int := by rw [rngL_ints]; simp
@[simp] theorem rngL_length {lo : Int} {n : Nat} : (rngL lo n).length = n := by unfold rngL; rw [List.length_map, List.length_range]
end
/-! operators -/
section
variable {i j : Int} {s t : List Nat} {xs ys : List D}
@[simp] theorem dAdd_i : dAdd (.int i) (.int j) = some (.int (i + j)) := Eq.trans rfl rfl
theorem dAdd_s (h : s.length + t.length ≤ LN) : dAdd (.str s) (.str t) = some (.str (s ++ t)) := if_pos h
theorem dAdd_l (h : xs.length + ys.length ≤ LN) : dAdd (.lst xs) (.lst ys) = some (.lst (xs ++ ys)) := if_pos h
theorem dCat_l (h : xs.length + ys.length ≤ LN) : dCat (.lst xs) (.lst ys) = some (.lst (xs ++ ys)) := if_pos h
@[simp] theorem dSub_i : dSub (.int i) (.int j) = some (.int (i - j)) := Eq.trans rfl rfl
@[simp] theorem dNeg_i : dNeg (.int i) = some (.int (-i)) := Eq.trans rfl rfl
theorem dMul_i (h : i.natAbs.log2 + j.natAbs.log2 < MB) : dMul (.int i) (.int j) = some (.int (i * j)) := if_pos h
theorem dMod_i (h : 0 < j) : dMod (.int i) (.int j) = some (.int (i % j)) := if_pos h
theorem dDiv_i (h : 0 < j) (h2 : j.natAbs.log2 < 9000) : dDiv (.int i) (.int j) = some (.int (i / j)) := if_pos ⟨h, h2⟩
theorem dPow_i (h : 0 ≤ j ∧ j ≤ 1000 ∧ i.natAbs < 2 ^ 64) : dPow (.int i) (.int j) = some (.int (i ^ j.toNat)) := if_pos h
@[simp] theorem dLt_i : dLt (.int i) (.int j) = some (.bl (decide (i < j))) := Eq.trans rfl rfl
@[simp] theorem dLe_i : dLe (.int i) (.int j) = some (.bl (decide (i ≤ j))) := Eq.trans rfl rfl
@[simp] theorem dGt_i : dGt (.int i) (.int j) = some (.bl (decide (j < i))) := Eq.trans rfl rfl
@[simp] theorem dGe_i : dGe (.int i) (.int j) = some (.bl (decide (j ≤ i))) := Eq.trans rfl rfl
@[simp] theorem dEq_i : dEq (.int i) (.int j) = some (.bl (i == j)) := Eq.trans rfl rfl
@[simp] theorem dNe_i : dNe (.int i) (.int j) = some (.bl (!(i == j))) := Eq.trans rfl rfl
theorem beq_t {a b : Int} (h : a = b) : (a == b) = true := by rw [h]; exact beq_self_eq_true b
theorem beq_f {a b : Int} (h : ¬ a = b) : (a == b) = false := by simpa using h
@[simp] theorem dEq_s : dEq (.str s) (.str t) = some (.bl (s == t)) := Eq.trans rfl rfl
@[simp] theorem dNe_s : dNe (.str s) (.str t) = some (.bl (!(s == t))) := Eq.trans rfl rfl
@[simp] theorem dEq_b {a b : Bool} : dEq (.bl a) (.bl b) = some (.bl (a == b)) := Eq.trans rfl rfl
@[simp] theorem dNot_b {b : Bool} : dNot (.bl b) = some (.bl (!b)) := Eq.trans rfl rfl
@[simp] theorem dAbs_i : dAbs [.int i] = some (.int (if i < 0 then -i else i)) := Eq.trans rfl rfl
@[simp] theorem dMin2_i : dMin2 [.int i, .int j] = some (.int (if j < i then j else i)) := Eq.trans rfl rfl
@[simp] theorem dMax2_i : dMax2 [.int i, .int j] = some (.int (if j > i then j else i)) := Eq.trans rfl rfl
@[simp] theorem dInt1_i : dInt1 [.int i] = some (.int i) := Eq.trans rfl rfl
@[simp] theorem dInt1_b {k : Bool} : dInt1 [.bl k] = some (.int (if k then 1 else 0)) := Eq.trans rfl rfl
theorem dLen_s (h : s.length ≤ LN) : dLen [.str s] = some (.int s.length) := if_pos h
@[simp] theorem dLen_l : dLen [.lst xs] = some (.int xs.length) := Eq.trans rfl rfl
@[simp] theorem dLen_t : dLen [.tup xs] = some (.int xs.length) := Eq.trans rfl rfl
@[simp] theorem dLen_c {ns : List Int} : dLen [.scr ns] = some (.int ns.length) := Eq.trans rfl rfl
theorem dLst_ok (h : xs.length ≤ LN) : dLst xs = some (.lst xs) := if_pos h
theorem dTup_ok (h : xs.length ≤ LN) : dTup xs = some (.tup xs) := if_pos h
theorem gR1_ok (h : -LR ≤ j) (h2 : j ≤ LR) : gR1 [.int j] = some (rngL 0 j.toNat) := if_pos ⟨h, h2⟩
theorem gR2_ok (h : -LR ≤ i) (h2 : i ≤ LR) (h3 : -LR ≤ j) (h4 : j ≤ LR) : gR2 [.int i, .int j] = some (rngL i (j - i).toNat) := if_pos ⟨⟨h, h2⟩, h3, h4⟩
@[simp] theorem gL_l : gL (.lst xs) = some xs := Eq.trans rfl rfl
@[simp] theorem gT_t : gT (.tup xs) = some xs := Eq.trans rfl rfl
@[simp] theorem gS_s : gS (.str s) = some (s.map fun c => .str [c]) := Eq.trans rfl rfl
@[simp] theorem dSl_l {lo hi : Option Int} : dSl (.lst xs) lo hi = some (.lst (cutG xs lo hi)) := Eq.trans rfl rfl
@[simp] theorem dSlL_l {lo hi : Option Int} : dSlL (.lst xs) lo hi = some (.lst (cutG xs lo hi)) := Eq.trans rfl rfl
theorem dSl_s {lo hi : Option Int} (h : s.length ≤ LN) : dSl (.str s) lo hi = some (.str (cutG s lo hi)) := if_pos h
@[simp] theorem dFind_s : dFind s [.str t] = some (.int (findI s t 0)) := Eq.trans rfl rfl
@[simp] theorem dAllS_s {p : Nat → Bool} : dAllS p (.str s) = some (.bl (s.all p)) := Eq.trans rfl rfl
@[simp] theorem dIsi_non {T : String} : dIsi T .non = some (.bl (isiB T .non)) := Eq.trans rfl rfl
@[simp] theorem dIsi_bl {T : String} {b : Bool} : dIsi T (.bl b) = some (.bl (isiB T (.bl b))) := Eq.trans rfl rfl
@[simp] theorem dIsi_int {T : String} : dIsi T (.int i) = some (.bl (isiB T (.int i))) := Eq.trans rfl rfl
@[simp] theorem dIsi_str {T : String} : dIsi T (.str s) = some (.bl (isiB T (.str s))) := Eq.trans rfl rfl
@[simp] theorem dIsi_lst {T : String} : dIsi T (.lst xs) = some (.bl (isiB T (.lst xs))) := Eq.trans rfl rfl
@[simp] theorem dIsi_tup {T : String} : dIsi T (.tup xs) = some (.bl (isiB T (.tup xs))) := Eq.trans rfl rfl
@[simp] theorem isN_non : dIsN .non .non = some (.bl true) := Eq.trans rfl rfl
@[simp] theorem isN_int : dIsN (.int i) .non = some (.bl false) := Eq.trans rfl rfl
@[simp] theorem isN_str : dIsN (.str s) .non = some (.bl false) := Eq.trans rfl rfl
@[simp] theorem isN_lst : dIsN (.lst xs) .non = some (.bl false) := Eq.trans rfl rfl
@[simp] theorem isN_tup : dIsN (.tup xs) .non = some (.bl false) := Eq.trans rfl rfl
@[simp] theorem isN_bl {b : Bool} : dIsN (.bl b) .non = some (.bl false) := Eq.trans rfl rfl
@[simp] theorem notN_non : dNotN .non .non = some (.bl false) := Eq.trans rfl rfl
@[simp] theorem notN_int : dNotN (.int i) .non = some (.bl true) := Eq.trans rfl rfl
@[simp] theorem notN_str : dNotN (.str s) .non = some (.bl true) := Eq.trans rfl rfl
@[simp] theorem notN_lst : dNotN (.lst xs) .non = some (.bl true) := Eq.trans rfl rfl
@[simp] theorem notN_tup : dNotN (.tup xs) .non = some (.bl true) := Eq.trans rfl rfl
theorem ixN_nat {n k : Nat} (h : k < n) : L2.ixN n (k : Int) = some k := by
  unfold L2.ixN
  simp; omega
theorem ixN_of {n : Nat} {i : Int} (h0 : 0 ≤ i) (h : i < n) : L2.ixN n i = some i.toNat := by
  have := ixN_nat (n := n) (k := i.toNat) (by omega)
  rwa [show ((i.toNat : Nat) : Int) = i by omega] at this
@[simp] theorem dIx_lit {n : Nat} : dIx (.lst xs) (.int (no_index (@OfNat.ofNat Int n _))) = xs[(OfNat.ofNat n : Nat)]? := by
  show L2.atI xs ((n : Nat) : Int) = xs[n]?
  unfold L2.atI
  by_cases h : n < xs.length
  · rw [ixN_nat h]; rfl
  · have e : L2.ixN xs.length (n : Int) = none := by unfold L2.ixN; rw [if_pos (by omega), if_neg (by omega)]
    rw [e, List.getElem?_eq_none (by omega)]; rfl
@[simp] theorem dIx_litT {n : Nat} : dIx (.tup xs) (.int (no_index (@OfNat.ofNat Int n _))) = xs[(OfNat.ofNat n : Nat)]? := dIx_lit (xs := xs)
theorem ix_mem {xs : List Int} {i : Int} (h0 : 0 ≤ i) (h : i < xs.length) : ∃ v, dIx (.lst (xs.map .int)) (.int i) = some (.int v) ∧ v ∈ xs ∧ xs[i.toNat]? = some v := by
  obtain ⟨v, hv⟩ : ∃ v, xs[i.toNat]? = some v := ⟨_, List.getElem?_eq_getElem (by omega)⟩
  refine ⟨v, ?_, List.mem_of_getElem? hv, hv⟩
  have hq : i.toNat < (xs.map D.int).length := by rw [List.length_map]; omega
  show L2.atI (xs.map D.int) i = _
  unfold L2.atI
  rw [ixN_of h0 (by rw [List.length_map]; omega)]
  show (xs.map D.int)[i.toNat]? = _
  rw [List.getElem?_map, hv]; rfl
theorem dIx_l {d : D} (h0 : 0 ≤ i) (h : xs[i.toNat]? = some d) : dIx (.lst xs) (.int i) = some d := by
  have hl : i.toNat < xs.length := (List.getElem?_eq_some_iff.mp h).1
  show L2.atI xs i = _
  unfold L2.atI
  rw [ixN_of h0 (by omega)]
  exact h
theorem dIx_t {d : D} (h0 : 0 ≤ i) (h : xs[i.toNat]? = some d) : dIx (.tup xs) (.int i) = some d := dIx_l (xs := xs) h0 h
theorem dIx_s {c : Nat} (hl : s.length ≤ LN) (h0 : 0 ≤ i) (h : s[i.toNat]? = some c) : dIx (.str s) (.int i) = some (.str [c]) := by
  have hq : i.toNat < s.length := (List.getElem?_eq_some_iff.mp h).1
  show (if s.length ≤ LN then _ else _) = _
  rw [if_pos hl]
  unfold L2.atI
  rw [ixN_of h0 (by omega)]
  show (s[i.toNat]?).map _ = _
  rw [h]
  rfl
theorem dIx_c {ns : List Int} {n : Int} (h0 : 0 ≤ i) (h : ns[i.toNat]? = some n) : dIx (.scr ns) (.int i) = some (.int n) := by
  have hq : i.toNat < ns.length := (List.getElem?_eq_some_iff.mp h).1
  show (L2.atI ns i).map _ = _
  unfold L2.atI
  rw [ixN_of h0 (by omega)]
  show (ns[i.toNat]?).map _ = _
  rw [h]
  rfl
/-! joining -/
theorem strsOf_map {β : Type} {f : β → List Nat} : ∀ {xs : List β}, strsOf (xs.map fun x => D.str (f x)) = some (xs.map f)
  | [] => rfl
  | x :: xs => by
    show (strsOf (xs.map fun x => D.str (f x))).map (f x :: ·) = _
    rw [strsOf_map]; rfl
theorem joinD_nil : ∀ {zs : List (List Nat)}, joinD [] zs = zs.flatten
  | [] => rfl
  | [x] => by simp [joinD]
  | x :: y :: r => by
    show x ++ [] ++ joinD [] (y :: r) = _
    rw [joinD_nil]; simp
theorem flat_one {cs : List Nat} : (cs.map fun c => [c]).flatten = cs := by
  induction cs with
  | nil => rfl
  | cons c cs ih => rw [List.map_cons, List.flatten_cons, ih]; rfl
theorem sum_one {cs : List Nat} : ((cs.map fun c => [c]).map List.length).sum = cs.length := by
  induction cs with
  | nil => rfl
  | cons c cs ih => simp only [List.map_cons, List.sum_cons, List.length_cons, List.length_nil] at ih ⊢; rw [ih]; omega
theorem dJoin_one {cs : List Nat} (h : cs.length ≤ LN) : dJoin [] [.lst (cs.map fun c => D.str [c])] = some (.str cs) := by
  have e : strsOf (cs.map fun c => D.str [c]) = some (cs.map fun c => [c]) := strsOf_map
  unfold dJoin
  simp only [e, List.length_map, List.length_nil, Nat.mul_zero, Nat.add_zero, sum_one]
  rw [if_pos h, joinD_nil, flat_one]
/-! slices with ends that are not negative -/
theorem sIx_of {n d : Nat} {a : Int} (h : 0 ≤ a) : HT.sIx n d (some a) = min a.toNat n := by
  have := HT.sIx_nat n d a.toNat
  rwa [show ((a.toNat : Nat) : Int) = a by omega] at this
theorem cut_both {α : Type} {zs : List α} {a b : Int} (ha : 0 ≤ a) (hb : 0 ≤ b) : cutG zs (some a) (some b) = (zs.drop a.toNat).take (b.toNat - a.toNat) := by
  unfold cutG
  rw [sIx_of ha, sIx_of hb]
  by_cases h : a.toNat ≤ zs.length
  · rw [Nat.min_eq_left h]
    by_cases h2 : b.toNat ≤ zs.length
    · rw [Nat.min_eq_left h2]
    · rw [Nat.min_eq_right (by omega), List.take_of_length_le (by rw [List.length_drop]; omega), List.take_of_length_le (by rw [List.length_drop]; omega)]
  · rw [show min a.toNat zs.length = zs.length from Nat.min_eq_right (by omega), List.drop_of_length_le (Nat.le_refl _), List.drop_of_length_le (by omega), List.take_nil, List.take_nil]
theorem cut_to {α : Type} {zs : List α} {b : Int} (hb : 0 ≤ b) : cutG zs none (some b) = zs.take b.toNat := by
  unfold cutG
  rw [sIx_of hb, HT.sIx_none, List.drop_zero, Nat.sub_zero]
  by_cases h2 : b.toNat ≤ zs.length
  · rw [Nat.min_eq_left h2]
  · rw [Nat.min_eq_right (by omega), List.take_of_length_le (Nat.le_refl _), List.take_of_length_le (by omega)]
theorem cut_from {α : Type} {zs : List α} {a : Int} (ha : 0 ≤ a) : cutG zs (some a) none = zs.drop a.toNat := by
  unfold cutG
  rw [sIx_of ha, HT.sIx_none]
  by_cases h : a.toNat ≤ zs.length
  · rw [Nat.min_eq_left h, List.take_of_length_le (by rw [List.length_drop]; omega)]
  · rw [Nat.min_eq_right (by omega), List.drop_of_length_le (Nat.le_refl _), List.drop_of_length_le (by omega), List.take_nil]
end
end PD
set_option linter.all false
set_option maxRecDepth 100000
namespace PM
open PD

noncomputable def zc3fcd3d7 : List Nat := [97, 98, 99, 100, 101, 102, 103, 104, 105, 106, 107, 108, 109, 110, 111, 112, 113, 114, 115, 116, 117, 118, 119, 120, 121, 122]
noncomputable def i1_law_cell : Env → R Fl := (sIf (mB (m2 dLt (mV 1) (mN dLen (mCons (mV 0) mNil)))) (sRet (m2 dIx (mV 0) (mV 1))) sNx)
noncomputable def b_law_cell : Env → R Fl := (sSeq i1_law_cell (sRet (mC (.int 0))))
noncomputable def m_law_cell : List D → R D := mFn 2 false b_law_cell
noncomputable def i1_law_draws : Env → R Fl := (sIf (mB (m2 dLt (mV 2) (m2 dPow (mC (.int 10)) (mC (.int 18))))) (sSet 3 (mC (.int 0))) sNx)
noncomputable def i2_law_draws : Env → R Fl := (sIf (mB (m2 dGt (mV 3) (mC (.int 0)))) (sSeq (sApp 4 (m2 dMod (mN dInt1 (mCons (mV 3) mNil)) (m2 dIx (mV 1) (mV 5)))) (sSet 3 (m2 dDiv (mV 3) (m2 dIx (mV 1) (mV 5))))) (sSeq (sSet 6 (m2 dMod (mN dInt1 (mCons (m2 dAdd (m2 dMul (mV 2) (mC (.int 48271))) (m2 dMul (mC (.int 69621)) (m2 dAdd (mV 5) (mC (.int 1))))) mNil)) (mC (.int 2147483647)))) (sSeq (sSet 6 (m2 dMod (mN dInt1 (mCons (m2 dAdd (m2 dMul (mV 6) (mV 6)) (m2 dMul (mC (.int 40692)) (m2 dAdd (mV 5) (mC (.int 3))))) mNil)) (mC (.int 2147483399)))) (sSeq (sSet 6 (m2 dMod (mN dInt1 (mCons (m2 dAdd (m2 dMul (mV 6) (mV 6)) (mC (.int 16807))) mNil)) (mC (.int 2147483563)))) (sApp 4 (m2 dMod (mN dInt1 (mCons (m2 dDiv (mV 6) (mC (.int 11))) mNil)) (m2 dIx (mV 1) (mV 5))))))))
noncomputable def l1_law_draws : Env → R Fl := i2_law_draws
noncomputable def b_law_draws : Env → R Fl := (sSeq (sSet 2 (mN dAbs (mCons (mV 0) mNil))) (sSeq (sSet 3 (mV 2)) (sSeq i1_law_draws (sSeq (sSet 4 (mN dLst mNil)) (sSeq (sFor (iArgs gR1 (mCons (mN dLen (mCons (mV 1) mNil)) mNil)) (gSet 5) l1_law_draws) (sRet (mV 4)))))))
noncomputable def m_law_draws : List D → R D := mFn 7 false b_law_draws
noncomputable def b_law_letter : Env → R Fl := (sRet (m2 dIx (mC (.str zc3fcd3d7)) (m2 dMod (mN dInt1 (mCons (mV 0) mNil)) (mC (.int 26)))))
noncomputable def m_law_letter : List D → R D := mFn 1 false b_law_letter
noncomputable def i1_law_size : Env → R Fl := (sIf (mB (m2 dLt (mV 0) (mC (.int 6)))) (sRet (m2 dAdd (mC (.int 1)) (m2 dMod (mN dInt1 (mCons (mV 1) mNil)) (mN dMin2 (mCons (mC (.int 9)) (mCons (mV 2) mNil)))))) sNx)
noncomputable def i2_law_size : Env → R Fl := (sIf (mB (m2 dLt (mV 0) (mC (.int 9)))) (sRet (m2 dAdd (mC (.int 1)) (m2 dMod (mN dInt1 (mCons (mV 1) mNil)) (mN dMin2 (mCons (mC (.int 18)) (mCons (mV 2) mNil)))))) sNx)
noncomputable def b_law_size : Env → R Fl := (sSeq i1_law_size (sSeq i2_law_size (sRet (m2 dAdd (mC (.int 1)) (m2 dMod (mN dInt1 (mCons (mV 1) mNil)) (mV 2))))))
noncomputable def m_law_size : List D → R D := mFn 3 false b_law_size
noncomputable def c1_law_text : Env → R D := (mLc (iOf gL (mSl dSl (mCall 2 m_law_draws (mCons (mV 0) (mCons (m2 dAdd (mV 2) (m2 dMul (mN dLst (mCons (mC (.int 26)) mNil)) (mV 4))) mNil))) (mSo (mC (.int 7))) mNo)) [13] (gSet 13) mYes (m2 dMod (mN dInt1 (mCons (mV 13) mNil)) (mV 7)))
noncomputable def c2_law_text : Env → R D := (mLc (iArgs gR1 (mCons (mV 4) mNil)) [12] (gSet 12) mYes (m2 dIx (mV 8) (m2 dMod (mN dInt1 (mCons (mV 12) mNil)) (mN dMin2 (mCons (mV 9) (mCons (mV 4) mNil))))))
noncomputable def i1_law_text : Env → R Fl := (sIf (mOr (mB (m2 dEq (m2 dIx (mV 3) (mC (.int 5))) (mC (.int 3)))) (mB (m2 dEq (m2 dIx (mV 3) (mC (.int 5))) (mC (.int 4))))) (sSeq (sSet 9 (m2 dAdd (mC (.int 1)) (m2 dDiv (m2 dIx (mV 3) (mC (.int 6))) (mC (.int 2))))) (sSet 8 c2_law_text)) sNx)
noncomputable def c3_law_text : Env → R D := (mLc (iArgs gR1 (mCons (mV 4) mNil)) [12] (gSet 12) mYes (mN dInt1 (mCons (m2 dEq (mV 12) (m2 dDiv (m2 dIx (mV 3) (mC (.int 1))) (mC (.int 2)))) mNil)))
noncomputable def i2_law_text : Env → R Fl := (sIf (mB (m2 dEq (m2 dIx (mV 3) (mC (.int 5))) (mC (.int 5)))) (sSet 8 c3_law_text) sNx)
noncomputable def i3_law_text : Env → R Fl := (sIf (mB (m2 dLt (mN dLen (mCons (mV 11) mNil)) (mV 4))) (sSeq (sSet 14 (m2 dAdd (mV 11) (mV 10))) (sSeq (sSet 10 (mV 11)) (sSet 11 (mV 14)))) sNx)
noncomputable def l1_law_text : Env → R Fl := i3_law_text
noncomputable def i4_law_text : Env → R Fl := (sIf (mB (m2 dEq (m2 dIx (mV 3) (mC (.int 5))) (mC (.int 6)))) (sSeq (sSet 10 (mN dLst (mCons (mC (.int 0)) mNil))) (sSeq (sSet 11 (mN dLst (mCons (mC (.int 0)) (mCons (mC (.int 1)) mNil)))) (sSeq (sFor (iArgs gR1 (mCons (mC (.int 8)) mNil)) (gSet 12) l1_law_text) (sSet 8 (mSl dSl (mV 11) mNo (mSo (mV 4))))))) sNx)
noncomputable def c4_law_text : Env → R D := (mLc (iOf gL (mV 8)) [13] (gSet 13) mYes (mCall 1 m_law_letter (mCons (m2 dAdd (mV 5) (m2 dMul (mV 6) (mV 13))) mNil)))
noncomputable def b_law_text : Env → R Fl := (sSeq (sSet 2 (mN dLst (mCons (mC (.int 10)) (mCons (mC (.int 64)) (mCons (mC (.int 26)) (mCons (mC (.int 4)) (mCons (mC (.int 6)) (mCons (mC (.int 8)) (mCons (mC (.int 12)) mNil))))))))) (sSeq (sSet 3 (mCall 2 m_law_draws (mCons (mV 0) (mCons (mV 2) mNil)))) (sSeq (sSet 4 (mCall 3 m_law_size (mCons (m2 dIx (mV 3) (mC (.int 0))) (mCons (m2 dIx (mV 3) (mC (.int 1))) (mCons (mV 1) mNil))))) (sSeq (sSet 5 (m2 dIx (mV 3) (mC (.int 2)))) (sSeq (sSet 6 (m2 dIx (mN dLst (mCons (mC (.int 1)) (mCons (mC (.int 3)) (mCons (mC (.int 7)) (mCons (mC (.int 11)) mNil))))) (m2 dIx (mV 3) (mC (.int 3))))) (sSeq (sSet 7 (m2 dIx (mN dLst (mCons (mC (.int 2)) (mCons (mC (.int 2)) (mCons (mC (.int 1)) (mCons (mC (.int 3)) (mCons (mC (.int 4)) (mCons (mC (.int 26)) mNil))))))) (m2 dIx (mV 3) (mC (.int 4))))) (sSeq (sSet 8 c1_law_text) (sSeq i1_law_text (sSeq i2_law_text (sSeq i4_law_text (sRet (mM dJoin (mC (.str [])) (mCons c4_law_text mNil)))))))))))))
noncomputable def m_law_text : List D → R D := mFn 15 false b_law_text
noncomputable def b_law_is_int : Env → R Fl := (sRet (mAndV (m1 (dIsi "int") (mV 0)) (m1 dNot (m1 (dIsi "bool") (mV 0)))))
noncomputable def m_law_is_int : List D → R D := mFn 1 false b_law_is_int
noncomputable def i1_law_same : Env → R Fl := (sIf (mB (m2 dIsN (mV 1) (mC .non))) (sRet (m2 dIsN (mV 0) (mC .non))) sNx)
noncomputable def i2_law_same : Env → R Fl := (sIf (mB (m1 (dIsi "bool") (mV 1))) (sRet (mAndV (m1 (dIsi "bool") (mV 0)) (m2 dEq (mV 0) (mV 1)))) sNx)
noncomputable def i3_law_same : Env → R Fl := (sIf (mB (m1 (dIsi "int") (mV 1))) (sRet (mAndV (mCall 1 m_law_is_int (mCons (mV 0) mNil)) (m2 dEq (mV 0) (mV 1)))) sNx)
noncomputable def i4_law_same : Env → R Fl := (sIf (mB (m1 (dIsi "str") (mV 1))) (sRet (mAndV (m1 (dIsi "str") (mV 0)) (m2 dEq (mV 0) (mV 1)))) sNx)
noncomputable def i5_law_same : Env → R Fl := (sIf (mAnd (mB (m1 (dIsi "list") (mV 1))) (mNot (mB (m1 (dIsi "list") (mV 0))))) (sRet (mC (.bl false))) sNx)
noncomputable def i6_law_same : Env → R Fl := (sIf (mAnd (mB (m1 (dIsi "tuple") (mV 1))) (mNot (mB (m1 (dIsi "tuple") (mV 0))))) (sRet (mC (.bl false))) sNx)
noncomputable def i7_law_same : Env → R Fl := (sIf (mB (m2 dNe (mN dLen (mCons (mV 0) mNil)) (mN dLen (mCons (mV 1) mNil)))) (sRet (mC (.bl false))) sNx)
noncomputable def i8_law_same (mrec : List D → R D) : Env → R Fl := (sIf (mNot (mB (mCall 2 mrec (mCons (m2 dIx (mV 0) (mV 2)) (mCons (m2 dIx (mV 1) (mV 2)) mNil))))) (sRet (mC (.bl false))) sNx)
noncomputable def l1_law_same (mrec : List D → R D) : Env → R Fl := (i8_law_same mrec)
noncomputable def b_law_same (mrec : List D → R D) : Env → R Fl := (sSeq i1_law_same (sSeq i2_law_same (sSeq i3_law_same (sSeq i4_law_same (sSeq i5_law_same (sSeq i6_law_same (sSeq i7_law_same (sSeq (sFor (iArgs gR1 (mCons (mN dLen (mCons (mV 1) mNil)) mNil)) (gSet 2) (l1_law_same mrec)) (sRet (mC (.bl true)))))))))))
noncomputable def m_law_same : Nat → List D → R D
  | 0 => fun _ => .stuck
  | n + 1 => mFn 3 false (b_law_same (m_law_same n))
noncomputable def b_is_text : Env → R Fl := (sRet (mAndV (mChain dLe dLe (mC (.int 1)) (mN dLen (mCons (mV 0) mNil)) (mC (.int 128))) (m1 (dAllS (fun c => decide (c ∈ zc3fcd3d7))) (mV 0))))
noncomputable def m_is_text : List D → R D := mFn 2 false b_is_text
noncomputable def i1_check_text : Env → R Fl := (sIf (mNot (mB (mCall 1 m_is_text (mCons (mV 0) mNil)))) (sRaise "BadText") sNx)
noncomputable def b_check_text : Env → R Fl := (sSeq i1_check_text (sRet (mV 0)))
noncomputable def m_check_text : List D → R D := mFn 1 false b_check_text
end PM
set_option linter.all false
set_option maxRecDepth 100000
namespace PM
open PD
theorem letter_ok (n : Int) : ∃ c, m_law_letter [.int n] = .ok (.str [c]) ∧ 97 ≤ c ∧ c ≤ 122 := by
  have h0 : 0 ≤ n % 26 := Int.emod_nonneg _ (by decide)
  have h1 : n % 26 < 26 := Int.emod_lt_of_pos _ (by decide)
  obtain ⟨k, hk⟩ : ∃ k : Nat, n % 26 = k := ⟨(n % 26).toNat, by omega⟩
  have hz : zc3fcd3d7[k]? = some (97 + k) := by
    have hk' : k < 26 := by omega
    clear hk h0 h1
    revert k
    decide
  refine ⟨97 + k, ?_, by omega, by omega⟩
  have e : dIx (.str zc3fcd3d7) (.int (n % 26)) = some (.str [97 + k]) := dIx_s (by decide) h0 (by rw [hk, Int.toNat_natCast]; exact hz)
  simp [m_law_letter, mFn_eq, b_law_letter, dMod_i, e]
theorem size_ok (mode n most : Int) (h : 0 < most) : ∃ s, m_law_size [.int mode, .int n, .int most] = .ok (.int s) ∧ 1 ≤ s ∧ s ≤ most := by
  have pos : ∀ x y : Int, 0 < x → 0 < y → 0 < (if y < x then y else x) := fun x y hx hy => by split <;> assumption
  have p9 := pos 9 most (by decide) h
  have p18 := pos 18 most (by decide) h
  have key : ∀ b : Int, 0 < b → b ≤ most → 1 ≤ 1 + n % b ∧ 1 + n % b ≤ most := fun b hb hm => by
    have := Int.emod_nonneg n (show b ≠ 0 by omega)
    have := Int.emod_lt_of_pos n hb
    omega
  by_cases h6 : mode < 6
  · exact ⟨_, by simp [m_law_size, mFn_eq, b_law_size, i1_law_size, i2_law_size, dMod_i p9, h6], key _ p9 (by split <;> omega)⟩
  · by_cases h9 : mode < 9
    · exact ⟨_, by simp [m_law_size, mFn_eq, b_law_size, i1_law_size, i2_law_size, dMod_i p18, h6, h9], key _ p18 (by split <;> omega)⟩
    · exact ⟨_, by simp [m_law_size, mFn_eq, b_law_size, i1_law_size, i2_law_size, dMod_i h, h6, h9], key _ h (by omega)⟩
theorem cell_ok (ns : List Int) (k : Nat) : m_law_cell [.scr ns, .int k] = .ok (.int (ns.getD k 0)) := by
  by_cases h : k < ns.length
  · have e : dIx (.scr ns) (.int k) = some (.int (ns.getD k 0)) := dIx_c (by omega) (by
      rw [Int.toNat_natCast, List.getD_eq_getElem?_getD, List.getElem?_eq_getElem h]; rfl)
    have h' : (k : Int) < ns.length := by omega
    simp [m_law_cell, mFn_eq, b_law_cell, i1_law_cell, e, h, h']
  · have h' : ¬ (k : Int) < ns.length := by omega
    simp [m_law_cell, mFn_eq, b_law_cell, i1_law_cell, h, h', List.getD_eq_getElem?_getD, List.getElem?_eq_none (Nat.le_of_not_lt h)]
/-- what is drawn fits the sizes -/
noncomputable def Fits : List Int → List Int → Prop
  | [], [] => True
  | d :: ds, s :: ss => (0 ≤ d ∧ d < s) ∧ Fits ds ss
  | _, _ => False
theorem Fits.snoc : ∀ {ds ss : List Int} {d s : Int}, Fits ds ss → 0 ≤ d → d < s → Fits (ds ++ [d]) (ss ++ [s])
  | [], [], _, _, _, h0, h1 => ⟨⟨h0, h1⟩, trivial⟩
  | _ :: _, _ :: _, _, _, h, h0, h1 => ⟨h.1, Fits.snoc h.2 h0 h1⟩
theorem Fits.len : ∀ {ds ss : List Int}, Fits ds ss → ds.length = ss.length
  | [], [], _ => rfl
  | _ :: _, _ :: _, h => by rw [List.length_cons, List.length_cons, Fits.len h.2]
theorem Fits.get : ∀ {ds ss : List Int} {i : Nat} {s : Int}, Fits ds ss → ss[i]? = some s → ∃ d, ds[i]? = some d ∧ 0 ≤ d ∧ d < s
  | d :: _, _ :: _, 0, s, h, e => by cases e; exact ⟨d, rfl, h.1.1, h.1.2⟩
  | _ :: _, _ :: _, i + 1, s, h, e => by
    rw [List.getElem?_cons_succ] at e
    rw [List.getElem?_cons_succ]
    exact Fits.get h.2 e
  | [], [], _, _, _, e => by cases e
theorem log2_le {a b : Nat} (h : a < 2 ^ (b + 1)) : a.log2 ≤ b := by
  by_cases h0 : a = 0
  · subst h0; simp
  · have := (Nat.log2_lt h0).mpr h
    omega
theorem bits_log {z : Int} {n : Nat} (h : PySem.Builtin.Int.intBits z ≤ n) : z.natAbs.log2 ≤ n := by
  unfold PySem.Builtin.Int.intBits at h
  split at h
  · rename_i q
    have : z.natAbs = 0 := by first | exact q | (simp at q; simp [q]) | omega
    rw [this]
    simp
  · omega
theorem seedpos {a b : Int} (hb : 0 < b) : 0 ≤ a % b ∧ a % b < b := ⟨Int.emod_nonneg _ (by omega), Int.emod_lt_of_pos _ hb⟩
theorem mul_small {a b : Int} (ha : 0 ≤ a) (ha2 : a < 4294967296) (hb : 0 ≤ b) (hb2 : b < 4294967296) : dMul (.int a) (.int b) = some (.int (a * b)) := dMul_i (by
  have h1 : a.natAbs.log2 ≤ 31 := log2_le (by omega)
  have h2 : b.natAbs.log2 ≤ 31 := log2_le (by omega)
  have : MB = 4000000 := rfl
  omega)
theorem draws_okW (n : Int) (sizes : List Int) (hn : n.natAbs.log2 ≤ 2000000) (hs : ∀ s ∈ sizes, 0 < s ∧ s.natAbs.log2 < 9000) (hl : sizes.length ≤ 10000) :
    ∃ ds : List Int, m_law_draws [.int n, .lst (sizes.map .int)] = .ok (.lst (ds.map .int)) ∧ Fits ds sizes := by
  have hN : (if n < 0 then -n else n) = (n.natAbs : Int) := by split <;> omega
  obtain ⟨N, hNN⟩ : ∃ N : Nat, n.natAbs = N := ⟨_, rfl⟩
  rw [hNN] at hN hn
  have MBe : MB = 4000000 := rfl
  have key : ∀ r0 : Int, ∃ (r : Int) (ds : List Int) (a b : Option D), sLoop (gSet 5) l1_law_draws (rngL 0 sizes.length) [some (.int n), some (.lst (sizes.map .int)), some (.int N), some (.int r0), some (.lst []), none, none] = .ok (.nx [some (.int n), some (.lst (sizes.map .int)), some (.int N), some (.int r), some (.lst (ds.map .int)), a, b]) ∧ Fits ds sizes := by
    intro r0
    obtain ⟨ρ', h1, h2⟩ := loop_inv (T := gSet 5) (b := l1_law_draws) (fun k ρ => ∃ (r : Int) (ds : List Int) (a b : Option D), ρ = [some (.int n), some (.lst (sizes.map .int)), some (.int N), some (.int r), some (.lst (ds.map .int)), a, b] ∧ Fits ds (sizes.take k)) (rngL 0 sizes.length) 0 [some (.int n), some (.lst (sizes.map .int)), some (.int N), some (.int r0), some (.lst []), none, none]
      ⟨r0, [], none, none, rfl, trivial⟩ (by
      rintro j d ρ hj ⟨r, ds, a, b, rfl, hf⟩
      obtain ⟨hjl, rfl⟩ := rngL_get hj
      rw [Nat.zero_add] at hf
      have hd := hf.len
      rw [List.length_take] at hd
      have hlen : ds.length = j := by omega
      obtain ⟨s, hsj⟩ : ∃ s, sizes[j]? = some s := ⟨_, List.getElem?_eq_getElem hjl⟩
      obtain ⟨s0, s1⟩ := hs s (List.mem_of_getElem? hsj)
      rw [Int.zero_add]
      have ix : dIx (.lst (sizes.map .int)) (.int (j : Int)) = some (.int s) := dIx_l (by omega) (by
        rw [Int.toNat_natCast, List.getElem?_map, hsj]; rfl)
      have tk : sizes.take (0 + j + 1) = sizes.take j ++ [s] := by
        rw [Nat.zero_add, List.take_succ, hsj]; rfl
      have app : ∀ (ρ : Env) (x : Int), kApp 4 ρ (some (ds.map D.int)) (.ok (.int x)) = .ok (.nx (ρ.set 4 (some (.lst ((ds ++ [x]).map .int))))) := fun ρ x => by
        rw [kApp_ok (by rw [List.length_map, hlen]; have : LN = 1000000 := rfl; omega), List.map_append]; rfl
      by_cases hr : 0 < r
      · have dv : dDiv (.int r) (.int s) = some (.int (r / s)) := dDiv_i s0 s1
        exact ⟨_, _, rfl, by simp only [l1_law_draws, i2_law_draws]; simp [hr, ix, dMod_i s0, app, dv], r / s, ds ++ [r % s], some (.int j), b, rfl, by rw [tk]; exact hf.snoc (seedpos s0).1 (seedpos s0).2⟩
      · have m1 : dMul (.int N) (.int 48271) = some (.int (N * 48271)) := dMul_i (by
          have : (48271 : Int).natAbs.log2 ≤ 31 := log2_le (by decide)
          rw [Int.natAbs_natCast]
          omega)
        have m2 : dMul (.int 69621) (.int (j + 1)) = some (.int (69621 * (j + 1))) := mul_small (by decide) (by decide) (by omega) (by omega)
        have m4 : dMul (.int 40692) (.int (j + 3)) = some (.int (40692 * (j + 3))) := mul_small (by decide) (by decide) (by omega) (by omega)
        have m3 : ∀ x b : Int, 0 < b → b ≤ 4294967296 → dMul (.int (x % b)) (.int (x % b)) = some (.int (x % b * (x % b))) := fun x b hb hb2 => mul_small (seedpos hb).1 (by have := (seedpos (a := x) hb).2; omega) (seedpos hb).1 (by have := (seedpos (a := x) hb).2; omega)
        have md : ∀ x b : Int, 0 < b → dMod (.int x) (.int b) = some (.int (x % b)) := fun x b hb => dMod_i hb
        have dv : ∀ x : Int, dDiv (.int x) (.int 11) = some (.int (x / 11)) := fun x => dDiv_i (by decide) (by decide)
        obtain ⟨x1, h1⟩ : ∃ x, x = (N * 48271 + 69621 * ((j : Int) + 1)) % 2147483647 := ⟨_, rfl⟩
        obtain ⟨x2, h2⟩ : ∃ x, x = (x1 * x1 + 40692 * ((j : Int) + 3)) % 2147483399 := ⟨_, rfl⟩
        obtain ⟨x3, h3⟩ : ∃ x, x = (x2 * x2 + 16807) % 2147483563 := ⟨_, rfl⟩
        have q1 : dMul (.int x1) (.int x1) = some (.int (x1 * x1)) := by rw [h1]; exact m3 _ _ (by decide) (by decide)
        have q2 : dMul (.int x2) (.int x2) = some (.int (x2 * x2)) := by rw [h2]; exact m3 _ _ (by decide) (by decide)
        exact ⟨_, _, rfl, by simp only [l1_law_draws, i2_law_draws]; simp [hr, ix, md, app, dv, m1, m2, m4, ← h1, q1, ← h2, q2, ← h3, s0], r, ds ++ [x3 / 11 % s], some (.int j), some (.int x3), rfl, by rw [tk]; exact hf.snoc (seedpos s0).1 (seedpos s0).2⟩)
    rw [rngL_length, Nat.zero_add, List.take_length] at h2
    obtain ⟨r, ds, a, b, rfl, hf⟩ := h2
    exact ⟨r, ds, a, b, h1, hf⟩
  have hlen : gR1 [.int sizes.length] = some (rngL 0 sizes.length) := gR1_ok (by have : LR = 1000000000 := rfl; omega) (by have : LR = 1000000000 := rfl; omega)
  have pw : dPow (.int 10) (.int 18) = some (.int 1000000000000000000) := (dPow_i (by decide)).trans (by rw [show ((10 : Int) ^ (18 : Int).toNat) = 1000000000000000000 by decide])
  have em : dLst [] = some (.lst []) := rfl
  by_cases hb : (N : Int) < 1000000000000000000
  · obtain ⟨r, ds, a, b, e, hf⟩ := key 0
    have lt : dLt (.int N) (.int 1000000000000000000) = some (.bl true) := by rw [dLt_i, decide_eq_true hb]
    exact ⟨ds, by simp [m_law_draws, mFn_eq, b_law_draws, i1_law_draws, List.replicate, hN, pw, lt, -dLt_i, em, hlen, e], hf⟩
  · obtain ⟨r, ds, a, b, e, hf⟩ := key N
    have lt : dLt (.int N) (.int 1000000000000000000) = some (.bl false) := by rw [dLt_i, decide_eq_false hb]
    exact ⟨ds, by simp [m_law_draws, mFn_eq, b_law_draws, i1_law_draws, List.replicate, hN, pw, lt, -dLt_i, em, hlen, e], hf⟩
theorem draws_ok (n : Int) (sizes : List Int) (hn : n.natAbs.log2 ≤ 2000000) (hs : ∀ s ∈ sizes, 0 < s ∧ s < 1000000000) (hl : sizes.length ≤ 10000) :
    ∃ ds : List Int, m_law_draws [.int n, .lst (sizes.map .int)] = .ok (.lst (ds.map .int)) ∧ Fits ds sizes :=
  draws_okW n sizes hn (fun s m => ⟨(hs s m).1, by have := hs s m; have : s.natAbs.log2 ≤ 63 := log2_le (by omega); omega⟩) hl
end PM
set_option linter.all false
set_option maxRecDepth 100000
set_option maxHeartbeats 1000000
namespace PM
open PD
theorem hd_small : ∀ s ∈ ([10, 64, 26, 4, 6, 8, 12] : List Int), 0 < s ∧ s < 1000000000 := by decide
theorem LNe : LN = 1000000 := rfl
theorem LRe : LR = 1000000000 := rfl
theorem fits7 {ds : List Int} {a b c d e f g : Int} (h : Fits ds [a, b, c, d, e, f, g]) : ∃ x0 x1 x2 x3 x4 x5 x6, ds = [x0, x1, x2, x3, x4, x5, x6] ∧ (0 ≤ x0 ∧ x0 < a) ∧ (0 ≤ x1 ∧ x1 < b) ∧ (0 ≤ x2 ∧ x2 < c) ∧ (0 ≤ x3 ∧ x3 < d) ∧ (0 ≤ x4 ∧ x4 < e) ∧ (0 ≤ x5 ∧ x5 < f) ∧ (0 ≤ x6 ∧ x6 < g) := by
  match ds, h with
  | [x0, x1, x2, x3, x4, x5, x6], ⟨h0, h1, h2, h3, h4, h5, h6, _⟩ => exact ⟨_, _, _, _, _, _, _, rfl, h0, h1, h2, h3, h4, h5, h6⟩
/-- integers that a comprehension over integers makes -/
theorem lc_ints {ft : Env → R Bool} {fe : Env → R D} {ρ : Env} {i : Nat} (P : Int → Prop) {xs : List Int} (h : ∀ x ∈ xs, ft (ρ.set i (some (.int x))) = .ok true ∧ ∃ y, fe (ρ.set i (some (.int x))) = .ok (.int y) ∧ P y) :
    ∃ ys : List Int, lcGo (gSet i) ft fe ρ (xs.map .int) = .ok (ys.map .int) ∧ ys.length = xs.length ∧ ∀ y ∈ ys, P y := by
  obtain ⟨ys, e, l, p⟩ := lc_all (T := gSet i) (ft := ft) (fe := fe) (ρ := ρ) D.int P (ds := xs.map .int) fun d m => by
    obtain ⟨x, mx, rfl⟩ := List.mem_map.mp m
    obtain ⟨h1, y, h2, h3⟩ := h x mx
    exact ⟨_, y, rfl, h1, h2, h3⟩
  exact ⟨ys, e, by rw [l, List.length_map], p⟩
noncomputable abbrev Sml (vs : List Int) : Prop := ∀ v ∈ vs, 0 ≤ v ∧ v < 1000
section
variable {o1 o2 o9 o10 o11 o12 o13 o14 : Option D} {n sz : Int} {x0 x1 x2 x3 x4 x5 x6 : Int} {st mn : Int} {vals : List Int}
/-- the environment of the text's maker -/
noncomputable abbrev envT (n most : Int) (hd : D) (told : List Int) (sz fi st mn : Int) (v : Option D) (o9 o10 o11 o12 o13 o14 : Option D) : Env :=
  [some (.int n), some (.int most), some hd, some (.lst (told.map .int)), some (.int sz), some (.int fi), some (.int st), some (.int mn), v, o9, o10, o11, o12, o13, o14]
noncomputable abbrev hdT : D := .lst [.int 10, .int 64, .int 26, .int 4, .int 6, .int 8, .int 12]
variable {most fi : Int} {told : List Int}
theorem c1_ok (hn : n.natAbs.log2 ≤ 2000000) (h1 : 1 ≤ sz) (h2 : sz ≤ 1000) (hm : 0 < mn) (hm2 : mn ≤ 100) {v : Option D} : ∃ vals : List Int, c1_law_text (envT n most hdT told sz fi st mn v o9 o10 o11 o12 o13 o14) = .ok (.lst (vals.map .int)) ∧ (vals.length : Int) = sz ∧ Sml vals := by
  obtain ⟨k, rfl⟩ : ∃ k : Nat, sz = k := ⟨sz.toNat, by omega⟩
  obtain ⟨ds, e, hf⟩ := draws_ok n (([10, 64, 26, 4, 6, 8, 12] : List Int) ++ List.replicate k 26) hn (by
    intro s m
    rcases List.mem_append.mp m with m | m
    · exact hd_small s m
    · rw [(List.mem_replicate.mp m).2]; decide) (by simp; omega)
  have hl := hf.len
  have mu : dMul (.lst [.int 26]) (.int (k : Int)) = some (.lst (List.replicate k (.int 26))) := by
    show (if _ then _ else _) = _
    rw [if_pos (by rw [LNe]; simp; omega)]
    simp
  have ad : dAdd hdT (.lst (List.replicate k (.int 26))) = some (.lst (.int 10 :: .int 64 :: .int 26 :: .int 4 :: .int 6 :: .int 8 :: .int 12 :: List.replicate k (.int 26))) := by
    rw [dAdd_l (by rw [LNe]; simp; omega)]
    rfl
  simp only [List.map_append, List.map_cons, List.map_nil, List.map_replicate, List.cons_append, List.nil_append] at e
  obtain ⟨vals, e2, l2, pv⟩ := lc_ints (ft := mYes) (fe := m2 dMod (mN dInt1 (mCons (mV 13) mNil)) (mV 7)) (ρ := envT n most hdT told k fi st mn v o9 o10 o11 o12 none o14) (i := 13) (fun v => 0 ≤ v ∧ v < 1000) (xs := ds.drop 7) fun x _ => ⟨rfl, x % mn, by simp [dMod_i hm], (seedpos hm).1, by have := (seedpos (a := x) hm).2; omega⟩
  rw [List.length_drop, hl, List.length_append, List.length_replicate] at l2
  have l3 : vals.length = k := by simpa using l2
  refine ⟨vals, ?_, by rw [l3], pv⟩
  have cut : cutG (ds.map D.int) (some 7) none = (ds.drop 7).map .int := by rw [cut_from (by decide), List.map_drop]; rfl
  have l1' : dLst [.int 26] = some (.lst [.int 26]) := dLst_ok (by decide)
  simp only [c1_law_text]
  simp only [List.map_drop] at e2
  simp [l1', mu, ad, e, cut, e2, kLn_ok, l3, show k ≤ LN by rw [LNe]; omega]
theorem c2_ok {per : Int} (h1 : 1 ≤ sz) (h2 : sz ≤ 1000) (hp : 0 < per) (hv : (vals.length : Int) = sz) (pv : Sml vals) : ∃ vs : List Int, c2_law_text (envT n most hdT told sz fi st mn (some (.lst (vals.map .int))) (some (.int per)) o10 o11 o12 o13 o14) = .ok (.lst (vs.map .int)) ∧ (vs.length : Int) = sz ∧ Sml vs := by
  obtain ⟨k, rfl⟩ : ∃ k : Nat, sz = k := ⟨sz.toNat, by omega⟩
  have pm : 0 < (if (k : Int) < per then (k : Int) else per) := by split <;> omega
  obtain ⟨vs, e2, l2, pv2⟩ := lc_ints (ft := mYes) (fe := m2 dIx (mV 8) (m2 dMod (mN dInt1 (mCons (mV 12) mNil)) (mN dMin2 (mCons (mV 9) (mCons (mV 4) mNil))))) (ρ := envT n most hdT told k fi st mn (some (.lst (vals.map .int))) (some (.int per)) o10 o11 none o13 o14) (i := 12) (fun v => 0 ≤ v ∧ v < 1000) (xs := (List.range k).map fun i : Nat => (i : Int)) fun x _ => by
    have q := seedpos (a := x) pm
    obtain ⟨v, hv, mv, _⟩ := ix_mem (xs := vals) (i := x % (if (k : Int) < per then (k : Int) else per)) q.1 (by
      have : (if (k : Int) < per then (k : Int) else per) ≤ k := by split <;> omega
      omega)
    exact ⟨rfl, v, by simp [dMod_i pm, hv], pv v mv⟩
  rw [List.length_map, List.length_range] at l2
  refine ⟨vs, ?_, by omega, pv2⟩
  have gr : gR1 [.int (k : Int)] = some (rngL 0 k) := gR1_ok (by rw [LRe]; omega) (by rw [LRe]; omega)
  simp only [c2_law_text]
  simp only [rngL0] at gr
  simp [gr, -List.map_map, e2, kLn_ok, l2, show k ≤ LN by rw [LNe]; omega]
theorem c3_ok (h1 : 1 ≤ sz) (h2 : sz ≤ 1000) {v : Option D} : ∃ vs : List Int, c3_law_text (envT n most hdT [x0, x1, x2, x3, x4, x5, x6] sz fi st mn v o9 o10 o11 o12 o13 o14) = .ok (.lst (vs.map .int)) ∧ (vs.length : Int) = sz ∧ Sml vs := by
  obtain ⟨k, rfl⟩ : ∃ k : Nat, sz = k := ⟨sz.toNat, by omega⟩
  have dv : dDiv (.int x1) (.int 2) = some (.int (x1 / 2)) := dDiv_i (by decide) (by decide)
  obtain ⟨vs, e2, l2, pv2⟩ := lc_ints (ft := mYes) (fe := mN dInt1 (mCons (m2 dEq (mV 12) (m2 dDiv (m2 dIx (mV 3) (mC (.int 1))) (mC (.int 2)))) mNil)) (ρ := envT n most hdT [x0, x1, x2, x3, x4, x5, x6] k fi st mn v o9 o10 o11 none o13 o14) (i := 12) (fun v => 0 ≤ v ∧ v < 1000) (xs := (List.range k).map fun i : Nat => (i : Int)) fun x _ => ⟨rfl, if (x == x1 / 2) = true then 1 else 0, by simp [dv], by split <;> omega⟩
  rw [List.length_map, List.length_range] at l2
  refine ⟨vs, ?_, by omega, pv2⟩
  have gr : gR1 [.int (k : Int)] = some (rngL 0 k) := gR1_ok (by rw [LRe]; omega) (by rw [LRe]; omega)
  simp only [c3_law_text]
  simp only [envT, List.map_cons, List.map_nil] at e2
  simp only [rngL0] at gr
  simp [gr, -List.map_map, e2, kLn_ok, l2, show k ≤ LN by rw [LNe]; omega]
/-- the three ways to change the values -/
theorem i1_ok (h1 : 1 ≤ sz) (h2 : sz ≤ 1000) (hv : (vals.length : Int) = sz) (pv : Sml vals) (h6 : 0 ≤ x6) : ∃ (vs : List Int) (o : Option D) (q : Option D), i1_law_text (envT n most hdT [x0, x1, x2, x3, x4, x5, x6] sz fi st mn (some (.lst (vals.map .int))) o9 o10 o11 o12 o13 o14) = .ok (.nx (envT n most hdT [x0, x1, x2, x3, x4, x5, x6] sz fi st mn (some (.lst (vs.map .int))) o o10 o11 o12 o13 o14)) ∧ (vs.length : Int) = sz ∧ Sml vs := by
  have dv : dDiv (.int x6) (.int 2) = some (.int (x6 / 2)) := dDiv_i (by decide) (by decide)
  obtain ⟨vs, e, l⟩ := c2_ok (n := n) (told := [x0, x1, x2, x3, x4, x5, x6]) (most := most) (fi := fi) (st := st) (mn := mn) (o10 := o10) (o11 := o11) (o12 := o12) (o13 := o13) (o14 := o14) (per := 1 + x6 / 2) h1 h2 (by omega) hv pv
  simp only [envT, List.map_cons, List.map_nil] at e
  by_cases a : x5 = 3
  · exact ⟨vs, some (.int (1 + x6 / 2)), none, by simp [i1_law_text, envT, beq_t a, dv, e], l⟩
  · by_cases b : x5 = 4
    · exact ⟨vs, some (.int (1 + x6 / 2)), none, by simp [i1_law_text, envT, beq_f a, beq_t b, dv, e], l⟩
    · exact ⟨vals, o9, none, by simp [i1_law_text, envT, beq_f a, beq_f b], hv, pv⟩
theorem i2_ok (h1 : 1 ≤ sz) (h2 : sz ≤ 1000) (hv : (vals.length : Int) = sz) (pv : Sml vals) : ∃ (vs : List Int), i2_law_text (envT n most hdT [x0, x1, x2, x3, x4, x5, x6] sz fi st mn (some (.lst (vals.map .int))) o9 o10 o11 o12 o13 o14) = .ok (.nx (envT n most hdT [x0, x1, x2, x3, x4, x5, x6] sz fi st mn (some (.lst (vs.map .int))) o9 o10 o11 o12 o13 o14)) ∧ (vs.length : Int) = sz ∧ Sml vs := by
  obtain ⟨vs, e, l⟩ := c3_ok (n := n) (x0 := x0) (x1 := x1) (x2 := x2) (x3 := x3) (x4 := x4) (x5 := x5) (x6 := x6) (most := most) (fi := fi) (st := st) (mn := mn) (o9 := o9) (o10 := o10) (o11 := o11) (o12 := o12) (o13 := o13) (o14 := o14) (v := some (.lst (vals.map .int))) h1 h2
  simp only [envT, List.map_cons, List.map_nil] at e
  by_cases a : x5 = 5
  · exact ⟨vs, by simp [i2_law_text, envT, beq_t a, e], l⟩
  · exact ⟨vals, by simp [i2_law_text, envT, beq_f a], hv, pv⟩
theorem l1_ok (h1 : 1 ≤ sz) (h2 : sz ≤ 1000) {sh lg : List Int} (psh : Sml sh) (plg : Sml lg) (hs : sh.length ≤ lg.length) (hl : (lg.length : Int) ≤ 2 * sz + 2) (hp : 1 ≤ lg.length) {v : Option D} : ∃ (sh' lg' : List Int) (o14' : Option D), l1_law_text (envT n most hdT told sz fi st mn v o9 (some (.lst (sh.map .int))) (some (.lst (lg.map .int))) o12 o13 o14) = .ok (.nx (envT n most hdT told sz fi st mn v o9 (some (.lst (sh'.map .int))) (some (.lst (lg'.map .int))) o12 o13 o14')) ∧ sh'.length ≤ lg'.length ∧ (lg'.length : Int) ≤ 2 * sz + 2 ∧ 1 ≤ lg'.length ∧ Sml sh' ∧ Sml lg' := by
  by_cases c : (lg.length : Int) < sz
  · refine ⟨lg, lg ++ sh, some (.lst ((lg ++ sh).map .int)), ?_, by simp, by rw [List.length_append]; omega, by rw [List.length_append]; omega, plg, fun v m => (List.mem_append.mp m).elim (plg v) (psh v)⟩
    have ad : dAdd (.lst (lg.map .int)) (.lst (sh.map .int)) = some (.lst ((lg ++ sh).map .int)) := by
      rw [dAdd_l (by rw [LNe]; simp; omega), List.map_append]
    simp [l1_law_text, i3_law_text, c, ad]
  · exact ⟨sh, lg, o14, by simp [l1_law_text, i3_law_text, c], hs, hl, hp, psh, plg⟩
theorem i4_ok (h1 : 1 ≤ sz) (h2 : sz ≤ 1000) (hv : (vals.length : Int) = sz) (pv : Sml vals) : ∃ (vs : List Int) (a10 a11 a12 a14 : Option D), i4_law_text (envT n most hdT [x0, x1, x2, x3, x4, x5, x6] sz fi st mn (some (.lst (vals.map .int))) o9 o10 o11 o12 o13 o14) = .ok (.nx (envT n most hdT [x0, x1, x2, x3, x4, x5, x6] sz fi st mn (some (.lst (vs.map .int))) o9 a10 a11 a12 o13 a14)) ∧ 1 ≤ vs.length ∧ (vs.length : Int) ≤ sz ∧ Sml vs := by
  by_cases a : x5 = 6
  · obtain ⟨ρ', e, sh, lg, a12, a14, rfl, q1, q2, q3, q4, q5⟩ := loop_inv (T := gSet 12) (b := l1_law_text) (fun _ ρ => ∃ (sh lg : List Int) (a12 a14 : Option D), ρ = envT n most hdT [x0, x1, x2, x3, x4, x5, x6] sz fi st mn (some (.lst (vals.map .int))) o9 (some (.lst (sh.map .int))) (some (.lst (lg.map .int))) a12 o13 a14 ∧ sh.length ≤ lg.length ∧ (lg.length : Int) ≤ 2 * sz + 2 ∧ 1 ≤ lg.length ∧ Sml sh ∧ Sml lg)
      (rngL 0 8) 0 (envT n most hdT [x0, x1, x2, x3, x4, x5, x6] sz fi st mn (some (.lst (vals.map .int))) o9 (some (.lst ([0].map .int))) (some (.lst ([0, 1].map .int))) o12 o13 o14) ⟨[0], [0, 1], o12, o14, rfl, by decide, by simp; omega, by decide, by decide, by decide⟩ (by
        rintro j d ρ hj ⟨sh, lg, a12, a14, rfl, q1, q2, q3, q4, q5⟩
        obtain ⟨sh', lg', o14', e, p1, p2, p3, p4, p5⟩ := l1_ok (n := n) (told := [x0, x1, x2, x3, x4, x5, x6]) (most := most) (fi := fi) (st := st) (mn := mn) (o9 := o9) (o12 := some d) (o13 := o13) (o14 := a14) (v := some (.lst (vals.map .int))) h1 h2 q4 q5 q1 q2 q3
        exact ⟨_, _, rfl, e, sh', lg', some d, o14', rfl, p1, p2, p3, p4, p5⟩)
    have gr : gR1 [.int 8] = some (rngL 0 8) := gR1_ok (by decide) (by decide)
    have d1 : dLst [.int 0] = some (.lst [.int 0]) := dLst_ok (by decide)
    have d2 : dLst [.int 0, .int 1] = some (.lst [.int 0, .int 1]) := dLst_ok (by decide)
    have cut : cutG (lg.map D.int) none (some sz) = (lg.take sz.toNat).map .int := by rw [cut_to (by omega), List.map_take]
    refine ⟨lg.take sz.toNat, some (.lst (sh.map .int)), some (.lst (lg.map .int)), a12, a14, ?_, by rw [List.length_take]; omega, by rw [List.length_take]; omega, fun v m => q5 v (List.mem_of_mem_take m)⟩
    simp only [envT, List.map_cons, List.map_nil] at e
    simp [i4_law_text, envT, beq_t a, gr, d1, d2, e, cut]
  · exact ⟨vals, o10, o11, o12, o14, by simp [i4_law_text, envT, beq_f a], by omega, by omega, pv⟩
theorem c4_ok {o : Option D} (hl : vals.length ≤ 1000) (pv : Sml vals) (hst : 0 ≤ st ∧ st < 100) : ∃ cs : List Nat, c4_law_text (envT n most hdT told sz fi st mn (some (.lst (vals.map .int))) o9 o10 o11 o12 o13 o14) = .ok (.lst (cs.map fun c => .str [c])) ∧ cs.length = vals.length ∧ ∀ c ∈ cs, 97 ≤ c ∧ c ≤ 122 := by
  obtain ⟨cs, e, l, p⟩ := lc_all (T := gSet 13) (ft := mYes) (fe := mCall 1 m_law_letter (mCons (m2 dAdd (mV 5) (m2 dMul (mV 6) (mV 13))) mNil)) (ρ := envT n most hdT told sz fi st mn (some (.lst (vals.map .int))) o9 o10 o11 o12 none o14) (fun c : Nat => D.str [c]) (fun c => 97 ≤ c ∧ c ≤ 122) (ds := vals.map .int) (fun d m => by
    obtain ⟨v, mv, rfl⟩ := List.mem_map.mp m
    obtain ⟨c, ec, hc⟩ := letter_ok (fi + st * v)
    have q := pv v mv
    have mu : dMul (.int st) (.int v) = some (.int (st * v)) := mul_small hst.1 (by omega) q.1 (by omega)
    exact ⟨_, c, rfl, rfl, by simp [mu, ec], hc⟩)
  rw [List.length_map] at l
  refine ⟨cs, ?_, l, p⟩
  simp only [envT] at e
  simp [c4_law_text, envT, e, kLn_ok, l, show vals.length ≤ LN by rw [LNe]; omega]
/-- the law's text: 1 to most lowercase letters -/
theorem text_ok (n most : Int) (hn : n.natAbs.log2 ≤ 2000000) (h1 : 1 ≤ most) (h2 : most ≤ 1000) : ∃ s : List Nat, m_law_text [.int n, .int most] = .ok (.str s) ∧ 1 ≤ s.length ∧ (s.length : Int) ≤ most ∧ ∀ c ∈ s, 97 ≤ c ∧ c ≤ 122 := by
  obtain ⟨told, et, hf⟩ := draws_ok n [10, 64, 26, 4, 6, 8, 12] hn hd_small (by decide)
  obtain ⟨x0, x1, x2, x3, x4, x5, x6, rfl, b0, b1, b2, b3, b4, b5, b6⟩ := fits7 hf
  obtain ⟨sz, es, s1, s2⟩ := size_ok x0 x1 most (by omega)
  obtain ⟨st, est, mst, _⟩ := ix_mem (xs := [1, 3, 7, 11]) b3.1 b3.2
  obtain ⟨mn, emn, mmn, _⟩ := ix_mem (xs := [2, 2, 1, 3, 4, 26]) b4.1 b4.2
  have hmn : 0 < mn ∧ mn ≤ 100 := (show ∀ v ∈ ([2, 2, 1, 3, 4, 26] : List Int), 0 < v ∧ v ≤ 100 by decide) mn mmn
  have hst : 0 ≤ st ∧ st < 100 := (show ∀ v ∈ ([1, 3, 7, 11] : List Int), 0 ≤ v ∧ v < 100 by decide) st mst
  obtain ⟨v1, e1, l1, p1⟩ := c1_ok (n := n) (told := [x0, x1, x2, x3, x4, x5, x6]) (most := most) (fi := x2) (st := st) (mn := mn) (o9 := none) (o10 := none) (o11 := none) (o12 := none) (o13 := none) (o14 := none) (v := none) hn s1 (by omega) hmn.1 hmn.2
  obtain ⟨v2, o9, _, e2, l2, p2⟩ := i1_ok (n := n) (x0 := x0) (x1 := x1) (x2 := x2) (x3 := x3) (x4 := x4) (x5 := x5) (x6 := x6) (most := most) (fi := x2) (st := st) (mn := mn) (o9 := none) (o10 := none) (o11 := none) (o12 := none) (o13 := none) (o14 := none) s1 (by omega) l1 p1 b6.1
  obtain ⟨v3, e3, l3, p3⟩ := i2_ok (n := n) (x0 := x0) (x1 := x1) (x2 := x2) (x3 := x3) (x4 := x4) (x5 := x5) (x6 := x6) (most := most) (fi := x2) (st := st) (mn := mn) (o9 := o9) (o10 := none) (o11 := none) (o12 := none) (o13 := none) (o14 := none) s1 (by omega) l2 p2
  obtain ⟨v4, a10, a11, a12, a14, e4, l4, l5, p4⟩ := i4_ok (n := n) (x0 := x0) (x1 := x1) (x2 := x2) (x3 := x3) (x4 := x4) (x5 := x5) (x6 := x6) (most := most) (fi := x2) (st := st) (mn := mn) (o9 := o9) (o10 := none) (o11 := none) (o12 := none) (o13 := none) (o14 := none) s1 (by omega) l3 p3
  obtain ⟨cs, e5, l6, p⟩ := c4_ok (n := n) (told := [x0, x1, x2, x3, x4, x5, x6]) (sz := sz) (most := most) (fi := x2) (st := st) (mn := mn) (o9 := o9) (o10 := a10) (o11 := a11) (o12 := a12) (o13 := none) (o14 := a14) (vals := v4) (o := none) (by omega) p4 hst
  refine ⟨cs, ?_, by omega, by omega, p⟩
  have d1 : dLst [.int 10, .int 64, .int 26, .int 4, .int 6, .int 8, .int 12] = some (.lst [.int 10, .int 64, .int 26, .int 4, .int 6, .int 8, .int 12]) := dLst_ok (by rw [LNe]; decide)
  have d2 : dLst [.int 1, .int 3, .int 7, .int 11] = some (.lst [.int 1, .int 3, .int 7, .int 11]) := dLst_ok (by rw [LNe]; decide)
  have d3 : dLst [.int 2, .int 2, .int 1, .int 3, .int 4, .int 26] = some (.lst [.int 2, .int 2, .int 1, .int 3, .int 4, .int 26]) := dLst_ok (by rw [LNe]; decide)
  have jn := dJoin_one (cs := cs) (by rw [LNe]; omega)
  simp only [envT, List.map_cons, List.map_nil] at et est emn e1 e2 e3 e4 e5
  simp [m_law_text, mFn_eq, b_law_text, List.replicate, d1, d2, d3, et, es, est, emn, e1, e2, e3, e4, e5, jn]
end
end PM
set_option linter.all false
set_option maxRecDepth 100000
set_option maxHeartbeats 1000000
namespace PM
open PD
/-- 1 to 128 lowercase letters -/
noncomputable def IsText (s : List Nat) : Prop := (1 ≤ s.length ∧ s.length ≤ 128) ∧ ∀ c ∈ s, 97 ≤ c ∧ c ≤ 122
theorem letter_mem {c : Nat} (h : 97 ≤ c ∧ c ≤ 122) : c ∈ zc3fcd3d7 := by
  obtain ⟨k, rfl⟩ : ∃ k, c = 97 + k := ⟨c - 97, by omega⟩
  have : k < 26 := by omega
  clear h
  revert k
  decide
theorem is_text_ok {s : List Nat} (h : IsText s) : m_is_text [.str s] = .ok (.bl true) := by
  have l := dLen_s (s := s) (by rw [LNe]; have := h.1.2; omega)
  have a1 : decide ((1 : Int) ≤ s.length) = true := decide_eq_true (by have := h.1.1; omega)
  have a2 : decide ((s.length : Int) ≤ 128) = true := decide_eq_true (by have := h.1.2; omega)
  have a3 : s.all (fun c => decide (c ∈ zc3fcd3d7)) = true := by
    rw [List.all_eq_true]
    exact fun c m => decide_eq_true (letter_mem (h.2 c m))
  simp only [m_is_text, mFn_eq, b_is_text]
  simp [List.replicate, l, a1, a2, a3, -decide_eq_true_eq, -List.all_eq_true]
theorem check_ok {s : List Nat} (h : IsText s) : m_check_text [.str s] = .ok (.str s) := by
  simp [m_check_text, mFn_eq, b_check_text, i1_check_text, is_text_ok h]
/-- what _law_same compares within n steps -/
noncomputable def okS : Nat → D → Prop
  | 0, _ => False
  | _ + 1, .non => True
  | _ + 1, .bl _ => True
  | _ + 1, .int _ => True
  | _ + 1, .str _ => True
  | n + 1, .lst xs => xs.length ≤ 1000000 ∧ ∀ x ∈ xs, okS n x
  | n + 1, .tup xs => xs.length ≤ 1000000 ∧ ∀ x ∈ xs, okS n x
  | _ + 1, .scr _ => False
  | _ + 1, .rng _ _ => False
  | _ + 1, .obj _ _ _ => False
  | _ + 1, .dic _ _ => False
  | _ + 1, .dct _ _ => False
@[simp] theorem isi_1 {n : Int} : isiB "int" (.int n) = true := by show (("int" == "int") || ("int" == "int" && "int" == "bool")) = _; decide
@[simp] theorem isi_2 {n : Int} : isiB "bool" (.int n) = false := by show (("int" == "bool") || ("bool" == "int" && "int" == "bool")) = _; decide
@[simp] theorem isi_3 {n : Int} : isiB "str" (.int n) = false := by show (("int" == "str") || ("str" == "int" && "int" == "bool")) = _; decide
@[simp] theorem isi_4 {n : Int} : isiB "list" (.int n) = false := by show (("int" == "list") || ("list" == "int" && "int" == "bool")) = _; decide
@[simp] theorem isi_5 {n : Int} : isiB "tuple" (.int n) = false := by show (("int" == "tuple") || ("tuple" == "int" && "int" == "bool")) = _; decide
@[simp] theorem isb_1 {b : Bool} : isiB "int" (.bl b) = true := by show (("bool" == "int") || ("int" == "int" && "bool" == "bool")) = _; decide
@[simp] theorem isb_2 {b : Bool} : isiB "bool" (.bl b) = true := by show (("bool" == "bool") || ("bool" == "int" && "bool" == "bool")) = _; decide
@[simp] theorem isb_3 {b : Bool} : isiB "str" (.bl b) = false := by show (("bool" == "str") || ("str" == "int" && "bool" == "bool")) = _; decide
@[simp] theorem isb_4 {b : Bool} : isiB "list" (.bl b) = false := by show (("bool" == "list") || ("list" == "int" && "bool" == "bool")) = _; decide
@[simp] theorem isb_5 {b : Bool} : isiB "tuple" (.bl b) = false := by show (("bool" == "tuple") || ("tuple" == "int" && "bool" == "bool")) = _; decide
@[simp] theorem iss_1 {s : List Nat} : isiB "int" (.str s) = false := by show (("str" == "int") || ("int" == "int" && "str" == "bool")) = _; decide
@[simp] theorem iss_2 {s : List Nat} : isiB "bool" (.str s) = false := by show (("str" == "bool") || ("bool" == "int" && "str" == "bool")) = _; decide
@[simp] theorem iss_3 {s : List Nat} : isiB "str" (.str s) = true := by show (("str" == "str") || ("str" == "int" && "str" == "bool")) = _; decide
@[simp] theorem iss_4 {s : List Nat} : isiB "list" (.str s) = false := by show (("str" == "list") || ("list" == "int" && "str" == "bool")) = _; decide
@[simp] theorem iss_5 {s : List Nat} : isiB "tuple" (.str s) = false := by show (("str" == "tuple") || ("tuple" == "int" && "str" == "bool")) = _; decide
@[simp] theorem isl_1 {s : List D} : isiB "int" (.lst s) = false := by show (("list" == "int") || ("int" == "int" && "list" == "bool")) = _; decide
@[simp] theorem isl_2 {s : List D} : isiB "bool" (.lst s) = false := by show (("list" == "bool") || ("bool" == "int" && "list" == "bool")) = _; decide
@[simp] theorem isl_3 {s : List D} : isiB "str" (.lst s) = false := by show (("list" == "str") || ("str" == "int" && "list" == "bool")) = _; decide
@[simp] theorem isl_4 {s : List D} : isiB "list" (.lst s) = true := by show (("list" == "list") || ("list" == "int" && "list" == "bool")) = _; decide
@[simp] theorem isl_5 {s : List D} : isiB "tuple" (.lst s) = false := by show (("list" == "tuple") || ("tuple" == "int" && "list" == "bool")) = _; decide
@[simp] theorem ist_1 {s : List D} : isiB "int" (.tup s) = false := by show (("tuple" == "int") || ("int" == "int" && "tuple" == "bool")) = _; decide
@[simp] theorem ist_2 {s : List D} : isiB "bool" (.tup s) = false := by show (("tuple" == "bool") || ("bool" == "int" && "tuple" == "bool")) = _; decide
@[simp] theorem ist_3 {s : List D} : isiB "str" (.tup s) = false := by show (("tuple" == "str") || ("str" == "int" && "tuple" == "bool")) = _; decide
@[simp] theorem ist_4 {s : List D} : isiB "list" (.tup s) = false := by show (("tuple" == "list") || ("list" == "int" && "tuple" == "bool")) = _; decide
@[simp] theorem ist_5 {s : List D} : isiB "tuple" (.tup s) = true := by show (("tuple" == "tuple") || ("tuple" == "int" && "tuple" == "bool")) = _; decide
@[simp] theorem isn_1 : isiB "int" .non = false := by show (("NoneType" == "int") || ("int" == "int" && "NoneType" == "bool")) = _; decide
@[simp] theorem isn_2 : isiB "bool" .non = false := by show (("NoneType" == "bool") || ("bool" == "int" && "NoneType" == "bool")) = _; decide
@[simp] theorem isn_3 : isiB "str" .non = false := by show (("NoneType" == "str") || ("str" == "int" && "NoneType" == "bool")) = _; decide
@[simp] theorem isn_4 : isiB "list" .non = false := by show (("NoneType" == "list") || ("list" == "int" && "NoneType" == "bool")) = _; decide
@[simp] theorem isn_5 : isiB "tuple" .non = false := by show (("NoneType" == "tuple") || ("tuple" == "int" && "NoneType" == "bool")) = _; decide
theorem same_loop {n : Nat} {d : D} {xs : List D} (ih : ∀ x ∈ xs, m_law_same n [x, x] = .ok (.bl true)) (hx : ∀ (i : Int) (x : D), 0 ≤ i → xs[i.toNat]? = some x → dIx d (.int i) = some x) :
    ∃ o, sLoop (gSet 2) (l1_law_same (m_law_same n)) (rngL 0 xs.length) [some d, some d, none] = .ok (.nx [some d, some d, o]) := by
  obtain ⟨ρ', e, o, rfl⟩ := loop_inv (T := gSet 2) (b := l1_law_same (m_law_same n)) (fun _ ρ => ∃ o, ρ = [some d, some d, o]) (rngL 0 xs.length) 0 [some d, some d, none] ⟨none, rfl⟩ (by
    rintro j y ρ hj ⟨o, rfl⟩
    obtain ⟨hl, rfl⟩ := rngL_get hj
    rw [Int.zero_add]
    obtain ⟨x, hxj⟩ : ∃ x, xs[j]? = some x := ⟨_, List.getElem?_eq_getElem hl⟩
    have e1 := hx j x (by omega) (by rw [Int.toNat_natCast]; exact hxj)
    have e2 := ih x (List.mem_of_getElem? hxj)
    exact ⟨_, _, rfl, by simp [l1_law_same, i8_law_same, e1, e2], some (.int j), rfl⟩)
  exact ⟨o, e⟩
theorem same_ok : ∀ (n : Nat) (d : D), okS n d → m_law_same n [d, d] = .ok (.bl true)
  | 0, _, h => h.elim
  | n + 1, .non, _ => by simp [m_law_same, mFn_eq, b_law_same, i1_law_same]
  | n + 1, .bl b, _ => by simp [m_law_same, mFn_eq, b_law_same, i1_law_same, i2_law_same]
  | n + 1, .int i, _ => by simp [m_law_same, mFn_eq, b_law_same, i1_law_same, i2_law_same, i3_law_same, m_law_is_int, b_law_is_int]
  | n + 1, .str s, _ => by simp [m_law_same, mFn_eq, b_law_same, i1_law_same, i2_law_same, i3_law_same, i4_law_same]
  | n + 1, .lst xs, ⟨hl, hx⟩ => by
    obtain ⟨o, e⟩ := same_loop (n := n) (d := .lst xs) (xs := xs) (fun x m => same_ok n x (hx x m)) fun i x h0 h => dIx_l h0 h
    have g := gR1_ok (j := (xs.length : Int)) (by rw [LRe]; omega) (by rw [LRe]; omega)
    rw [Int.toNat_natCast] at g
    simp [m_law_same, mFn_eq, b_law_same, i1_law_same, i2_law_same, i3_law_same, i4_law_same, i5_law_same, i6_law_same, i7_law_same, g, e]
  | n + 1, .tup xs, ⟨hl, hx⟩ => by
    obtain ⟨o, e⟩ := same_loop (n := n) (d := .tup xs) (xs := xs) (fun x m => same_ok n x (hx x m)) fun i x h0 h => dIx_t h0 h
    have g := gR1_ok (j := (xs.length : Int)) (by rw [LRe]; omega) (by rw [LRe]; omega)
    rw [Int.toNat_natCast] at g
    simp [m_law_same, mFn_eq, b_law_same, i1_law_same, i2_law_same, i3_law_same, i4_law_same, i5_law_same, i6_law_same, i7_law_same, g, e]
end PM
set_option linter.all false
set_option maxRecDepth 100000
set_option maxHeartbeats 1000000
namespace PM
open PD
/-! ### where a word begins -/
noncomputable def At (s t : List Nat) (i : Nat) : Bool := decide (i + t.length ≤ s.length) && ((s.drop i).take t.length == t)
theorem cell_small {ns : List Int} (hb : ∀ z ∈ ns, PySem.Builtin.Int.intBits z ≤ 1048576) (k : Nat) : (ns.getD k 0).natAbs.log2 ≤ 2000000 := by
  rw [List.getD_eq_getElem?_getD]
  cases q : ns[k]? with
  | none => simp
  | some z =>
    have := bits_log (hb z (List.mem_of_getElem? q))
    rw [Option.getD_some]
    omega
theorem isAtom_bl {b : Bool} : isAtom (.bl b) = true := rfl
theorem rng_nat {lo n : Nat} : rngL (lo : Int) n = (List.range' lo n).map fun i : Nat => D.int i := by
  unfold rngL
  rw [List.range'_eq_map_range, List.map_map]
  rfl
/-! ### two texts joined -/
end PM
set_option linter.all false
set_option maxRecDepth 100000
set_option maxHeartbeats 1000000
namespace PM
open PD
/-! ### try, stores, ranges as lists -/
section
variable {ρ ρ' : Env} {d : D}
noncomputable def kT2 : R Fl → R Fl := fun r => match r with
  | .ok (.rt d) => .ok (.rt d)
  | _ => .stuck
@[simp] theorem kT2_rt : kT2 (.ok (.rt d)) = .ok (.rt d) := Eq.trans rfl rfl
@[simp] theorem endN_rt {io : Option Nat} : endN io (.ok (.rt d)) = .ok (.rt d) := Eq.trans rfl rfl
@[simp] theorem endN_nx {io : Option Nat} : endN io (.ok (.nx ρ)) = .ok (.nx (clrI io ρ)) := Eq.trans rfl rfl
@[simp] theorem clrI_s {i : Nat} : clrI (some i) ρ = ρ.set i none := Eq.trans rfl rfl
@[simp] theorem clrI_n : clrI none ρ = ρ := Eq.trans rfl rfl
theorem allAt_ints {xs : List Int} : allAt (xs.map D.int) = true := by
  unfold allAt
  rw [List.all_eq_true]
  intro x m
  obtain ⟨i, _, rfl⟩ := List.mem_map.mp m
  rfl
noncomputable def kAtL : R D → R D := fun r => r >>= fun d => match d with
  | .lst xs => if allAt xs = true then .ok (.lst xs) else .stuck
  | _ => .stuck
@[simp] theorem mAtL_eq {f : Env → R D} : mAtL f ρ = kAtL (f ρ) := Eq.trans rfl rfl
theorem kAtL_ok {xs : List Int} : kAtL (.ok (.lst (xs.map D.int))) = .ok (.lst (xs.map D.int)) := if_pos allAt_ints
@[simp] theorem kAtL_err {c : PySem.Str} {fs : List (PySem.Str × D)} : kAtL (.err c fs) = .err c fs := Eq.trans rfl rfl
@[simp] theorem kC_err {x : D} {c : PySem.Str} {fs : List (PySem.Str × D)} : kC (.ok x) (.err c fs : R (List D)) = .err c fs := Eq.trans rfl rfl
@[simp] theorem kC_err1 {r : R (List D)} {c : PySem.Str} {fs : List (PySem.Str × D)} : kC (.err c fs) r = .err c fs := Eq.trans rfl rfl
@[simp] theorem kN_err {β : Type} {g : List D → Option β} {c : PySem.Str} {fs : List (PySem.Str × D)} : kN g (.err c fs) = .err c fs := Eq.trans rfl rfl
@[simp] theorem kCl_err {n : Nat} {m : List D → R D} {c : PySem.Str} {fs : List (PySem.Str × D)} : kCl n m (.err c fs) = .err c fs := Eq.trans rfl rfl
@[simp] theorem dListOf_l {xs : List D} : dListOf [.lst xs] = some (.lst xs) := rfl
@[simp] theorem dListOf_t {xs : List D} : dListOf [.tup xs] = some (.lst xs) := rfl
@[simp] theorem dTupOf_l {xs : List D} : dTupOf [.lst xs] = some (.tup xs) := rfl
@[simp] theorem dTupOf_t {xs : List D} : dTupOf [.tup xs] = some (.tup xs) := rfl
@[simp] theorem dRevL_l {xs : List D} : dRevL (.lst xs) = some (.lst xs.reverse) := rfl
end
/-! ### a sign in a text -/
end PM
set_option linter.all false
set_option maxRecDepth 100000
set_option maxHeartbeats 1000000
namespace PM
open PD
/-! ### different words, counted by their first places -/
theorem mem_ded {z : List Nat} : ∀ {ws acc : List (List Nat)}, z ∈ ded acc ws ↔ z ∈ acc ∨ z ∈ ws
  | [], acc => by
    show z ∈ acc ↔ _
    simp
  | w :: ws, acc => by
    show z ∈ ded (if w ∈ acc then acc else acc ++ [w]) ws ↔ _
    rw [mem_ded]
    by_cases h : w ∈ acc
    · rw [if_pos h, List.mem_cons]
      constructor
      · rintro (a | a)
        · exact .inl a
        · exact .inr (.inr a)
      · rintro (a | rfl | a)
        · exact .inl a
        · exact .inl h
        · exact .inr a
    · rw [if_neg h, List.mem_append, List.mem_singleton, List.mem_cons, or_assoc]
/-- i is the first place of its word -/
noncomputable def fresh (ws : List (List Nat)) (i : Nat) : Bool := match ws[i]? with
  | some w => decide (w ∉ ws.take i)
  | none => false
/-- the words of length m -/
noncomputable def wordAt (s : List Nat) (m i : Nat) : List Nat := (s.drop i).take m
noncomputable def wordsOf (s : List Nat) (m : Nat) : List (List Nat) := (List.range (s.length + 1 - m)).map (wordAt s m)
theorem words_len {s : List Nat} {m : Nat} : (wordsOf s m).length = s.length + 1 - m := by
  unfold wordsOf
  rw [List.length_map, List.length_range]
/-- how many different words of length m -/
noncomputable def cnt (s : List Nat) (m : Nat) : Nat := (ded [] (wordsOf s m)).length
end PM
set_option linter.all false
set_option maxRecDepth 100000
/-! # Rules with conditions, for `simp only` with a discharger -/
namespace PD
section
variable {α : Type} {ρ ρ' : Env} {d x y z : D} {i j : Int} {k l : Nat} {p q : Prop} [Decidable p] [Decidable q] {s t : List Nat} {xs ys : List D}
theorem r_kIf_p {β : Type} {f g : Env → R β} (h : p) : kIf f g ρ (.ok (decide p)) = f ρ := by rw [decide_eq_true h]; rfl
theorem r_kIf_n {β : Type} {f g : Env → R β} (h : ¬ p) : kIf f g ρ (.ok (decide p)) = g ρ := by rw [decide_eq_false h]; rfl
theorem r_kIfS_p {f g : Env → R Fl} (h : p) : kIfS f g ρ (.ok (decide p)) = f ρ := by rw [decide_eq_true h]; rfl
theorem r_kIfS_n {f g : Env → R Fl} (h : ¬ p) : kIfS f g ρ (.ok (decide p)) = g ρ := by rw [decide_eq_false h]; rfl
theorem r_kAnd_p {g : Env → R Bool} (h : p) : kAnd g ρ (.ok (decide p)) = g ρ := by rw [decide_eq_true h]; rfl
theorem r_kAnd_n {g : Env → R Bool} (h : ¬ p) : kAnd g ρ (.ok (decide p)) = .ok false := by rw [decide_eq_false h]; rfl
theorem r_kOr_p {g : Env → R Bool} (h : p) : kOr g ρ (.ok (decide p)) = .ok true := by rw [decide_eq_true h]; rfl
theorem r_kOr_n {g : Env → R Bool} (h : ¬ p) : kOr g ρ (.ok (decide p)) = g ρ := by rw [decide_eq_false h]; rfl
theorem r_kAndV_p {g : Env → R D} (h : p) : kAndV g ρ (.ok (.bl (decide p))) = g ρ := by rw [decide_eq_true h]; rfl
theorem r_kAndV_n {g : Env → R D} (h : ¬ p) : kAndV g ρ (.ok (.bl (decide p))) = .ok (.bl false) := by rw [decide_eq_false h]; rfl
theorem r_kOrV_p {g : Env → R D} (h : p) : kOrV g ρ (.ok (.bl (decide p))) = .ok (.bl true) := by rw [decide_eq_true h]; rfl
theorem r_kOrV_n {g : Env → R D} (h : ¬ p) : kOrV g ρ (.ok (.bl (decide p))) = g ρ := by rw [decide_eq_false h]; rfl
theorem r_kNot : kNot (.ok (decide p)) = .ok (decide ¬ p) := by by_cases h : p <;> simp [h]
theorem r_dNot : dNot (.bl (decide p)) = some (.bl (decide ¬ p)) := by by_cases h : p <;> simp [h]
theorem r_kCh_p {g' : D → D → Option D} {c : Env → R D} (h : p) : kCh g' c ρ y (some (.bl (decide p))) = k2 g' (.ok y) (c ρ) := by rw [decide_eq_true h]; rfl
theorem r_kCh_n {g' : D → D → Option D} {c : Env → R D} (h : ¬ p) : kCh g' c ρ y (some (.bl (decide p))) = .ok (.bl false) := by rw [decide_eq_false h]; rfl
theorem r_not_t : decide (¬ True) = false := by decide
theorem r_bnot : (!decide p) = decide (¬ p) := by by_cases h : p <;> simp [h]
theorem r_eq_i : dEq (.int i) (.int j) = some (.bl (decide (i = j))) := by rw [dEq_i]; by_cases h : i = j <;> simp [h]
theorem r_ne_i : dNe (.int i) (.int j) = some (.bl (decide (¬ i = j))) := by rw [dNe_i]; by_cases h : i = j <;> simp [h]
theorem r_eq_s : dEq (.str s) (.str t) = some (.bl (decide (s = t))) := by rw [dEq_s]; by_cases h : s = t <;> simp [h]
theorem r_ne_s : dNe (.str s) (.str t) = some (.bl (decide (¬ s = t))) := by rw [dNe_s]; by_cases h : s = t <;> simp [h]
theorem r_mul (h1 : -4294967296 < i) (h2 : i < 4294967296) (h3 : -4294967296 < j) (h4 : j < 4294967296) : dMul (.int i) (.int j) = some (.int (i * j)) := dMul_i (by
  have a : i.natAbs.log2 < 32 := by
    by_cases c : i.natAbs = 0
    · rw [c]; decide
    · exact (Nat.log2_lt c).mpr (by omega)
  have b : j.natAbs.log2 < 32 := by
    by_cases c : j.natAbs = 0
    · rw [c]; decide
    · exact (Nat.log2_lt c).mpr (by omega)
  have : MB = MB := rfl
  exact Nat.lt_of_lt_of_le (Nat.add_lt_add a b) (by decide))
theorem r_div (h : 0 < j) (h2 : j < 4294967296) : dDiv (.int i) (.int j) = some (.int (i / j)) := dDiv_i h (by
  have b : j.natAbs.log2 < 32 := (Nat.log2_lt (by omega)).mpr (by omega)
  omega)
/-- an index as a list's own -/
theorem r_ixn : dIx (.lst xs) (.int (k : Nat)) = xs[k]? := by
  show L2.atI xs ((k : Nat) : Int) = xs[k]?
  unfold L2.atI
  by_cases h : k < xs.length
  · rw [ixN_nat h]; rfl
  · have e : L2.ixN xs.length (k : Int) = none := by unfold L2.ixN; rw [if_pos (by omega), if_neg (by omega)]
    rw [e, List.getElem?_eq_none (by omega)]; rfl
theorem r_ixtn : dIx (.tup xs) (.int (k : Nat)) = xs[k]? := r_ixn (xs := xs)
theorem r_ixsn (hl : s.length ≤ 1000000) : dIx (.str s) (.int (k : Nat)) = (s[k]?).map fun c => .str [c] := by
  show (if s.length ≤ LN then _ else _) = _
  rw [if_pos (show s.length ≤ LN from hl)]
  unfold L2.atI
  by_cases h : k < s.length
  · rw [ixN_nat h]; rfl
  · have e : L2.ixN s.length (k : Int) = none := by unfold L2.ixN; rw [if_pos (by omega), if_neg (by omega)]
    rw [e, List.getElem?_eq_none (by omega)]; rfl
theorem r_ixc {ns : List Int} : dIx (.scr ns) (.int (k : Nat)) = (ns[k]?).map .int := by
  show (L2.atI ns ((k : Nat) : Int)).map _ = _
  unfold L2.atI
  by_cases h : k < ns.length
  · rw [ixN_nat h]; rfl
  · have e : L2.ixN ns.length (k : Int) = none := by unfold L2.ixN; rw [if_pos (by omega), if_neg (by omega)]
    rw [e, List.getElem?_eq_none (by omega)]; rfl
theorem r_last (h : xs.length = k + 1) : dIx (.lst xs) (.int (-1)) = xs[k]? := by
  show L2.atI xs (-1) = _
  unfold L2.atI
  have e : L2.ixN xs.length (-1) = some k := by
    unfold L2.ixN
    rw [h]
    simp
    omega
  rw [e]; rfl
/-! lengths and room -/
theorem r_len_s (h : s.length ≤ 1000000) : dLen [.str s] = some (.int s.length) := dLen_s h
theorem r_add_s (h : s.length + t.length ≤ 1000000) : dAdd (.str s) (.str t) = some (.str (s ++ t)) := dAdd_s h
theorem r_add_l (h : xs.length + ys.length ≤ 1000000) : dAdd (.lst xs) (.lst ys) = some (.lst (xs ++ ys)) := dAdd_l h
theorem r_cat_l (h : xs.length + ys.length ≤ 1000000) : dCat (.lst xs) (.lst ys) = some (.lst (xs ++ ys)) := dCat_l h
theorem r_lst (h : xs.length ≤ 1000000) : dLst xs = some (.lst xs) := dLst_ok h
theorem r_tup (h : xs.length ≤ 1000000) : dTup xs = some (.tup xs) := dTup_ok h
theorem r_R1 (h : -1000000000 ≤ j) (h2 : j ≤ 1000000000) : gR1 [.int j] = some (rngL 0 j.toNat) := gR1_ok h h2
theorem r_R1n (h2 : k ≤ 1000000000) : gR1 [.int (k : Nat)] = some (rngL 0 k) := by
  rw [r_R1 (by omega) (by omega), Int.toNat_natCast]
theorem r_R2 (h : -1000000000 ≤ i) (h2 : i ≤ 1000000000) (h3 : -1000000000 ≤ j) (h4 : j ≤ 1000000000) : gR2 [.int i, .int j] = some (rngL i (j - i).toNat) := gR2_ok h h2 h3 h4
theorem r_sl_s {lo hi : Option Int} (h : s.length ≤ 1000000) : dSl (.str s) lo hi = some (.str (cutG s lo hi)) := dSl_s h
theorem r_app {n : Nat} (h : xs.length < 1000000) : kApp n ρ (some xs) (.ok d) = .ok (.nx (ρ.set n (some (.lst (xs ++ [d]))))) := kApp_ok h
theorem r_kLn (h : xs.length ≤ 1000000) : kLn (.ok xs) = .ok (.lst xs) := kLn_ok h
end
end PD
namespace PD
theorem isAtom_i {i : Int} : isAtom (.int i) = true := rfl
theorem isAtom_s {s : List Nat} : isAtom (.str s) = true := rfl
theorem isAtom_n : isAtom .non = true := rfl
end PD
namespace PD
/-! ### outcomes -/
/-- what a suite comes to -/
noncomputable def Oc (r : R Fl) (N : Env → Prop) (K : D → Prop) (B C : Env → Prop) (X : PySem.Str → List (PySem.Str × D) → Prop) : Prop := match r with
  | .ok (.nx ρ) => N ρ
  | .ok (.rt d) => K d
  | .ok (.bk ρ) => B ρ
  | .ok (.ct ρ) => C ρ
  | .ok (.ex c fs _) => X c fs
  | _ => False
section
variable {N B C : Env → Prop} {K : D → Prop} {X : PySem.Str → List (PySem.Str × D) → Prop} {ρ : Env} {d : D} {r : R Fl}
theorem o_nx : Oc (.ok (.nx ρ)) N K B C X = N ρ := Eq.trans rfl rfl
theorem o_rt : Oc (.ok (.rt d)) N K B C X = K d := Eq.trans rfl rfl
theorem o_bk : Oc (.ok (.bk ρ)) N K B C X = B ρ := Eq.trans rfl rfl
theorem o_ct : Oc (.ok (.ct ρ)) N K B C X = C ρ := Eq.trans rfl rfl
theorem o_ex {c : PySem.Str} {fs : List (PySem.Str × D)} : Oc (.ok (.ex c fs ρ)) N K B C X = X c fs := Eq.trans rfl rfl
noncomputable abbrev noE : Env → Prop := fun _ => False
noncomputable abbrev noD : D → Prop := fun _ => False
noncomputable abbrev noX : PySem.Str → List (PySem.Str × D) → Prop := fun _ _ => False
theorem oc_nx (h : Oc r N noD noE noE noX) : ∃ ρ, r = .ok (.nx ρ) ∧ N ρ := by
  unfold Oc at h
  split at h
  · exact ⟨_, rfl, h⟩
  all_goals exact h.elim
noncomputable def Ot (o : Option Env) (P : Env → Prop) : Prop := match o with
  | some ρ => P ρ
  | none => False
theorem ot_some {P : Env → Prop} : Ot (some ρ) P = P ρ := Eq.trans rfl rfl
theorem loop_oc {T : D → Env → Option Env} {b : Env → R Fl} (I : Nat → Env → Prop) (K : D → Prop) (B : Env → Prop) (X : PySem.Str → List (PySem.Str × D) → Prop) : ∀ (ds : List D) (k : Nat) (ρ : Env), I k ρ →
    (∀ (j : Nat) (d : D) (ρ : Env), ds[j]? = some d → I (k + j) ρ → Ot (T d ρ) fun ρ1 => Oc (b ρ1) (I (k + j + 1)) K B (I (k + j + 1)) X) →
    Oc (sLoop T b ds ρ) (fun ρ' => I (k + ds.length) ρ' ∨ B ρ') K noE noE X
  | [], k, ρ, h, _ => .inl h
  | d :: ds, k, ρ, h, hs => by
    have h1 := hs 0 d ρ rfl h
    have hs' : ∀ (j : Nat) (d' : D) (ρ : Env), ds[j]? = some d' → I (k + 1 + j) ρ → Ot (T d' ρ) fun ρ1 => Oc (b ρ1) (I (k + 1 + j + 1)) K B (I (k + 1 + j + 1)) X := fun j d' ρ' q h' => by
      have := hs (j + 1) d' ρ' (by rw [List.getElem?_cons_succ]; exact q) (by rw [show k + (j + 1) = k + 1 + j by omega]; exact h')
      rw [show k + (j + 1) + 1 = k + 1 + j + 1 by omega] at this
      exact this
    have z : k + (d :: ds).length = k + 1 + ds.length := by rw [List.length_cons]; omega
    rw [z]
    show Oc (match T d ρ with | none => _ | some ρ1 => _) _ _ _ _ _
    unfold Ot at h1
    split at h1
    · rename_i ρ1 e
      rw [e]
      show Oc (b ρ1 >>= _) _ _ _ _ _
      unfold Oc at h1
      split at h1
      · rename_i ρ2 e2
        rw [e2]
        exact loop_oc I K B X ds (k + 1) ρ2 h1 hs'
      · rename_i d2 e2
        rw [e2]
        exact h1
      · rename_i ρ2 e2
        rw [e2]
        exact .inr h1
      · rename_i ρ2 e2
        rw [e2]
        exact loop_oc I K B X ds (k + 1) ρ2 h1 hs'
      · rename_i c fs ρ2 e2
        rw [e2]
        exact h1
      · exact h1.elim
    · exact h1.elim
/-- each turn goes on -/
theorem loop_I {T : D → Env → Option Env} {b : Env → R Fl} (I : Nat → Env → Prop) (ds : List D) (ρ : Env) (h : I 0 ρ)
    (hs : ∀ (j : Nat) (d : D) (ρ : Env), ds[j]? = some d → I j ρ → Ot (T d ρ) fun ρ1 => Oc (b ρ1) (I (j + 1)) noD noE (I (j + 1)) noX) : ∃ ρ', sLoop T b ds ρ = .ok (.nx ρ') ∧ I ds.length ρ' := by
  have := oc_nx (loop_oc I noD noE noX ds 0 ρ h fun j d ρ q i => by rw [Nat.zero_add] at i ⊢; exact hs j d ρ q i)
  rw [Nat.zero_add] at this
  obtain ⟨ρ', e, h1 | h1⟩ := this
  · exact ⟨ρ', e, h1⟩
  · exact h1.elim
end
end PD
set_option linter.all false
set_option maxRecDepth 100000
namespace PF
open PD PM

noncomputable def b_number_of_words : Env → R Fl := (sSeq (sSet 2 (m1 dRng1 (m2 dAdd (m2 dSub (mN dLen (mCons (mV 0) mNil)) (mV 1)) (mC (.int 1))))) (sRet (mLenSc (iOf gRn (mV 2)) [3] (gSet 3) mYes (mSl dSl (mV 0) (mSo (mV 3)) (mSo (m2 dAdd (mV 3) (mV 1)))))))
noncomputable def m_number_of_words : List D → R D := mFn 4 false b_number_of_words
noncomputable def c1_counts : Env → R D := (mLc (iArgs gR2 (mCons (mC (.int 1)) (mCons (m2 dAdd (mN dLen (mCons (mV 0) mNil)) (mC (.int 1))) mNil))) [1] (gSet 1) mYes (mCall 2 m_number_of_words (mCons (mV 0) (mCons (mV 1) mNil))))
noncomputable def b_counts : Env → R Fl := (sSeq (sDrop (mCall 1 m_check_text (mCons (mV 0) mNil))) (sRet c1_counts))
noncomputable def m_counts : List D → R D := mFn 2 false b_counts
end PF
set_option linter.all false
set_option maxRecDepth 100000
set_option maxHeartbeats 1000000
namespace PF
open PD PM
noncomputable def kLs : R (List D) → R D := fun r => r >>= fun xs => match strsOf xs with
  | some zs => if zs.length ≤ 4000 then .ok (.int ((ded [] zs).length : Nat)) else .stuck
  | none => .stuck
noncomputable def kLsc (T : D → Env → Option Env) (ft : Env → R Bool) (fe : Env → R D) (ρ : Env) : R (List D) → R D := fun r => r >>= fun ds => kLs (lcGo T ft fe ρ ds)
@[simp] theorem kLsc_ok {T : D → Env → Option Env} {ft : Env → R Bool} {fe : Env → R D} {ρ : Env} {ds : List D} : kLsc T ft fe ρ (.ok ds) = kLs (lcGo T ft fe ρ ds) := Eq.trans rfl rfl
@[simp] theorem mLenSc_eq {fi : Env → R (List D)} {vs : List Nat} {T : D → Env → Option Env} {ft : Env → R Bool} {fe : Env → R D} {ρ : Env} : mLenSc fi vs T ft fe ρ = kLsc T ft fe (wipeD ρ vs) (fi ρ) := Eq.trans rfl rfl
/-- the counts of a text -/
noncomputable def cnts (s : List Nat) : List Int := (List.range s.length).map fun k => (cnt s (k + 1) : Int)
/-- the sizes whose count is over `v` a place -/
noncomputable def over (s : List Nat) (v : Int) : List Nat := (List.range s.length).filter fun i => decide (v * ((i : Int) + 1) < cnt s (i + 1))
end PF
set_option linter.all false
set_option maxRecDepth 100000
set_option maxHeartbeats 1000000
namespace PF
open PD PM
/-! ### plain laws of the counts -/
theorem wordAt_get {s : List Nat} {m i k : Nat} : (wordAt s m i)[k]? = if k < m then s[i + k]? else none := by
  unfold wordAt
  rw [List.getElem?_take]
  by_cases h : k < m
  · rw [if_pos h, if_pos h, List.getElem?_drop]
  · rw [if_neg h, if_neg h]
/-! ### floors -/
end PF
set_option Elab.async false
set_option linter.all false
set_option maxRecDepth 100000
set_option maxHeartbeats 1000000
/-! # text.rfind -/
namespace PD
open PySem PySem.Spec PyProof.Rows L2
/-- the last number under n with p -/
noncomputable def lastU (p : Nat → Bool) : Nat → Option Nat
  | 0 => none
  | n + 1 => if p n = true then some n else lastU p n
noncomputable def atP (s t : List Nat) (i : Nat) : Bool := decide (i + t.length ≤ s.length) && ((s.drop i).take t.length == t)
noncomputable def rfindI (s t : List Nat) : Int := match lastU (atP s t) (s.length + 1) with
  | some i => (i : Nat)
  | none => -1
noncomputable def dRfind (s : List Nat) : List D → Option D
  | [.str t] => some (.int (rfindI s t))
  | _ => none
section
variable {L : LE}
end
@[simp] theorem dRfind_s {s t : List Nat} : dRfind s [.str t] = some (.int (rfindI s t)) := Eq.trans rfl rfl
end PD
set_option Elab.async false
set_option linter.all false
set_option maxRecDepth 100000
set_option maxHeartbeats 1000000
/-! # xs.reverse() of one's own list; comprehensions over one's own list that stays one's own -/
namespace PD
open PySem PySem.Spec PyProof.Rows L2
/-- a list without lists in it -/
noncomputable def gNLL : D → R D := fun d => match d with
  | .lst xs => if noLs xs = true then .ok (.lst xs) else .stuck
  | _ => .stuck
noncomputable def mNLL (f : Env → R D) : Env → R D := fun ρ => f ρ >>= gNLL
section
variable {L : LE} {W : WX} {F1 H1 : Hp}
theorem newF_none {F2 : Hp} (e : Ext L.T (lf F1 H1) H1 F2 H2) {a : Addr} (h : F2 a = none) : newF F1 H1 F2 a = none := by
  unfold newF
  cases q : F1 a with
  | some o =>
    have := e.ff a o (lf_F q)
    rw [h] at this; cases this
  | none =>
    dsimp only
    split
    · rfl
    · exact h
theorem postE_lfL {r0 : R D} {σ : L2.St} {Q : VK} (fh : Same F1 H1) (nf : NoT F1) (p : PostE L F1 H1 (.l .s) (r0 >>= gNLL) W σ Q) : PostE L (lf F1 H1) H1 (.l .s) r0 W σ Q := by
  cases r0 with
  | ok d =>
    rw [bind_ok] at p
    intro v F2 H2 S e o nd fr
    obtain ⟨ex, k⟩ := newF_ext fh nf e
    cases o with
    | l h r =>
      obtain ⟨dv, eS⟩ := OwnL.datS r
      subst eS
      unfold gNLL at p
      dsimp only at p
      rename_i ds
      by_cases n : noLs ds = true
      · rw [if_pos n] at p
        exact p _ _ H2 _ ex (.l h (OwnL.ofDat (datL_noL k n dv))) nd fun a m => ⟨newF_none e (fr a m).1, (fr a m).2⟩
      · rw [if_neg n] at p; exact p.elim
  | err c fs =>
    rw [bind_err] at p
    intro cls d F2 H2 e x
    obtain ⟨ex, k⟩ := newF_ext fh nf e
    exact p cls d _ H2 ex (errOk_noL k x)
  | stuck => exact p
theorem rep_lf {fl fl' : List Sh} {F B H : Hp} {σ : L2.St} {ρ : Env} (ha : fl.all Sh.listy = true) (e : fl.map (fun _ => Sh.s) = fl') (r : Rep L fl F B σ H ρ) : Rep L fl' (lf F H) (offH (lf F H) H) σ H ρ := by
  subst e
  refine ⟨lf_bs r.bs, by rw [List.length_map]; exact r.ls, by rw [List.length_map]; exact r.lr, fun i v eo h => ?_, fun _ => [], fun i d h => ?_, fun _ _ a m => (nomatch m), fun _ => List.nodup_nil, fun _ a m => (nomatch m)⟩
  · rw [List.getElem?_map] at h
    obtain ⟨s, _, z⟩ := Option.map_eq_some_iff.mp h
    cases z
  · obtain ⟨Ss, h1, _, _, h4⟩ := r.sl
    obtain ⟨v, sh, a1, a2, a3, a4⟩ := h1 i d h
    have ls : sh.listy = true := List.all_eq_true.mp ha sh (List.mem_of_getElem? a2)
    exact ⟨v, .s, a1, by rw [List.getElem?_map, a2]; rfl, rfl, .d (a4.lf ls fun a m => (h4 i a m).1)⟩
end
section
variable {X : Cx} {L : LE} {J : Jn} {fl fl1 : List Sh} {W : WX} {pos : Pos}
theorem e_brw {fl' : List Sh} {e : Expr} {f : Env → R D} (he : PE X e (tD L fl' (.l .s) W f)) (hsh : fl.map (fun _ => Sh.s) = fl' := by rfl) (hall : fl.all Sh.listy = true := by rfl) : PE X e (tD L fl (.l .s) W (mNLL f)) :=
  he.imp fun σ H Q ⟨F, B, ρ, r, p⟩ => ⟨lf F H, offH (lf F H) H, ρ, rep_lf hall hsh r, postE_lfL r.bs.fh r.bs.nf p⟩
end
/-! x in l of nested data -/
section
variable {X : Cx} {L : LE} {bw : Bool}
end
@[simp] theorem mNLL_eq {f : Env → R D} {ρ : Env} : mNLL f ρ = (f ρ >>= gNLL) := rfl
end PD
set_option linter.all false
set_option maxRecDepth 100000
set_option maxHeartbeats 1000000
/-! # shallow data: what == and in may compare -/
namespace PD
noncomputable def okQ : Nat → D → Prop
  | _, .non => True
  | _, .bl _ => True
  | _, .int _ => True
  | _, .str s => ∀ c ∈ s, c < 1114112
  | n + 1, .lst xs => ∀ x ∈ xs, okQ n x
  | n + 1, .tup xs => ∀ x ∈ xs, okQ n x
  | _, _ => False
noncomputable def shQ (n : Nat) (d : D) : Prop := noR d = true ∧ (toP d).canLay0 = true ∧ (toP d).depth ≤ n
theorem okQ_all {n : Nat} : ∀ {xs : List D}, (∀ x ∈ xs, shQ n x) → noRs xs = true ∧ PySem.PyData.canLayAll0 (toPs xs) = true ∧ PySem.PyData.depthAll (toPs xs) ≤ n
  | [], _ => ⟨rfl, rfl, Nat.zero_le _⟩
  | x :: xs, h => by
    obtain ⟨a, b, c⟩ := okQ_all (xs := xs) (fun y m => h y (List.mem_cons_of_mem _ m))
    obtain ⟨d, e, f⟩ := h x List.mem_cons_self
    refine ⟨?_, ?_, ?_⟩
    · show (noR x && noRs xs) = true
      rw [d, a]; rfl
    · show ((toP x).canLay0 && PySem.PyData.canLayAll0 (toPs xs)) = true
      rw [e, b]; rfl
    · show max (toP x).depth (PySem.PyData.depthAll (toPs xs)) ≤ n
      omega
theorem shQ_of : ∀ (n : Nat) (d : D), okQ n d → shQ n d := by
  intro n
  induction n with
  | zero =>
    intro d h
    cases d with
    | non => exact ⟨rfl, rfl, Nat.zero_le _⟩
    | bl b => exact ⟨rfl, rfl, Nat.zero_le _⟩
    | int i => exact ⟨rfl, rfl, Nat.zero_le _⟩
    | str s =>
      refine ⟨rfl, ?_, Nat.zero_le _⟩
      show ((s.toArray).all (· < 0x110000)) = true
      rw [← Array.all_toList, List.all_eq_true]
      exact fun c m => decide_eq_true (h c m)
    | _ => exact h.elim
  | succ n ih =>
    intro d h
    cases d with
    | non => exact ⟨rfl, rfl, Nat.zero_le _⟩
    | bl b => exact ⟨rfl, rfl, Nat.zero_le _⟩
    | int i => exact ⟨rfl, rfl, Nat.zero_le _⟩
    | str s =>
      refine ⟨rfl, ?_, Nat.zero_le _⟩
      show ((s.toArray).all (· < 0x110000)) = true
      rw [← Array.all_toList, List.all_eq_true]
      exact fun c m => decide_eq_true (h c m)
    | lst xs =>
      obtain ⟨a, b, c⟩ := okQ_all (n := n) (xs := xs) fun x m => ih x (h x m)
      exact ⟨a, b, Nat.succ_le_succ c⟩
    | tup xs =>
      obtain ⟨a, b, c⟩ := okQ_all (n := n) (xs := xs) fun x m => ih x (h x m)
      exact ⟨a, b, Nat.succ_le_succ c⟩
    | _ => exact h.elim
theorem okP_of {n : Nat} {d : D} (h : okQ n d) (hn : n ≤ 64) : okP d = true := by
  obtain ⟨a, b, c⟩ := shQ_of n d h
  unfold okP PySem.SeqAt.shaped
  rw [a, b, decide_eq_true (by omega)]
  rfl
end PD
set_option Elab.async false
set_option linter.all false
set_option maxRecDepth 100000
set_option maxHeartbeats 2000000
/-! # what is owned, read as if shared; comprehensions of lists of one's own; x[i] op= e; x[i].append(e) -/
namespace PD
open PySem PySem.Spec PyProof.Rows L2
section
variable {X : Cx} {L : LE} {J : Jn} {fl fl1 fl' : List Sh} {W : WX} {pos : Pos}
/-! ### x[b] op= e on a list of one's own -/
/-! ### x[b].append(e), x a list of lists of one's own -/
theorem OwnL.atL {K : PySem.W.Frag} {F H : Hp} {e : Sh} (nb : e.noB = true) {k : Nat} {d : PD.D} : ∀ {vs : List V} {ds : List PD.D} {S : List Addr}, OwnL K F H e vs ds S → ds[k]? = some d → ∃ v S1 Sk S2, S = S1 ++ (Sk ++ S2) ∧ vs[k]? = some v ∧ Own K F H e v d Sk ∧
    ∀ F' H' d' Sk', Sm F F' → TupK H H' → (∀ a ∈ S1 ++ S2, H' a = H a) → Own K F' H' e v d' Sk' → OwnL K F' H' e vs (ds.set k d') (S1 ++ (Sk' ++ S2)) := by
  induction k with
  | zero =>
    intro vs ds S h e
    cases h with
    | nil => cases e
    | cons h r =>
      rename_i v0 d0 vs0 ds0 Sa Sb
      cases e
      refine ⟨v0, [], Sa, Sb, rfl, rfl, h, fun F' H' d' Sk' sf tp hh o => ?_⟩
      show OwnL K F' H' _ (v0 :: vs0) (d' :: ds0) (Sk' ++ Sb)
      exact .cons o (OwnL.at sf tp nb r fun a m => hh a m)
  | succ k ih =>
    intro vs ds S h e
    cases h with
    | nil => cases e
    | cons h r =>
      rename_i v0 d0 vs0 ds0 Sa Sb
      rw [List.getElem?_cons_succ] at e
      obtain ⟨v, S1, Sk, S2, e1, e2, e3, e4⟩ := ih r e
      subst e1
      refine ⟨v, Sa ++ S1, Sk, S2, by rw [List.append_assoc], by rw [List.getElem?_cons_succ]; exact e2, e3, fun F' H' d' Sk' sf tp hh o => ?_⟩
      rw [List.set_cons_succ, List.append_assoc]
      refine .cons (Own.at sf tp nb h fun a m => hh a (List.mem_append_left _ (List.mem_append_left _ m))) (e4 F' H' d' Sk' sf tp (fun a m => hh a ?_) o)
      rcases List.mem_append.mp m with m | m
      · exact List.mem_append_left _ (List.mem_append_right _ m)
      · exact List.mem_append_right _ m
end
section
variable {L : LE} {fl : List Sh} {F B H : Hp} {σ σ' : L2.St} {ρ : Env}
end
section
variable {X : Cx} {L : LE} {J : Jn} {fl fl1 fl' : List Sh} {W : WX} {pos : Pos}
end
end PD
set_option Elab.async false
set_option linter.all false
set_option maxRecDepth 100000
set_option maxHeartbeats 1000000
/-! # set(xs), xs a list of texts -/
namespace L2
open PySem PySem.Spec PyProof.Rows
/-- one key more -/
noncomputable def hasB (l : List Key) (k : Key) : Bool := l.any fun j => decide (j = k)
noncomputable def metK (l : List Key) (k : Key) : List Key := if hasB l k = true then l else l ++ [k]
theorem hasB_iff {l : List Key} {k : Key} : hasB l k = true ↔ k ∈ l := by
  unfold hasB
  rw [List.any_eq_true]
  exact ⟨fun ⟨j, m, e⟩ => of_decide_eq_true e ▸ m, fun m => ⟨k, m, decide_eq_true rfl⟩⟩
theorem metK_has (l : List Key) (k j : Key) : (hasB l j || decide (j = k)) = hasB (metK l k) j := by
  rw [Bool.eq_iff_iff, Bool.or_eq_true, hasB_iff, hasB_iff, decide_eq_true_eq]
  unfold metK
  by_cases h : hasB l k = true
  · rw [if_pos h]
    exact ⟨fun z => z.elim id fun e => e ▸ hasB_iff.mp h, .inl⟩
  · rw [if_neg h, List.mem_append, List.mem_singleton]
theorem metK_len (l : List Key) (k : Key) : (if hasB l k = true then l.length else l.length + 1) = (metK l k).length := by
  unfold metK
  by_cases h : hasB l k = true
  · rw [if_pos h, if_pos h]
  · rw [if_neg h, if_neg h, List.length_append, List.length_singleton]
theorem metK_le (l : List Key) (k : Key) : (metK l k).length ≤ l.length + 1 := by
  rw [← metK_len]
  split <;> omega
section
variable {P : Program} {w : World} {A : Around} {R : Result → Shared → Prop} {it : Addr} {fp wr : List Addr} {G : Array GenState → Array GenState → Prop} {n : Nat} {Pv : Nat → Value → Prop} {St : Nat → Shared → Prop}
/-- the set at a holds the keys l -/
noncomputable def HoldsK (P : Program) (w : World) (h : Heap) (a : Addr) (l : List Key) : Prop := h.SetOf (mixKind P w) a (hasB l) l.length
theorem HoldsK.keep {h h' : Heap} {a : Addr} {l : List Key} (x : HoldsK P w h a l) (k : ∀ o, h.get? a = some o → h'.get? a = some o) : HoldsK P w h' a l := setOf_at x k
theorem HoldsK.more {h : Heap} {a : Addr} {l : List Key} {k : Key} (x : h.SetOf (mixKind P w) a (fun j => hasB l j || decide (j = k)) (if hasB l k = true then l.length else l.length + 1)) : HoldsK P w h a (metK l k) := by
  unfold HoldsK
  rw [metK_len] at x
  rwa [show (fun j => hasB l j || decide (j = k)) = hasB (metK l k) from funext fun j => metK_has l k j] at x
theorem upd_go (W : WalksS P w A.in1 it fp wr G n Pv St) (a : Addr) (out : a ∉ fp) (room : n + 1 < scanBound) :
    ∀ (r : List Key) (i : Nat) (l : List Key) (s : Shared), r.length + i = n → l.length ≤ i →
      (∀ (m : Nat) (k : Key) v, r[m]? = some k → Pv (i + m) v → RelV (kV k) v) → St i s → HoldsK P w s.heap a l →
      (∀ s', Moved (a :: wr) G s s' → HoldsK P w s'.heap a (r.foldl metK l) → R (.ok (.ret .none)) s') →
      codeAny (model P w) A (.builtin "set.update.loop" ⟨[.ref a, .ref it], []⟩) R s
  | [], i, l, s, hn, _, _, st, hS, fin => by
    obtain rfl : i = n := by simpa using hn
    refine codeAny_builtin PyProof.Rows.F.entry_set_update_loop ?_
    rw [Around.under_plainId PyProof.Rows.F.plain_set_update_loop _]
    change wpAny (model P w) A.in1 (pyNext (.ref it) >>= _) _ _ s
    exact wpAny_bind (W.done s _ _ st fun t mv => wpAny_pure (fin t (mv.mono fun b m => .tail _ m) (hS.keep fun o e => mv.heap a o (fun m => out (W.sub a m)) e)))
  | k :: r, i, l, s, hn, hl, hv, st, hS, fin => by
    have lt : i < n := by rw [List.length_cons] at hn; omega
    refine codeAny_builtin PyProof.Rows.F.entry_set_update_loop ?_
    rw [Around.under_plainId PyProof.Rows.F.plain_set_update_loop _]
    change wpAny (model P w) A.in1 (pyNext (.ref it) >>= _) _ _ s
    refine wpAny_bind (W.item i s _ _ lt st fun v t pv st' mv => ?_)
    have rv : RelV (kV k) v := hv 0 k v rfl pv
    have hS' : HoldsK P w t.heap a l := hS.keep fun o e => mv.heap a o (fun m => out (W.sub a m)) e
    change wpAny (model P w) A.in1 (holding [v] (setAdd a v) >>= _) _ _ t
    refine wpAny_bind (wpAny_holding (wpAny_holding (wpAny_bind ((mixKind P w).pyHash (k := k) (kV_is rv) ?_))))
    have rm : l.length + 1 < scanBound := by omega
    refine wpAny_setAddHashed_of (kV_is rv) (key_scan rv) (s := { t with toks := t.toks + 1 }) hS' rm fun h' sb new => ?_
    have eq : ∀ b, b ≠ a → ∀ o, t.heap.get? b = some o → h'.get? b = some o := fun b ne o e => (sb.2 b ne).trans e
    refine wpAny_pure ⟨plainId_quiet PyProof.Rows.F.plain_set_update_loop _, upd_go W a out room r (i + 1) (metK l k) _ (by rw [List.length_cons] at hn; omega) (Nat.le_trans (metK_le l k) (by omega)) (fun m j u q => ?_)
      (W.frame _ t _ _ st' (Nat.le_succ _) fun b m o e => eq b (fun z => out (z ▸ m)) o e) (HoldsK.more new) fun u mv2 hS2 => ?_⟩
    · have := hv (m + 1) j u (by simpa using q)
      rwa [show i + 1 + m = i + (m + 1) by omega]
    · exact fin u (Moved.trans W.gtrans ((mv.mono fun b m => .tail _ m).then_heap (Nat.le_succ _) fun b o nb e => eq b (fun z => nb (z ▸ List.mem_cons_self)) o e) mv2) hS2
end
/-- a set just made -/
noncomputable def eset (led : Bool) : Obj := { cls := .type "set", dict := none, data := .set #[] 0 (.fresh 0 0 led) }
theorem eset_at {P : Program} {w : World} {h : Heap} {a : Addr} {led : Bool} (e : h.get? a = some (eset led)) : HoldsK P w h a [] :=
  ⟨_, #[], 0, _, e, ⟨rfl, rfl, rfl⟩, rfl, (fun x hx => by simp at hx), (fun k => by simp [hasB]), (by decide), (by rfl), rfl⟩
section
variable {P : Program} {w : World} {A : Around} {E : Value → Shared → Prop} {s : Shared}
/-- what set.__init__ leaves behind -/
noncomputable def InitOk (P : Program) (w : World) (s : Shared) (h0 : Heap) (ks : List Key) (r : Value) (s2 : Shared) : Prop :=
  r = .none ∧ ∃ h' tk, s2 = { s with heap := h', toks := tk } ∧ HoldsK P w h' h0.objs.size (ks.foldl metK []) ∧ ∀ b o, h0.get? b = some o → h'.get? b = some o
theorem call_setK {l : Addr} {items : List Value} {ks : List Key} {Q : Value → Shared → Prop} (calm : A.handled = none) (hl : s.heap.IsList l items.toArray) (hv : Vals (ks.map kV) items) (room : ks.length + 1 < scanBound)
    (k : ∀ h' tk, HoldsK P w h' s.heap.objs.size (ks.foldl metK []) → (∀ b o, s.heap.get? b = some o → h'.get? b = some o) → Q (.ref s.heap.objs.size) { s with heap := h', toks := tk }) :
    wpAny (model P w) A (call (.type "set") [.ref l]) Q E s := by
  obtain ⟨c, tl, mro⟩ := PySem.F.called_set.mro
  have m1 := PySem.F.called_set.made
  have m2 := PySem.F.called_set.sub
  have m3 := PySem.F.called_set.notType
  have m4 := PySem.F.called_set.canCreate
  have m5 := PySem.F.typeCall_set_1 (.ref l)
  refine wpAny_call (codeAny_of_tree ?_)
  change wpAny _ _ (callAny (.type "set") _) _ _ _
  refine wpAny_pure ⟨Code.quiet_builtin _ (by decide +kernel), codeAny_builtin PySem.F.entry_type_call ?_⟩
  rw [Around.under_plain (weight_type_call_type "set" [.ref l] []) rfl]
  repeat (any_goals first | assumption | wp_step)
  refine codeAny_mono (code_set_new_1 (E := E) (.ref l) (Q₁ := fun x t => ∃ led, x = .ref s.heap.objs.size ∧ t = { s with heap := s.heap.push (eset led) }) fun led => ⟨led, rfl, rfl⟩) fun r t hr => ?_
  match r, hr with
  | .error e, hr => exact hr
  | .ok (.ret x), ⟨led, ex, et⟩ =>
    subst ex et
    have new : (s.heap.push (eset led)).get? s.heap.objs.size = some (eset led) := Heap.get?_push_size _ rfl
    have ty : Shared.TypeIs { s with heap := s.heap.push (eset led) } (.ref s.heap.objs.size) "set" := ⟨_, new, rfl⟩
    have i1 := PySem.F.called_set.init.lookup
    have i2 := PySem.F.called_set.init.bind (.ref s.heap.objs.size)
    repeat (any_goals first | assumption | wp_step)
    refine codeAny_mono (codeAny_call_builtin (R := wants (InitOk P w s s.heap ks) E) PySem.F.called_set.init.plain PySem.F.entry_set_init (check_set_init_1 ty ?_)) fun r2 t2 hr2 => ?_
    · obtain ⟨⟨cl, dd, dt, sl⟩, ol, hc, nl, hd⟩ := hl
      simp only at hc hd
      subst hc hd
      have far : ∀ b o, s.heap.get? b = some o → (s.heap.push (eset led)).get? b = some o := fun b o e => Heap.get?_push_of_some _ e
      have ol2 := far l _ ol
      have q1 := PySem.F.sub_list_set
      have q2 := PySem.F.sub_list_frozenset
      have q3 : (Value.type "list" == Value.type "dict") = false := by decide
      have isl : (s.heap.push (eset led)).IsList l items.toArray := ⟨_, ol2, rfl, nl, rfl⟩
      unfold Builtin.«set.__init__» noKeywords Builtin.Frozenset.updateFrom
      generalize gi : pyIter = iter
      wp_walk
      subst gi
      refine wpAny_pyIter_list isl (wpAny_bind (wpAny_runValue ?_))
      have low : l < s.heap.objs.size := Heap.lt_size ol
      have sz : (s.heap.push (eset led)).objs.size = s.heap.objs.size + 1 := Heap.size_push _ _
      have n1 : l ≠ (s.heap.push (eset led)).objs.size := by rw [sz]; exact Nat.ne_of_lt (Nat.lt_succ_of_lt low)
      have n2 : s.heap.objs.size ∉ [(s.heap.push (eset led)).objs.size, l] := by
        simp only [List.mem_cons, List.not_mem_nil, or_false, not_or]
        exact ⟨by rw [sz]; exact Nat.ne_of_lt (Nat.lt_succ_self _), Nat.ne_of_gt low⟩
      have len : items.toArray.size = ks.length := by rw [List.size_toArray, ← hv.length, List.length_map]
      refine upd_go (P := P) (Walks.list (by simp [calm]) _ l n1 items.toArray).toS s.heap.objs.size n2 (by rw [len]; exact room) ks 0 [] _ len.symm (Nat.le_refl _) (fun m k v hk hq => ?_) ⟨⟨_, Heap.get?_push_size _ rfl, rfl, rfl⟩, isl.push _⟩ (eset_at (Heap.get?_push_of_some _ new)) fun t mv hS => ?_
      · obtain ⟨v2, e2, r2⟩ := hv.get (i := m) (x := kV k) (by rw [List.getElem?_map, hk]; rfl)
        rw [Nat.zero_add, List.getElem?_toArray, e2] at hq
        cases hq
        exact r2
      · obtain ⟨h', g', d', tk, os⟩ := t
        have e1 : g' = s.gens := mv.gens
        have e2 : d' = s.drawn := mv.drawn
        have e3 : os = s.os := mv.os
        subst e1 e2 e3
        change wpAny _ _ _ _ _ _
        refine wpAny_pure (wpAny_pure ⟨rfl, h', tk, rfl, hS, fun b o e => ?_⟩)
        have lb := Heap.lt_size e
        refine mv.heap b o ?_ (Heap.get?_push_of_some _ (far b o e))
        simp only [List.mem_cons, List.not_mem_nil, or_false, not_or]
        exact ⟨Nat.ne_of_lt lb, by rw [sz]; exact Nat.ne_of_lt (Nat.lt_succ_of_lt lb)⟩
    · match r2, hr2 with
      | .error e, hr2 => exact hr2
      | .ok (.ret x), ⟨ex, h', tk, et, hS, hk⟩ =>
        subst ex et
        repeat (any_goals first | assumption | wp_step)
        exact k _ _ hS hk
end
/-- set(xs) -/
noncomputable def rSetK (K : PySem.W.Frag) (P : Program) (w : World) : List V → Hp → VK → Prop := fun xs H Q => ∃ (l : Addr) (ks : List Key), xs = [.ref l] ∧ SqL K H l (ks.map kV) ∧ ks.length ≤ 4000 ∧
  ∀ p, H p = none → Q (.ref p) (upd H p (SetK P w p (hasB (ks.foldl metK [])) (ks.foldl metK []).length))
theorem cr_setK {X : Cx} (hc : X.calm = true) : CallR X (.type "set") (rSetK X.K X.prog X.w) := by
  intro pins s σ H xs us Q I r h
  obtain ⟨l, ks, rfl, hq, hn, q⟩ := h
  rw [Vals.ref1 r]
  obtain ⟨its, rv, pl, hz⟩ := I.list hq
  have b : scanBound = 4096 := rfl
  refine call_setK (I.ok.hd hc) pl.isList rv (by omega) fun h' tk hS keep => ?_
  exact ⟨.ref s.heap.objs.size, _, I.laid (t' := tk) (fun b u e => keep b u e) (Nat.le_refl _) (setK_new hS), rfl, q _ (I.hok.fresh (Nat.le_refl _))⟩
end L2
namespace PD
open PySem PySem.Spec PyProof.Rows L2
theorem ded_met : ∀ (zs acc : List (List Nat)), (zs.map keyS).foldl metK (acc.map keyS) = (ded acc zs).map keyS
  | [], acc => rfl
  | z :: zs, acc => by
    have e : metK (acc.map keyS) (keyS z) = (if z ∈ acc then acc else acc ++ [z]).map keyS := by
      unfold metK
      by_cases h : z ∈ acc
      · rw [if_pos h, if_pos (hasB_iff.mpr (List.mem_map.mpr ⟨z, h, rfl⟩))]
      · rw [if_neg h, if_neg fun m => ?_, List.map_append]
        · rfl
        · obtain ⟨y, my, q⟩ := List.mem_map.mp (hasB_iff.mp m)
          exact h (keyS_inj q ▸ my)
    show (zs.map keyS).foldl metK (metK (acc.map keyS) (keyS z)) = _
    rw [e]
    exact ded_met zs _
noncomputable def dLenSet : List D → Option D
  | [.lst xs] => match strsOf xs with
    | some zs => if zs.length ≤ 4000 then some (.int ((ded [] zs).length : Nat)) else none
    | none => none
  | _ => none
noncomputable def rLenSet (K : PySem.W.Frag) (P : Program) (w : World) : List V → Hp → VK → Prop := fun xs H Q => rSetK K P w xs H fun v H1 => ∃ (a : Addr) (S : Key → Bool) (n : Nat), [v] = [.ref a] ∧ H1 a = some (SetK P w a S n) ∧ Q (.int (n : Nat)) H1
section
variable {X : Cx} {L : LE} {fl : List Sh} {W : WX} {pos : Pos} {bw bw2 : Bool}
theorem cd_lenSet (hK : X.K = L.K) : CallD L (rLenSet X.K X.prog X.w) bw (.d bw2) dLenSet := fun F H vs ds d s nt hx e Q q => by
  unfold dLenSet at e
  split at e
  · rename_i xs
    split at e
    · rename_i zs qz
      split at e <;> cases e
      rename_i hl
      obtain ⟨v, rfl, h⟩ := datL1 hx
      obtain ⟨a, ws, rfl, h1, h2⟩ := dat_sq h
      have e1 := strs_V h2 qz
      have e2 : (zs.map keyS).map kV = ws := by
        rw [e1, List.map_map, List.map_map]
        rfl
      refine ⟨a, zs.map keyS, rfl, by rw [hK, e2]; exact sm_l (cond_sm s) (SqL.of h1), by simpa using hl, fun p hp => ⟨p, _, _, rfl, upd_same, ?_⟩⟩
      have e3 := ded_met zs []
      rw [List.map_nil] at e3
      rw [e3, List.length_map]
      exact q _ F _ [] (Ext.newH s nt hp) (.d .int) List.nodup_nil fun a m => nomatch m
    · cases e
  · cases e
theorem pe_lenSetK {e : Expr} {t : TA} {p p2 q : Pos} (hl : X.mg "len" = none) (hs : X.mg "set" = none) (ha : PA X [e] t) (hc : X.calm = true) (gl : Gl X "len") (gs : Gl X "set")
    (he : starEach [e] X.env = (false, eval e X.env) :: starEach [] X.env) (he2 : starEach [.Call (.Name "set" p2) [e] [] q] X.env = (false, eval (.Call (.Name "set" p2) [e] [] q) X.env) :: starEach [] X.env)
    (hp : (backTo pos (starEach [] X.env)).any (·.1) = false) (hp2 : (backTo q (starEach [] X.env)).any (·.1) = false) :
    PE X (.Call (.Name "len" p) [.Call (.Name "set" p2) [e] [] q] [] pos) (tCB (rLenSet X.K X.prog X.w) t) :=
  (pe_callB call_lenK gl hl PySem.boot_len (pa_cons (pe_callTy (cr_setK hc) gs hs PyProof.Rows.boot_set ha (he := he) (hpl := hp2)) pa_nil he2) (he := he2) (hpl := hp)).imp fun σ H Q h => h
theorem e_lenSet {e : Expr} {p p2 q : Pos} {fs : Env → R (List D)} (hK : X.K = L.K) (hl : X.mg "len" = none) (hs : X.mg "set" = none) (ha : PA X [e] (tA L fl bw W fs)) (hc : X.calm = true := by rfl) (gl : Gl X "len" := by rfl) (gs : Gl X "set" := by rfl)
    (he : starEach [e] X.env = (false, eval e X.env) :: starEach [] X.env := by rfl) (he2 : starEach [.Call (.Name "set" p2) [e] [] q] X.env = (false, eval (.Call (.Name "set" p2) [e] [] q) X.env) :: starEach [] X.env := by rfl)
    (hp : (backTo pos (starEach [] X.env)).any (·.1) = false := by rfl) (hp2 : (backTo q (starEach [] X.env)).any (·.1) = false := by rfl) :
    PE X (.Call (.Name "len" p) [.Call (.Name "set" p2) [e] [] q] [] pos) (tD L fl (.d bw2) W (mN dLenSet fs)) :=
  (pe_lenSetK hl hs ha hc gl gs he he2 hp hp2).imp fun _ _ _ h => t_call (cd_lenSet hK) h
end
end PD
set_option Elab.async false
set_option linter.all false
set_option maxRecDepth 100000
set_option maxHeartbeats 1000000
/-! # x.pop(e) as a statement -/
namespace PD
open PySem PySem.Spec PyProof.Rows L2
theorem DatL.erase {K : PySem.W.Frag} {F : Hp} : ∀ {vs : List V} {ds : List D} (n : Nat), DatL K F vs ds → DatL K F (vs.eraseIdx n) (ds.eraseIdx n)
  | _, _, _, .nil => .nil
  | _, _, 0, .cons h r => r
  | _, _, n + 1, .cons h r => .cons h (DatL.erase n r)
section
variable {X : Cx} {L : LE} {J : Jn} {fl fl1 : List Sh} {W : WX} {pos : Pos} {bw : Bool}
end
end PD
set_option Elab.async false
set_option linter.all false
set_option maxRecDepth 100000
set_option maxHeartbeats 2000000
/-! # an error whose __init__ says super().__init__("..") and stores a field -/
namespace L2
open PySem PySem.Spec PyProof.Rows PySem.W PySem.Calls
section
variable {X : Cx} {pins : List (Addr × Obj)} {σ : L2.St} {H : Hp} {s : Shared} {A : Around} {E : Value → Shared → Prop}
end
/-- what C.__init__(self, v) does -/
noncomputable def supSp (K : Frag) (D : Addr) (fld : Str) : Sp := fun vs H Q _ => ∃ (a : Addr) (v : V), vs = [.ref a, v] ∧ H a = some (exo a D none) ∧ ∀ dx, H dx = none → dx ≠ a → Q .non (upd (upd H dx (exd dx [(fld, v)])) a (exo a D (some dx)))
section
variable {P : Program} {w : World} {K : Frag} {mg : Str → Option Value} {base : Heap} {CX : CXT} {k j : Nat} {f D cc cda : Addr} {name qual fld txt : Str} {params : Arguments} {scope : Scope} {dV kV doc pm ct oc ccl cl : Value} {an od cdd cld : Option Addr} {osl ccs csl : Array (Option Value)} {ar : Arg} {vs : Array Value} {file : Str} {tf : Tok} {p0 p1 p2 p3 p4 p5 p6 p7 p8 p9 : Pos}
end
end L2
set_option Elab.async false
set_option linter.all false
set_option maxRecDepth 100000
set_option maxHeartbeats 2000000
/-! # errors with a field: raised, caught, read -/
namespace PD
open PySem PySem.Spec PyProof.Rows L2
/-- an own class of errors whose __init__ keeps one field -/
structure XcF (P : Program) (w : World) (K : PySem.W.Frag) (mg : Str → Option Value) (base : Heap) (L : LE) (k : Nat) (c fld : Str) : Prop where
  g : mg c = some (.ref (L.ca c))
  T : OexC K (L.ca c)
  ex : ∃ fI fd, PySem.W.findIn K (.ref (L.ca c)) "__init__" = some (some (.ref fI)) ∧ PySem.W.typeIn K (.ref fI) = some (.type "function") ∧ FnOk P w K mg base (L2.CX P w) k fI fd ["self", fld] (supSp K (L.ca c) fld) ∧ Binds K fd ["self", fld] []
theorem dat_atomF {K : PySem.W.Frag} {F F' : Hp} {v : V} {d : D} (h : Dat K F v d) (a : isAtom d = true) : Dat K F' v d := by
  cases h with
  | non => exact .non
  | bl => exact .bl
  | int => exact .int
  | str => exact .str
  | _ => cases a
section
variable {X : Cx} {L : LE} {fl fl' : List Sh} {W : WX} {pos : Pos} {J : Jn}
/-! ### caught -/
noncomputable def EoOk (L : LE) (d : Option Addr) (eo : Option (Addr × List (Str × V))) (fs : List (Str × D)) : Prop := match fs with
  | [] => d = none ∧ eo = none
  | _ => ∃ dx ws, d = some dx ∧ eo = some (dx, ws) ∧ ∀ p ∈ fs, ∃ v, ws.lookup p.1 = some v ∧ isAtom p.2 = true ∧ ∀ F, Dat L.K F v p.2
theorem eoOk_of {L : LE} {c : Str} {fs : List (Str × D)} {cls : Value} {d : Option Addr} {F H : Hp} (e : ErrOk L c fs cls d F H) : ∃ eo, EoOk L d eo fs ∧ ∀ dx ws, eo = some (dx, ws) → F dx = some (.xd ws) := by
  cases fs with
  | nil => exact ⟨none, ⟨e.2, rfl⟩, fun _ _ z => nomatch z⟩
  | cons p fs =>
    obtain ⟨_, dx, ws, h1, h2, h3⟩ := e
    refine ⟨some (dx, ws), ⟨dx, ws, h1, rfl, fun p hp => ?_⟩, fun dx' ws' z => by cases z; exact h2⟩
    obtain ⟨v, a1, a2, a3⟩ := h3 p hp
    exact ⟨v, a1, a2, fun F => dat_atomF a3 a2⟩
theorem EoOk.dict {L : LE} {d : Option Addr} {eo : Option (Addr × List (Str × V))} {fs : List (Str × D)} (h : EoOk L d eo fs) : (d = none ∧ eo = none) ∨ ∃ dx ws, d = some dx ∧ eo = some (dx, ws) := by
  cases fs with
  | nil => exact .inl h
  | cons p fs =>
    obtain ⟨dx, ws, h1, h2, _⟩ := h
    exact .inr ⟨dx, ws, h1, h2⟩
theorem EoOk.look {L : LE} {d : Option Addr} {eo : Option (Addr × List (Str × V))} {fs : List (Str × D)} (h : EoOk L d eo fs) {f : Str} {y : D} (l : fs.lookup f = some y) : ∃ dx ws v, d = some dx ∧ eo = some (dx, ws) ∧ ws.lookup f = some v ∧ ∀ F, Dat L.K F v y := by
  cases fs with
  | nil => cases l
  | cons p fs =>
    obtain ⟨dx, ws, h1, h2, h3⟩ := h
    have key : ∀ l : List (Str × D), l.lookup f = some y → (f, y) ∈ l := by
      intro l
      induction l with
      | nil => intro h; cases h
      | cons q l ih =>
        intro h
        obtain ⟨g, z⟩ := q
        rw [List.lookup_cons] at h
        cases e : f == g with
        | true =>
          rw [e] at h
          cases h
          rw [beq_iff_eq] at e
          subst e
          exact List.mem_cons_self
        | false =>
          rw [e] at h
          exact List.mem_cons_of_mem _ (ih h)
    obtain ⟨v, a1, _, a3⟩ := h3 _ (key _ l)
    exact ⟨dx, ws, v, h1, h2, a1, a3⟩
/-- a clause whose suite may read the fields -/
structure Cl3 where
  tbl : Str → Option Bool
  io : Option Nat
  g : List (Str × D) → Env → R Fl
noncomputable def goN3 : List Cl3 → Str → List (Str × D) → Env → R Fl
  | [], c, fs, ρ => .ok (.ex c fs ρ)
  | k :: r, c, fs, ρ => match k.tbl c with
    | some true => endN k.io (k.g fs (clrI k.io ρ))
    | some false => goN3 r c fs ρ
    | none => .stuck
noncomputable def xfl3 (fl : List Sh) (io : Option Nat) (a : Addr) (eo : Option (Addr × List (Str × V))) : List Sh := match io with
  | some i => (List.replicate fl.length .s).set i (.x (.ref a) eo)
  | none => List.replicate fl.length .s
inductive Cls3 (X : Cx) (L : LE) (J : Jn) (fl fl' : List Sh) : List ExceptHandler → List Cl3 → List Cl1 → Prop
  | nil : Cls3 X L J fl fl' [] [] []
  | cons {x : Str} {no : Option Str} {io : Option Nat} {tbl : Str → Option Bool} {g : List (Str × D) → Env → R Fl} {b0 : Stmt} {suite : List Stmt} {np p2 : Pos} {hs : List ExceptHandler} {cl : List Cl3} {l : List Cl1} {flE : Addr → Option (Addr × List (Str × V)) → List Sh}
      (hg : Gl X x) (hd : (x == ("__debug__" : Str)) = false) (hm : X.mg x = some (.ref (L.ca x))) (ht : ∀ c b, tbl c = some b → PySem.W.exmOne X.K (.ref (L.ca c)) (.ref (L.ca x)) = some b ∧ (b = true → c = x)) (hio : slotOk X no io)
      (hfl : ∀ a eo, (match io with | some i => (flE a eo).set i .s | none => flE a eo) = fl')
      (hsu : ∀ (a : Addr) (oe : Obj) (pn : List (Addr × Obj)) (d : Option Addr) (eo : Option (Addr × List (Str × V))) (fs : List (Str × D)), Zc (.ref (L.ca x)) d oe → (∃ vs, oe.data = .fields vs) → EoOk L d eo fs → PSs (X.suite a ((a, oe) :: pn)) (b0 :: suite) (tS L J (xfl3 fl io a eo) (flE a eo) W0 (g fs)))
      (r : Cls3 X L J fl fl' hs cl l) :
      Cls3 X L J fl fl' (.ExceptHandler (some (.Name x np)) no (b0 :: suite) p2 :: hs) (⟨tbl, io, g⟩ :: cl)
        ((.ref (L.ca x), io, fun a k d D σ H => ∃ eo fs, (k = .ref (L.ca x) ∧ EoOk L d eo fs) ∧ tS L J (xfl3 fl io a eo) (flE a eo) W0 (g fs) D σ H) :: l)
theorem Cls3.run {hs : List ExceptHandler} {cl : List Cl3} {l : List Cl1} (h : Cls3 X L J fl fl' hs cl l) {D : Ends} {F B F' H' : Hp} {c : Str} {fs : List (Str × PD.D)} {ρ' : Env} {σ' : L2.St} {d : Option Addr} {fl0 : List Sh}
    (r : Rep L fl0 F' B σ' H' ρ') (hl : fl0.length = fl.length) (s : Same F F') (er : ErrOk L c fs (.ref (L.ca c)) d F' H') (p : PostS L J fl' F B W D (goN3 cl c fs ρ')) : wN X.K W D l (.ref (L.ca c)) d σ' H' := by
  induction h with
  | nil => exact p (.ref (L.ca c)) d fl0 σ' F' H' s r er
  | @cons x no io tbl g b0 suite np p2 hs cl l flE hg hd hm ht hio hfl hsu _ ih =>
    unfold goN3 at p
    dsimp only at p
    cases qt : tbl c with
    | none => rw [qt] at p; exact p.elim
    | some b =>
      obtain ⟨t1, t2⟩ := ht c b qt
      rw [qt] at p
      cases b with
      | false => exact ⟨false, t1, fun z => (nomatch z), fun _ => ih p⟩
      | true =>
        refine ⟨true, t1, fun _ a ha => ?_, fun z => (nomatch z)⟩
        have ex := t2 rfl
        subst ex
        dsimp only at p
        obtain ⟨eo, heo, hF⟩ := eoOk_of er
        refine ⟨eo, fs, ⟨rfl, heo⟩, ?_⟩
        obtain ⟨F2, s2, r2⟩ := r.frzAll
        rw [hl] at r2
        cases io with
        | none =>
          refine ⟨F2, B, _, r2, ?_⟩
          have hf : flE a eo = fl' := hfl a eo
          rw [hf]
          have p : PostS L J fl' F B W D (endN none (g fs ρ')) := p
          show PostS L J fl' F2 B W0 D (g fs ρ')
          cases qg : g fs ρ' with
          | ok z =>
            rw [qg] at p
            cases z with
            | rt d => exact PostS.weak (r := .ok (.rt d)) p (s.trans s2)
            | nx ρ2 => exact PostS.weak (r := .ok (.nx ρ2)) p (s.trans s2)
            | _ => exact p.elim
          | _ => rw [qg] at p; exact p.elim
        | some i =>
          have r3 := r2.setX i (.ref a) eo (fun dx ws z => s2 _ _ (hF dx ws z))
          refine ⟨F2, B, _, r3, ?_⟩
          have hf : (flE a eo).set i .s = fl' := hfl a eo
          have p : PostS L J fl' F B W D (endN (some i) (g fs (ρ'.set i none))) := p
          show PostS L J (flE a eo) F2 B W0 _ (g fs (ρ'.set i none))
          cases qg : g fs (ρ'.set i none) with
          | ok z =>
            rw [qg] at p
            cases z with
            | rt d => exact PostS.weak (r := .ok (.rt d)) p (s.trans s2)
            | nx ρ2 =>
              have p := PostS.weak (r := .ok (.nx (ρ2.set i none))) p (s.trans s2)
              exact fun σ3 F3 H3 s3 r4 => p _ F3 H3 s3 (r4.clr i hf.symm)
            | _ => exact p.elim
          | _ => rw [qg] at p; exact p.elim
/-! ### read -/
structure XfL (K : PySem.W.Frag) (L : LE) (c fld : Str) : Prop where
  x : XfC K (L.ca c)
  n : PySem.W.findIn K (.ref (L.ca c)) fld = some none
/-! ### isinstance of it -/
end
end PD
set_option Elab.async false
set_option linter.all false
set_option maxRecDepth 100000
set_option maxHeartbeats 2000000
/-! # zip of two, each a list or a tuple -/
namespace L2
open PySem PySem.Spec PyProof.Rows
noncomputable def IkK (t : Bool) (h : Heap) (it a : Addr) (i : Nat) : Prop := cond t (h.IsTupleIter it a i) (h.IsListIter it a i)
section
variable {X : Cx} {pins : List (Addr × Obj)} {σ : L2.St} {H : Hp} {s : Shared} {a it : Addr} {xs : List V} {h h' : Heap} {i : Nat}
theorem IkK.at {t : Bool} (x : IkK t h it a i) (k : ∀ o, h.get? it = some o → h'.get? it = some o) : IkK t h' it a i := by
  cases t with
  | false => exact Heap.IsListIter.at x fun o q => k o q
  | true => exact Heap.IsTupleIter.at x fun o q => k o q
theorem IkK.obj {t : Bool} (x : IkK t h it a i) : ∃ o, h.get? it = some o ∧ ∀ v, o.data ≠ .cell v := by
  cases t with
  | false =>
    obtain ⟨o, e, _, d⟩ := x
    exact ⟨o, e, fun v q => by rw [d] at q; cases q⟩
  | true =>
    obtain ⟨o, e, _, d⟩ := x
    exact ⟨o, e, fun v q => by rw [d] at q; cases q⟩
end
end L2
namespace PD
open PySem PySem.Spec PyProof.Rows L2
noncomputable def sqD : D → Option (List D)
  | .lst xs => some xs
  | .tup xs => some xs
  | _ => none
section
variable {X : Cx} {L : LE} {fl : List Sh} {W : WX} {pos : Pos}
end
end PD
set_option Elab.async false
set_option linter.all false
set_option maxRecDepth 100000
set_option maxHeartbeats 2000000
/-! # enumerate of a list or a tuple -/
namespace L2
open PySem PySem.Spec PyProof.Rows
end L2
namespace PD
open PySem PySem.Spec PyProof.Rows L2
noncomputable def gEnS (d : D) : Option (List D) := (sqD d).map (enumL 0)
@[simp] theorem gEnS_l {xs : List D} : gEnS (.lst xs) = some (enumL 0 xs) := Eq.trans rfl rfl
@[simp] theorem gEnS_t {xs : List D} : gEnS (.tup xs) = some (enumL 0 xs) := Eq.trans rfl rfl
section
variable {X : Cx} {L : LE} {fl : List Sh} {W : WX} {pos : Pos}
end
end PD
set_option Elab.async false
set_option linter.all false
set_option maxRecDepth 100000
set_option maxHeartbeats 1000000
/-! # text.rfind(word, 0, end) -/
namespace PD
open PySem PySem.Spec PyProof.Rows L2
noncomputable def dRfind4 (s : List Nat) : List D → Option D
  | [.str t, .int i, .int j] => if i = 0 ∧ 0 ≤ j ∧ j ≤ s.length then some (.int (rfindI (s.take j.toNat) t)) else none
  | _ => none
section
variable {L : LE}
end
@[simp] theorem dRfind4_s {s t : List Nat} {j : Int} (h0 : 0 ≤ j) (h1 : j ≤ s.length) : dRfind4 s [.str t, .int 0, .int j] = some (.int (rfindI (s.take j.toNat) t)) := if_pos ⟨rfl, h0, h1⟩
end PD
set_option Elab.async false
set_option linter.all false
set_option maxRecDepth 100000
set_option maxHeartbeats 2000000
/-! # seen = set(); for ..: (a statement); if c or w in seen: (raise); seen.add(w) -/
namespace PD
open PySem PySem.Spec PyProof.Rows L2
section
variable {L : LE} {fl : List Sh} {F B H : Hp} {σ σ' : L2.St} {ρ : Env}
theorem Bs.dropB {B' : Hp} (b : Bs L F B' H) (s : Same B B') : Bs L F B H :=
  ⟨b.fh, fun a o q => b.bh a o (s a o q), fun a o q t => b.fb a o (s a o q) t, b.nf, fun a o q => b.nb a o (s a o q), b.tab⟩
theorem Rep.dropB {B' : Hp} (r : Rep L fl F B' σ H ρ) (s : Same B B') : Rep L fl F B σ H ρ := by
  obtain ⟨Ss, h1, h2, h3, h4⟩ := r.sl
  exact ⟨r.bs.dropB s, r.ls, r.lr, r.px, Ss, h1, h2, h3, fun i a m => ⟨(h4 i a m).1, s.free (h4 i a m).2.1, (h4 i a m).2.2⟩⟩
end
/-! ### the loop -/
section
variable {X : Cx} {L : LE} {J : Jn} {fl fl' : List Sh} {W : WX}
end
end PD
set_option Elab.async false
set_option linter.all false
set_option maxRecDepth 100000
set_option maxHeartbeats 2000000
/-! # for y in x: .., x a list of trees of one's own that is given up: each one is the body's own in its turn -/
namespace PD
open PySem PySem.Spec PyProof.Rows L2
section
variable {L : LE} {fl : List Sh} {F B H : Hp} {σ σ' : L2.St} {ρ : Env}
open Classical in
/-- and a part of it taken back into a slot -/
theorem Rep.back (r : Rep L fl F B σ H ρ) {B' : Hp} (sB : Same B' B) {j : Nat} {v : V} {d : PD.D} {sh shj : Sh} {S : List Addr} (ho : Own L.K F H sh v d S) (nb : sh.noB = true) (nd : S.Nodup) (hS : ∀ a ∈ S, B a = H a ∧ B' a = none ∧ ∃ o, H a = some o ∧ isTT o = false) (hj : fl[j]? = some shj) (xj : shj.isX = false) : Rep L (fl.set j sh) F B' (σ.set j (some v)) H (ρ.set j (some d)) := by
  have hl : j < fl.length := (List.getElem?_eq_some_iff.mp hj).1
  have r2 := r.dropB sB
  obtain ⟨Ss, h1, h2, h3, h4⟩ := r.sl
  have hF : ∀ a ∈ S, F a = none := fun a m => by
    obtain ⟨e1, _, o, e2, e3⟩ := hS a m
    exact r.bs.fb a o (by rw [e1]; exact e2) (tt_tup e3)
  have dis : ∀ m a, a ∈ Ss m → a ∉ S := fun m a z w => by
    obtain ⟨e1, _, o, e2, _⟩ := hS a w
    have := (h4 m a z).2.1
    rw [e1, e2] at this; cases this
  refine ⟨r2.bs, by rw [List.length_set, List.length_set]; exact r.ls, by rw [List.length_set, List.length_set]; exact r.lr, fun m u eo q => ?_, fput Ss j S, fun m d2 q => ?_, fun m1 m2 a z1 z2 => ?_, fun m => ?_, fun m a z => ?_⟩
  · by_cases c : m = j
    · subst c
      rw [List.getElem?_set_self hl] at q
      cases q
      cases nb
    · rw [List.getElem?_set_ne (Ne.symm c)] at q ⊢
      exact r.px m u eo q
  · by_cases c : m = j
    · subst c
      rw [List.getElem?_set_self (by rw [r.lr]; exact hl)] at q
      cases q
      rw [fput_eq rfl]
      exact ⟨v, sh, List.getElem?_set_self (by rw [r.ls]; exact hl), List.getElem?_set_self hl, nb, ho⟩
    · rw [List.getElem?_set_ne (Ne.symm c)] at q
      obtain ⟨v', sh', b1, b2, b3, b4⟩ := h1 m d2 q
      rw [fput_ne c]
      exact ⟨v', sh', by rw [List.getElem?_set_ne (Ne.symm c)]; exact b1, by rw [List.getElem?_set_ne (Ne.symm c)]; exact b2, b3, b4⟩
  · by_cases c1 : m1 = j
    · by_cases c2 : m2 = j
      · rw [c1, c2]
      · rw [fput_eq c1] at z1; rw [fput_ne c2] at z2; exact absurd z1 (dis m2 a z2)
    · by_cases c2 : m2 = j
      · rw [fput_ne c1] at z1; rw [fput_eq c2] at z2; exact absurd z2 (dis m1 a z1)
      · rw [fput_ne c1] at z1; rw [fput_ne c2] at z2; exact h2 m1 m2 a z1 z2
  · by_cases c : m = j
    · rw [fput_eq c]; exact nd
    · rw [fput_ne c]; exact h3 m
  · by_cases c : m = j
    · rw [fput_eq c] at z
      exact ⟨hF a z, (hS a z).2.1, (hS a z).2.2⟩
    · rw [fput_ne c] at z
      obtain ⟨q1, q2, q3⟩ := h4 m a z
      exact ⟨q1, sB.free q2, q3⟩
end
section
variable {X : Cx} {L : LE} {J : Jn} {fl : List Sh} {W : WX} {pos : Pos}
end
end PD
set_option Elab.async false
set_option linter.all false
set_option maxRecDepth 100000
set_option maxHeartbeats 2000000
/-! # paths in a tree of one's own: x[k1][k2].append(e), a list in it turned round by one -/
namespace PD
open PySem PySem.Spec PyProof.Rows L2
/-- the way in the heap -/
noncomputable def VP (H : Hp) : V → List Nat → V → Prop
  | v, [], w => v = w
  | v, k :: ks, w => ∃ a vs u, v = .ref a ∧ (H a = some (.lst vs) ∨ H a = some (.tup vs)) ∧ vs[k]? = some u ∧ VP H u ks w
theorem VP.snoc {H : Hp} {k : Nat} {w : V} : ∀ {ks : List Nat} {v : V}, VP H v (ks ++ [k]) w → ∃ u, VP H v ks u ∧ VP H u [k] w
  | [], v, h => ⟨v, rfl, h⟩
  | j :: ks, v, h => by
    obtain ⟨a, vs, u, h1, h2, h3, h4⟩ := h
    obtain ⟨x, e1, e2⟩ := VP.snoc h4
    exact ⟨x, ⟨a, vs, u, h1, h2, h3, e1⟩, e2⟩
theorem VP.app {H : Hp} {k : Nat} {w u : V} : ∀ {ks : List Nat} {v : V}, VP H v ks u → VP H u [k] w → VP H v (ks ++ [k]) w
  | [], v, h, h2 => by
    have e : v = u := h
    subst e
    exact h2
  | j :: ks, v, h, h2 => by
    obtain ⟨a, vs, x, h1, h3, h4, h5⟩ := h
    exact ⟨a, vs, x, h1, h3, h4, VP.app h5 h2⟩
theorem VP.sm {H H' : Hp} (e : Sm H H') : ∀ {ks : List Nat} {v w : V}, VP H v ks w → VP H' v ks w
  | [], _, _, h => h
  | k :: ks, v, w, h => by
    obtain ⟨a, vs, u, h1, h2, h3, h4⟩ := h
    refine ⟨a, vs, u, h1, ?_, h3, VP.sm e h4⟩
    rcases h2 with h2 | h2
    · exact .inl (e _ _ h2 rfl)
    · exact .inr (e _ _ h2 rfl)
section
variable {K : PySem.W.Frag} {F H : Hp}
/-- one child of many, and what another one in its place gives -/
theorem OwnL.at_ {k : Nat} {d : D} : ∀ {vs : List V} {ds : List D} {S : List Addr}, OwnL K F H .n vs ds S → ds[k]? = some d → ∃ v S1 Sk S2, S = S1 ++ (Sk ++ S2) ∧ vs[k]? = some v ∧ Own K F H .n v d Sk ∧
    ∀ F' H' d' Sk', Sm F F' → TupK H H' → (∀ a ∈ S1 ++ S2, H' a = H a) → Own K F' H' .n v d' Sk' → OwnL K F' H' .n vs (ds.set k d') (S1 ++ (Sk' ++ S2)) := by
  induction k with
  | zero =>
    intro vs ds S h e
    cases h with
    | nil => cases e
    | cons h r =>
      rename_i v0 d0 vs0 ds0 Sa Sb
      cases e
      refine ⟨v0, [], Sa, Sb, rfl, rfl, h, fun F' H' d' Sk' sf tp hh o => ?_⟩
      show OwnL K F' H' .n (v0 :: vs0) (d' :: ds0) (Sk' ++ Sb)
      exact .cons o (OwnL.at sf tp rfl r fun a m => hh a m)
  | succ k ih =>
    intro vs ds S h e
    cases h with
    | nil => cases e
    | cons h r =>
      rename_i v0 d0 vs0 ds0 Sa Sb
      rw [List.getElem?_cons_succ] at e
      obtain ⟨v, S1, Sk, S2, e1, e2, e3, e4⟩ := ih r e
      subst e1
      refine ⟨v, Sa ++ S1, Sk, S2, by rw [List.append_assoc], by rw [List.getElem?_cons_succ]; exact e2, e3, fun F' H' d' Sk' sf tp hh o => ?_⟩
      rw [List.set_cons_succ, List.append_assoc]
      refine .cons (Own.at sf tp rfl h fun a m => hh a (List.mem_append_left _ (List.mem_append_left _ m))) (e4 F' H' d' Sk' sf tp (fun a m => hh a ?_) o)
      rcases List.mem_append.mp m with m | m
      · exact List.mem_append_left _ (List.mem_append_right _ m)
      · exact List.mem_append_right _ m
end
section
variable {L : LE} {fl : List Sh} {F B H : Hp} {σ σ' : L2.St} {ρ : Env}
end
end PD
set_option Elab.async false
set_option linter.all false
set_option maxRecDepth 100000
set_option maxHeartbeats 2000000
/-! # statements on paths: append, turn by one; displays of trees -/
namespace PD
open PySem PySem.Spec PyProof.Rows L2
noncomputable def getD (ρ : Env) (i : Nat) : Option D := match ρ[i]? with
  | some o => o
  | none => none
theorem getD_some {ρ : Env} {i : Nat} {d : D} (h : getD ρ i = some d) : ρ[i]? = some (some d) := by
  unfold getD at h
  split at h
  · rename_i o e
    rw [e, h]
  · cases h
section
variable {X : Cx} {L : LE} {J : Jn} {fl fl1 fl' : List Sh} {W : WX} {pos : Pos}
end
end PD
set_option Elab.async false
set_option linter.all false
set_option maxRecDepth 100000
set_option maxHeartbeats 2000000
/-! # y = x[k] with x a tree of one's own; y.append(e); y[0] = e2 | y.pop(0) -/
namespace PD
open PySem PySem.Spec PyProof.Rows L2
theorem VP.uniq {H : Hp} : ∀ {ks : List Nat} {v w u : V}, VP H v ks w → VP H v ks u → w = u
  | [], v, w, u, h, g => by
    have h : v = w := h
    have g : v = u := g
    rw [← h, g]
  | k :: ks, v, w, u, h, g => by
    obtain ⟨a, vs, x, h1, h2, h3, h4⟩ := h
    obtain ⟨a', vs', x', g1, g2, g3, g4⟩ := g
    rw [h1] at g1
    cases g1
    have e : vs = vs' := by
      rcases h2 with h2 | h2 <;> rcases g2 with g2 | g2 <;> (rw [h2] at g2; cases g2) <;> rfl
    subst e
    rw [h3] at g3
    cases g3
    exact VP.uniq h4 g4
section
variable {X : Cx} {L : LE} {J : Jn} {fl fl1 fl' : List Sh} {W : WX} {pos pos2 pos3 : Pos}
end
end PD
set_option Elab.async false
set_option linter.all false
set_option maxRecDepth 100000
set_option maxHeartbeats 2000000
/-! # a truth value read off trees of one's own: everything is lent as shared -/
namespace PD
open PySem PySem.Spec PyProof.Rows L2
noncomputable def mOkT (f : Env → R Bool) : Env → R Bool := fun ρ => match f ρ with
  | .ok b => .ok b
  | _ => .stuck
section
variable {X : Cx} {L : LE} {J : Jn} {fl fl1 fl' : List Sh} {W : WX} {pos : Pos}
@[simp] theorem mOkT_ok {f : Env → R Bool} {ρ : Env} {b : Bool} (h : f ρ = .ok b) : mOkT f ρ = .ok b := by unfold mOkT; rw [h]
end
end PD
set_option Elab.async false
set_option linter.all false
set_option maxRecDepth 100000
set_option maxHeartbeats 2000000
/-! # d[k].append(e), d[k] = [e], k in d: a dict of one's own with lists of its own -/
namespace PD
open PySem PySem.Spec PyProof.Rows L2
section
variable {L : LE} {fl : List Sh} {F B H : Hp} {σ σ' : L2.St} {ρ : Env}
/-- one of the lists in a slot's dict is changed -/
theorem Rep.mutQ {i k : Nat} {ks : List DKey} {ds xs : List PD.D} (r : Rep L fl F B σ H ρ) (hs : fl[i]? = some .ql) (hx : ρ[i]? = some (some (.dic ks ds))) (hg : ds[k]? = some (.lst xs)) :
    ∃ q us p vs, σ[i]? = some (some (.ref q)) ∧ H q = some (.dK ((ks.map DKey.k).zip us)) ∧ ks.length = us.length ∧ us[k]? = some (.ref p) ∧ us.length = ds.length ∧ H p = some (.lst vs) ∧ DatL L.K F vs xs ∧
      ∀ F' H0 vs' xs', Ext L.T F H F' H0 → DatL L.K F' vs' xs' → Rep L fl F' B σ (upd H0 p (.lst vs')) (ρ.set i (some (.dic ks (ds.set k (.lst xs'))))) := by
  obtain ⟨Ss, h1, h2, h3, h4⟩ := r.sl
  obtain ⟨v, sh, a1, a2, a3, a4⟩ := h1 i _ hx
  rw [hs] at a2
  cases a2
  have n3 := h3 i
  have n4 := h4 i
  have n2 := fun j a => h2 j i a
  generalize hS : Ss i = S0 at a4 n3 n4 n2
  cases a4 with
  | ql hq hk ho =>
    rename_i q us S
    obtain ⟨nq, nS⟩ := List.nodup_cons.mp n3
    obtain ⟨w, S1, Sk, S2, e1, e2, e3, e4⟩ := ho.atL rfl hg
    subst e1
    cases e3 with
    | l hp hpo =>
      rename_i p vs Sk
      obtain ⟨dvs, eS⟩ := OwnL.datS hpo
      subst eS
      obtain ⟨m1, m2, m3⟩ := List.nodup_append.mp nS
      have pin : p ∈ S1 ++ ([p] ++ S2) := List.mem_append_right _ (List.mem_append_left _ List.mem_cons_self)
      have pq : p ≠ q := fun z => nq (z ▸ pin)
      have b6 : p ∈ Ss i := by rw [hS]; exact List.mem_cons_of_mem _ pin
      refine ⟨q, us, p, vs, a1, hq, hk, e2, ho.length, hp, dvs, ?_⟩
      intro F' H0 vs' xs' ex dvs'
      have r' := r.ext ex
      have Fp : F' p = none := ex.hid p _ hp rfl (n4 p (List.mem_cons_of_mem _ pin)).1
      have Bp : B p = none := (n4 p (List.mem_cons_of_mem _ pin)).2.1
      have at_ : ∀ a, a ≠ p → upd H0 p (.lst vs') a = H0 a := fun a z => upd_ne z
      have old : ∀ a ∈ q :: (S1 ++ ([p] ++ S2)), H0 a = H a := fun a m => by
        obtain ⟨_, _, o, q1, q2⟩ := n4 a m
        rw [q1]; exact ex.hh a o q1 q2
      have new := e4 F' (upd H0 p (.lst vs')) (.lst xs') [p] ex.ff.sm (ex.tup.upd (ex.hh p _ hp rfl) rfl) (fun a m => by
        have mm : a ∈ S1 ++ ([p] ++ S2) := by
          rcases List.mem_append.mp m with m | m
          · exact List.mem_append_left _ m
          · exact List.mem_append_right _ (List.mem_append_right _ m)
        have na : a ≠ p := fun z => by
          rcases List.mem_append.mp m with m | m
          · exact m3 a m a (List.mem_append_left _ (z ▸ List.mem_cons_self)) rfl
          · exact (List.nodup_append.mp m2).2.2 p List.mem_cons_self a m z.symm
        rw [at_ a na]
        exact old a (List.mem_cons_of_mem _ mm)) (.l upd_same (OwnL.ofDat dvs'))
      have c1 : Own L.K F' (upd H0 p (.lst vs')) .ql (.ref q) (.dic ks (ds.set k (.lst xs'))) (q :: (S1 ++ ([p] ++ S2))) := .ql (by rw [at_ q (Ne.symm pq), old q List.mem_cons_self]; exact hq) hk new
      refine ⟨⟨fun a o q => ?_, fun a o q => ?_, r'.bs.fb, r'.bs.nf, r'.bs.nb, fun P hP => ?_⟩, r.ls, by rw [List.length_set]; exact r.lr, r'.px, ?_⟩
      · rw [at_ a fun z => by rw [z, Fp] at q; cases q]; exact r'.bs.fh a o q
      · rw [at_ a fun z => by rw [z, Bp] at q; cases q]; exact r'.bs.bh a o q
      · have hp0 := ex.hh p _ hp rfl
        exact tabH_same (fun a o q t => by rw [at_ a fun z => by rw [z, hp0] at q; cases q; cases t]; exact q) (r'.bs.tab P hP)
      · refine ⟨Ss, fun j d' q => ?_, h2, h3, fun j a m => ?_⟩
        · by_cases z : j = i
          · subst z
            have hl : j < ρ.length := (List.getElem?_eq_some_iff.mp hx).1
            rw [List.getElem?_set_self hl] at q
            cases q
            rw [hS]
            exact ⟨_, _, a1, hs, a3, c1⟩
          · rw [List.getElem?_set_ne (Ne.symm z)] at q
            obtain ⟨v', sh', b1, b2, b3, b4⟩ := h1 j d' q
            refine ⟨v', sh', b1, b2, b3, Own.at ex.ff.sm (ex.tup.upd (ex.hh p _ hp rfl) rfl) b3 b4 fun a m => ?_⟩
            have na : a ≠ p := fun w => z (h2 j i a m (by rw [w]; exact b6))
            rw [at_ a na]
            obtain ⟨_, _, u, q3, q4⟩ := h4 j a m
            rw [q3]
            exact ex.hh a u q3 q4
        · obtain ⟨k1, k2, u, k3, k4⟩ := h4 j a m
          refine ⟨ex.hid a u k3 k4 k1, k2, ?_⟩
          by_cases z : a = p
          · subst z
            exact ⟨_, upd_same, rfl⟩
          · exact ⟨u, by rw [at_ a z]; exact ex.hh a u k3 k4, k4⟩
/-- a slot's dict of lists changes -/
theorem Rep.mutD {i : Nat} {ks : List DKey} {xs : List PD.D} (r : Rep L fl F B σ H ρ) (hs : fl[i]? = some .ql) (hx : ρ[i]? = some (some (.dic ks xs))) :
    ∃ p vs S, σ[i]? = some (some (.ref p)) ∧ H p = some (.dK ((ks.map DKey.k).zip vs)) ∧ ks.length = vs.length ∧ OwnL L.K F H (.l .s) vs xs S ∧ p ∉ S ∧ F p = none ∧ B p = none ∧ S.Nodup ∧ (∀ a ∈ S, F a = none ∧ B a = none) ∧
      ∀ F' H0 ks' vs' xs' S', Ext L.T F H F' H0 → ks'.length = vs'.length → OwnL L.K F' H0 (.l .s) vs' xs' S' → p ∉ S' → S'.Nodup → (∀ a ∈ S', F' a = none ∧ B a = none) → (∀ a ∈ S', a ∈ S ∨ Nw H a) →
        Rep L fl F' B σ (upd H0 p (.dK ((ks'.map DKey.k).zip vs'))) (ρ.set i (some (.dic ks' xs'))) := by
  obtain ⟨Ss, h1, h2, h3, h4⟩ := r.sl
  obtain ⟨v, sh, a1, a2, a3, a4⟩ := h1 i _ hx
  rw [hs] at a2
  cases a2
  have n3 := h3 i
  have n4 := h4 i
  have n2 := fun j a => h2 i j a
  generalize hS : Ss i = S0 at a4 n3 n4 n2
  cases a4 with
  | ql hp hk ho =>
    rename_i p vs S
    have hpS : p ∉ S ∧ S.Nodup := List.nodup_cons.mp n3
    refine ⟨p, vs, S, a1, hp, hk, ho, hpS.1, (n4 p List.mem_cons_self).1, (n4 p List.mem_cons_self).2.1, hpS.2, fun a m => ⟨(n4 a (List.mem_cons_of_mem _ m)).1, (n4 a (List.mem_cons_of_mem _ m)).2.1⟩, ?_⟩
    intro F' H0 ks' vs' xs' S' ex hk' ho' np' nd' fr' from_
    have r' := r.ext ex
    have Fp : F' p = none := ex.hid p _ hp rfl (n4 p List.mem_cons_self).1
    have Bp : B p = none := (n4 p List.mem_cons_self).2.1
    have at_ : ∀ a, a ≠ p → upd H0 p (.dK ((ks'.map DKey.k).zip vs')) a = H0 a := fun a z => upd_ne z
    have Sle : (Sh.l .s).noB = true := rfl
    refine ⟨⟨fun a o q => ?_, fun a o q => ?_, r'.bs.fb, r'.bs.nf, r'.bs.nb, fun P hP => ?_⟩, r.ls, by rw [List.length_set]; exact r.lr, r'.px, ?_⟩
    · rw [at_ a fun z => by rw [z, Fp] at q; cases q]; exact r'.bs.fh a o q
    · rw [at_ a fun z => by rw [z, Bp] at q; cases q]; exact r'.bs.bh a o q
    · have hp0 := ex.hh p _ hp rfl
      exact tabH_same (fun a o q t => by rw [at_ a fun z => by rw [z, hp0] at q; cases q; cases t]; exact q) (r'.bs.tab P hP)
    · refine ⟨fput Ss i (p :: S'), fun j d' q => ?_, fun j k a m1 m2 => ?_, fun j => ?_, fun j a m => ?_⟩
      · by_cases z : j = i
        · subst z
          rw [fput_eq rfl]
          have hl : j < ρ.length := (List.getElem?_eq_some_iff.mp hx).1
          rw [List.getElem?_set_self hl] at q
          cases q
          exact ⟨_, _, a1, hs, a3, .ql upd_same hk' (OwnL.at (Sm.refl _) (TupK.refl.upd (ex.hh p _ hp rfl) rfl) Sle ho' fun a m => at_ a fun z => np' (z ▸ m))⟩
        · rw [fput_ne z]
          rw [List.getElem?_set_ne (Ne.symm z)] at q
          obtain ⟨v', sh', b1, b2, b3, b4⟩ := h1 j d' q
          refine ⟨v', sh', b1, b2, b3, Own.at ex.ff.sm (ex.tup.upd (ex.hh p _ hp rfl) rfl) b3 b4 fun a m => ?_⟩
          have na : a ≠ p := fun w => z (h2 j i a m (by rw [hS, w]; exact List.mem_cons_self))
          rw [at_ a na]
          obtain ⟨_, _, u, q3, q4⟩ := h4 j a m
          rw [q3]
          exact ex.hh a u q3 q4
      · have key : ∀ j a, j ≠ i → a ∈ Ss j → a ∉ p :: S' := fun j a z m w => by
          rcases List.mem_cons.mp w with w | w
          · exact z (h2 j i a m (by rw [hS, w]; exact List.mem_cons_self))
          · rcases from_ a w with w | w
            · exact z (h2 j i a m (by rw [hS]; exact List.mem_cons_of_mem _ w))
            · obtain ⟨_, _, u, q, t⟩ := h4 j a m
              exact w.no q t
        by_cases z1 : j = i <;> by_cases z2 : k = i
        · rw [z1, z2]
        · rw [fput_eq z1] at m1; rw [fput_ne z2] at m2; exact (key k a z2 m2 m1).elim
        · rw [fput_ne z1] at m1; rw [fput_eq z2] at m2; exact (key j a z1 m1 m2).elim
        · rw [fput_ne z1] at m1; rw [fput_ne z2] at m2; exact h2 j k a m1 m2
      · by_cases z : j = i
        · rw [fput_eq z]; exact List.nodup_cons.mpr ⟨np', nd'⟩
        · rw [fput_ne z]; exact h3 j
      · by_cases z : j = i
        · rw [fput_eq z] at m
          rcases List.mem_cons.mp m with w | w
          · subst w; exact ⟨Fp, Bp, _, upd_same, rfl⟩
          · obtain ⟨o, q1, q2⟩ := ho'.there a w
            exact ⟨(fr' a w).1, (fr' a w).2, o, by rw [at_ a fun y => np' (y ▸ w)]; exact q1, q2⟩
        · rw [fput_ne z] at m
          obtain ⟨q1, q2, u, q3, q4⟩ := h4 j a m
          have na : a ≠ p := fun w => z (h2 j i a m (by rw [hS, w]; exact List.mem_cons_self))
          exact ⟨ex.hid a u q3 q4 q1, q2, u, by rw [at_ a na]; exact ex.hh a u q3 q4, q4⟩
/-- what a slot's dict of lists holds -/
theorem Rep.dictL {i : Nat} {ks : List DKey} {vs : List D} (r : Rep L fl F B σ H ρ) (h : getQ ρ i = some (ks, vs)) (hs : fl[i]? = some .ql) : ∃ p us, σ[i]? = some (some (.ref p)) ∧ H p = some (.dK ((ks.map DKey.k).zip us)) ∧ ks.length = us.length ∧ DatL L.K H us vs := by
  obtain ⟨Ss, h1, _⟩ := r.sl
  obtain ⟨v, sh, a1, a2, _, a4⟩ := h1 i _ (getQ_some h)
  rw [hs] at a2
  cases a2
  generalize Ss i = S at a4
  cases a4 with
  | ql b1 b2 b3 => exact ⟨_, _, a1, b1, b2, OwnL.toB r.bs.fh.sm b3⟩
end
/-- the place of a key -/
noncomputable def kIx : List DKey → DKey → Option Nat
  | [], _ => none
  | k :: ks, x => if k = x then some 0 else (kIx ks x).map (· + 1)
theorem kIx_val {x : DKey} : ∀ {ks : List DKey} {us : List V} {m : Nat} {v : V}, kIx ks x = some m → us[m]? = some v → valV ((ks.map DKey.k).zip us) x.k = some v
  | [], _, _, _, h, _ => by cases h
  | k :: ks, [], m, v, _, h => by cases h
  | k :: ks, u :: us, m, v, h, g => by
    unfold kIx at h
    rw [List.map_cons, List.zip_cons_cons]
    by_cases c : k = x
    · rw [if_pos c] at h
      cases h
      cases g
      exact valV_pos (by rw [c])
    · rw [if_neg c] at h
      cases q : kIx ks x with
      | none => rw [q] at h; cases h
      | some j =>
        rw [q] at h
        cases h
        rw [valV_neg (fun z => c (DKey.k_inj z))]
        exact kIx_val q g
theorem kIx_none {x : DKey} : ∀ {ks : List DKey}, kIx ks x = none → x ∉ ks
  | [], _ => fun m => by cases m
  | k :: ks, h => by
    unfold kIx at h
    by_cases c : k = x
    · rw [if_pos c] at h; cases h
    · rw [if_neg c] at h
      cases q : kIx ks x with
      | none =>
        intro m
        rcases List.mem_cons.mp m with e | m
        · exact c e.symm
        · exact kIx_none q m
      | some j => rw [q] at h; cases h
noncomputable def sDLApp (i : Nat) (fk fe : Env → R D) : Env → R Fl := fun ρ => match getQ ρ i with
  | some (ks, ds) => liftE (fk ρ) ρ fun k => match keyOf k with
    | some kk => match kIx ks kk with
      | some m => match ds[m]? with
        | some (.lst xs) => liftE (fe ρ) ρ fun e => if xs.length < LN then .ok (.nx (ρ.set i (some (.dic ks (ds.set m (.lst (xs ++ [e]))))))) else .stuck
        | _ => .stuck
      | none => .stuck
    | none => .stuck
  | none => .stuck
section
variable {X : Cx} {L : LE} {J : Jn} {fl fl1 fl' : List Sh} {W : WX} {pos : Pos}
theorem s_dlApp (i : Nat) {j0 : Nat} {x : Str} {b e : Expr} {fk fe : Env → R D} {xp sp apos cpos : Pos} (hr : Room j0 X.A) (hb : PE X b (tD L fl .s W fk)) (he : PE X e (tD L fl .s W fe)) (hK : X.K = L.K := by rfl) (hs : fl[i]? = some .ql := by rfl) (hsl : NoSl b := by exact fun _ _ => rfl) (hN : X.N[i]? = some x := by rfl) (hv : Vis X.env.scope x := by first | exact Or.inl rfl | exact Or.inr (Or.inl rfl) | exact Or.inr (Or.inr rfl)) (hd : (x == ("__debug__" : Str)) = false := by decide)
    (hcd : (x == ("__classdict__" : Str)) = false := by decide) (hbase : attributeBase (.Subscript (.Name x xp) b sp) "append" X.env (eval (.Subscript (.Name x xp) b sp) X.env) = eval (.Subscript (.Name x xp) b sp) X.env := by rfl)
    (hfew : ((backTo cpos (starEach [e] X.env)).all (fun x => !x.1) && (backToKw cpos (keywordEach [] X.env)).all (fun x => x.1.isSome) && decide (([e] : List Expr).length + ([] : List Keyword).length + (if ([] : List Keyword).isEmpty then 0 else 1) < 30)) = true := by rfl)
    (hline : (apos.endLine == cpos.line) = true := by rfl) (hse : starEach [e] X.env = (false, eval e X.env) :: starEach [] X.env := by rfl) (hplain : (backTo cpos (starEach [] X.env)).any (·.1) = false := by rfl)
    (hsw : swapsWith (.Call (.Attribute (.Subscript (.Name x xp) b sp) "append" apos) [e] [] cpos) none pos.line X.env = pure false := by rfl) :
    PS X (.Expr (.Call (.Attribute (.Subscript (.Name x xp) b sp) "append" apos) [e] [] cpos) pos) (tS L J fl fl W (sDLApp i fk fe)) :=
  (ps_expr (pe_bm PySem.F.plainAttrs_list PySem.F.slot_list_append PySem.F.type_list_append mt_append (pe_dget (hu_of hr) (pv i hN hv hd hcd) hb hsl) (pa_cons he pa_nil hse) hbase hfew hline hse hplain) hsw).imp fun D σ H ⟨F, B, ρ, r, p⟩ => by
    unfold sDLApp at p
    cases q : getQ ρ i with
    | none => rw [q] at p; exact p.elim
    | some kv =>
      obtain ⟨ks, ds⟩ := kv
      rw [q] at p
      dsimp only at p
      obtain ⟨p0, us0, a1, _⟩ := r.dictL q hs
      refine ⟨.ref p0, a1, F, B, ρ, r, PostS.bindE r p fun dk w F1 H1 S1 _ e1 r1 o1 _ _ p1 => ?_⟩
      cases qk : keyOf dk with
      | none => rw [qk] at p1; exact p1.elim
      | some kk =>
        rw [qk] at p1
        dsimp only at p1
        have ey := keyOf_v (own_d o1).1 qk
        subst ey
        cases q2 : kIx ks kk with
        | none => rw [q2] at p1; exact p1.elim
        | some m =>
          rw [q2] at p1
          dsimp only at p1
          split at p1
          · rename_i xs q3
            obtain ⟨q0, us, l, vs, b1, b2, bk, b3, b4, b5, b6, go⟩ := r1.mutQ hs (getQ_some q) q3
            rw [b1] at a1
            cases a1
            refine ⟨_, .ref l, rfl, by rw [← kIx_val q2 b3]; exact DGet.k b2, .inl ⟨rfl, _, SqL.of b5⟩, F1, B, ρ, r1, PostS.bindE r1 p1 fun d v F' H' S' _ e2 r' o nd fr p2 => ?_⟩
            have hlv := b6.length
            by_cases hl : xs.length < LN
            · rw [if_pos hl] at p2
              refine ⟨l, vs, v, rfl, rfl, e2.hh l _ b5 rfl, lt_line (by omega), ?_⟩
              exact p2 σ F' _ (.refl _) (go F' H' _ _ e2 ((b6.mono e2.ff.sm).append (.cons (own_d o).1 .nil)))
            · rw [if_neg hl] at p2; exact p2.elim
          · exact p1.elim
theorem dlin_key {j0 : Nat} {ks : List DKey} {vs : List D} {us : List V} {G : Hp} {kk : DKey} (a4 : DatL L.K G us vs) : (valV ((ks.map DKey.k).zip us) kk.k).isSome = (dgetV ks vs kk).isSome := by
  obtain ⟨g1, g2⟩ := dget_dat (f := DKey.k) (fun a b => DKey.k_inj) (k := kk) (ks := ks) a4
  cases qd : dgetV ks vs kk with
  | none => rw [g2 qd]; rfl
  | some d =>
    obtain ⟨v, z, _⟩ := g1 d qd
    rw [z]; rfl
theorem t_dlin (i : Nat) {j : Nat} {x : Str} {k : Expr} {fk : Env → R D} {xp : Pos} (hr : Room j X.A) (hk : PE X k (tD L fl .s W fk)) (hs : fl[i]? = some .ql := by rfl) (hN : X.N[i]? = some x := by rfl) (hv : Vis X.env.scope x := by first | exact Or.inl rfl | exact Or.inr (Or.inl rfl) | exact Or.inr (Or.inr rfl)) (hd : (x == ("__debug__" : Str)) = false := by decide)
    (hcd : (x == ("__classdict__" : Str)) = false := by decide) (hb : behindInMarks .In (.Name x xp) = false := by first | exact nobehind _ (by decide) (by decide) | rfl) : PT X (.Compare k [.In] [.Name x xp] pos) (tT L fl W (mB (mDIn i fk))) :=
  (pt_cmp (pc_din (hu_of hr) hk (pv i hN hv hd hcd)) hb).imp fun σ H Q h => by
    obtain ⟨F, B, ρ, r, p⟩ := tT_of h
    unfold mDIn at p
    cases q : getQ ρ i with
    | none => rw [q] at p; exact p.elim
    | some kv =>
      obtain ⟨ks, vs⟩ := kv
      rw [q] at p
      dsimp only at p
      refine tD_bind rfl r (sh := .s) p fun dk y F1 H1 S1 _ e1 r1 o1 _ _ p1 => ?_
      cases qk : keyOf dk with
      | none => rw [qk] at p1; exact p1.elim
      | some kk =>
        rw [qk] at p1
        dsimp only at p1
        have ey := keyOf_v (own_d o1).1 qk
        subst ey
        obtain ⟨p0, us, a1, a2, a3, a4⟩ := r1.dictL q hs
        refine ⟨.ref p0, a1, p0, _, rfl, DGet.k (k := kk.k) a2, ?_⟩
        rw [dlin_key (L := L) (j0 := 0) a4]
        exact postE_ok p1 e1 (.bl (K := L.K))
theorem e_dlnew : PE X (.Dict [] [] pos) (tD L fl .ql W (mC (.dic [] []))) :=
  pe_dnewK.imp fun σ H Q ⟨F, B, ρ, r, p⟩ q hq => p _ F _ [q] (Ext.newH (T := L.T) r.bs.fh r.bs.nf hq) (.ql (us := []) upd_same rfl .nil) (by simp) fun b m => by
    have e : b = q := by simpa using m
    subst e
    exact ⟨r.bs.fh.free hq, .of hq⟩

/-- d[k] = [..], k not yet there -/
noncomputable def sDLPut (i : Nat) (fk fv : Env → R D) : Env → R Fl := fun ρ => liftE (fv ρ) ρ fun v => match getQ ρ i with
  | some (ks, vs) => liftE (fk ρ) ρ fun k => match keyOf k with
    | some kk => if ks.length < LN ∧ kIx ks kk = none then .ok (.nx (ρ.set i (some (.dic (ks ++ [kk]) (vs ++ [v]))))) else .stuck
    | none => .stuck
  | none => .stuck
theorem val_none {x : DKey} : ∀ {ks : List DKey} {us : List V}, x ∉ ks → valV ((ks.map DKey.k).zip us) x.k = none
  | [], _, _ => rfl
  | k :: ks, [], _ => rfl
  | k :: ks, u :: us, h => by
    rw [List.map_cons, List.zip_cons_cons, valV_neg (fun z => h (by rw [DKey.k_inj z]; exact List.mem_cons_self))]
    exact val_none fun m => h (List.mem_cons_of_mem _ m)
theorem s_dlPut (i : Nat) {j : Nat} {x : Str} {k e : Expr} {fk fv : Env → R D} {xp sp : Pos} (hr : Room j X.A) (he : PE X e (tD L fl (.l .s) W fv)) (hk : PE X k (tD L fl .s W fk)) (hs : fl[i]? = some .ql := by rfl) (hN : X.N[i]? = some x := by rfl) (hv : Vis X.env.scope x := by first | exact Or.inl rfl | exact Or.inr (Or.inl rfl) | exact Or.inr (Or.inr rfl)) (hd : (x == ("__debug__" : Str)) = false := by decide)
    (hcd : (x == ("__classdict__" : Str)) = false := by decide) (hsw : swapsWith e (some (.Subscript (.Name x xp) k sp)) pos.line X.env = pure false := by rfl) :
    PS X (.Assign [.Subscript (.Name x xp) k sp] e pos) (tS L J fl fl W (sDLPut i fk fv)) :=
  (ps_dput (hu_of hr) (pv i hN hv hd hcd) hk he hsw).imp fun D σ H ⟨F, B, ρ, r, p⟩ => by
    refine ⟨F, B, ρ, r, PostS.bindE r p fun d v F1 H1 S1 _ e1 r1 o1 nd1 fr1 p1 => ?_⟩
    cases q : getQ ρ i with
    | none => rw [q] at p1; exact p1.elim
    | some kv =>
      obtain ⟨ks, vs⟩ := kv
      rw [q] at p1
      dsimp only at p1
      obtain ⟨p0, us, a1, _⟩ := r1.dictL q hs
      refine ⟨.ref p0, a1, F1, B, ρ, r1, PostS.bindE r1 p1 fun dk y F2 H2 S2 _ e2 r2 o2 _ _ p2 => ?_⟩
      cases qk : keyOf dk with
      | none => rw [qk] at p2; exact p2.elim
      | some kk =>
        rw [qk] at p2
        dsimp only at p2
        by_cases hl : ks.length < LN ∧ kIx ks kk = none
        · rw [if_pos hl] at p2
          have ey := keyOf_v (own_d o2).1 qk
          subst ey
          obtain ⟨pp, us2, S, b1, b2, b3, b4, b5, b6, b7, b8, b9, go⟩ := r.mutD hs (getQ_some q)
          rw [a1] at b1
          cases b1
          have ex := e1.trans e2
          have nk := kIx_none hl.2
          have ez : putK ((ks.map DKey.k).zip us2) kk.k v = ((ks ++ [kk]).map DKey.k).zip (us2 ++ [v]) := by
            rw [putK_new v (val_none nk), List.map_append, List.zip_append (by rw [List.length_map, b3])]
            rfl
          refine ⟨p0, _, rfl, DPut.k (ex.hh _ _ b2 rfl) (by rw [List.length_zip, List.length_map]; exact lt_line (by omega)), ?_⟩
          rw [ez]
          have o3 : Own L.K F2 H2 (.l .s) v d S1 := o1.mono e2.ff.sm e2.hh
          exact p2 _ F2 _ (.refl _) (go F2 H2 (ks ++ [kk]) (us2 ++ [v]) (vs ++ [d]) (S ++ S1) ex (by rw [List.length_append, List.length_append, b3]; rfl) ((b4.mono ex.ff.sm ex.hh).append (.one o3)) (fun m => by
            rcases List.mem_append.mp m with m | m
            · exact b5 m
            · exact (fr1 p0 m).2.no b2 rfl) (List.nodup_append.mpr ⟨b8, nd1, fun a m b m2 z => by
            subst z
            obtain ⟨u, w, t⟩ := b4.there a m
            exact (fr1 a m2).2.no w t⟩) (fun a m => by
            rcases List.mem_append.mp m with m | m
            · obtain ⟨u, w, t⟩ := b4.there a m
              exact ⟨ex.hid a u w t (b9 a m).1, (b9 a m).2⟩
            · obtain ⟨u, w, t⟩ := o1.there a m
              exact ⟨e2.hid a u w t (fr1 a m).1, (fr1 a m).2.none r.bs.bh r.bs.nb⟩) (fun a m => by
            rcases List.mem_append.mp m with m | m
            · exact .inl m
            · exact .inr (fr1 a m).2))
        · rw [if_neg hl] at p2; exact p2.elim
end
end PD
set_option Elab.async false
set_option linter.all false
set_option maxRecDepth 100000
set_option maxHeartbeats 2000000
/-! # for k, v in f(..).items(): the dict is one's own and new -/
namespace L2
open PySem PySem.Spec PyProof.Rows
theorem pe_lockV {X : Cx} {e : Expr} {t : TE} (h : PE X e t) : PE X e (fun σ H Q => t σ H fun x H1 => ∃ d u, x = .ref d ∧ H1 d = some u ∧ Mut (some u) ∧ ∀ od, Q x (upd H1 d (.frz od u))) := by
  refine ⟨fun pins s σ H Q I hw => ?_⟩
  refine thn (h.run pins s σ _ _ I hw) fun v s1 ⟨x, H1, I1, r, d, u, ex, hd, mu, q⟩ => ?_
  obtain ⟨od, I2⟩ := I1.lock hd mu
  exact ⟨x, _, I2, r, q od⟩
end L2
namespace PD
open PySem PySem.Spec PyProof.Rows L2
noncomputable def DKey.d : DKey → D
  | .i n => .int n
  | .s t => .str t
theorem dat_key {K : PySem.W.Frag} {F : Hp} {k : DKey} : Dat K F (kV k.k) k.d := by
  cases k with
  | i n => exact .int
  | s t => exact .str
noncomputable def itemsL (ks : List DKey) (ds : List D) : List D := List.zipWith (fun k d => D.tup [k.d, d]) ks ds
noncomputable def gItems : D → Option (List D)
  | .dic ks ds => some (itemsL ks ds)
  | _ => none
section
variable {X : Cx} {L : LE} {fl : List Sh} {W : WX} {pos : Pos}
theorem PostI.bindN {F H : Hp} {σ : L2.St} {Q : It → Hp → Prop} {r : R D} {k : D → R (List D)} {P : VK} {sh : Sh} (p : PostI L F H (r >>= k) W σ Q) (h : ∀ d v F' H' S, PostI L F H (k d) W σ Q → Ext L.T F H F' H' → Own L.K F' H' sh v d S → S.Nodup → (∀ a ∈ S, F' a = none ∧ Nw H a) → P v H') : PostE L F H sh r W σ P := by
  cases r with
  | ok d => exact fun v F' H' S e o nd fr => h d v F' H' S p e o nd fr
  | err c fs => exact p
  | stuck => exact p
theorem wk_items {F0 : Hp} {p : Addr} {od : Obj} {ks : List DKey} {us : List V} {ds : List D} (hF : F0 p = some (.frz od (.dK ((ks.map DKey.k).zip us)))) (hk : ks.length = us.length) (hd : DatL L.K F0 us ds) : Wk L (Iti p od ((ks.map DKey.k).zip us)) F0 (itemsL ks ds) := fun F H s1 s2 nt => by
  have hH : H p = some (.frz od (.dK ((ks.map DKey.k).zip us))) := s2 _ _ (s1 _ _ hF)
  have n1 := hd.length
  have zl : ((ks.map DKey.k).zip us).length = us.length := by rw [List.length_zip, List.length_map]; omega
  refine ⟨fun i d hi => ?_, fun i hi => ⟨hH, ?_⟩⟩
  · unfold itemsL at hi
    rw [List.getElem?_zipWith] at hi
    cases qx : ks[i]? with
    | none => rw [qx] at hi; simp at hi
    | some kk =>
      cases qy : ds[i]? with
      | none => rw [qx, qy] at hi; simp at hi
      | some dd =>
        rw [qx, qy] at hi
        cases hi
        obtain ⟨v, e1, e2⟩ := hd.get qy
        have hl := (List.getElem?_eq_some_iff.mp e1).1
        refine ⟨⟨hH, by rw [zl]; exact hl⟩, fun r H' yl => ?_⟩
        obtain ⟨T, k, v', g1, rfl, hT, rfl⟩ := yl
        rw [List.getElem?_zip_eq_some, List.getElem?_map, qx, e1] at g1
        obtain ⟨g1, g2⟩ := g1
        cases g1
        cases g2
        have e := Ext.newF (T := L.T) (o := .tup [kV kk.k, v']) s2 nt hT rfl
        exact ⟨_, e, .tup (SqT.of upd_same) (.cons dat_key (.cons (e2.mono (s1.trans e.ff).sm) .nil))⟩
  · unfold itemsL at hi
    rw [List.length_zipWith] at hi
    rw [zl]; omega
theorem i_items {e : Expr} {f : Env → R D} {kk : Nat} {apos cpos tpos : Pos} {elts : List Expr} (he : PE X e (tD L fl .ql W f)) (hK : X.K = L.K := by rfl) (hbase : attributeBase e "items" X.env (eval e X.env) = eval e X.env := by rfl) (hline : (apos.endLine == cpos.line) = true := by rfl) :
    PI X (.Tuple elts kk tpos) (.Call (.Attribute e "items" apos) [] [] cpos) (tI L fl W (iOf gItems f)) := by
  refine ⟨fun pins s σ H Q I h => (pi_items (elts := elts) (kk := kk) (tpos := tpos) (pe_lockV he) hbase hline).run pins s σ H Q I ?_⟩
  obtain ⟨F, B, ρ, r, p⟩ := h
  refine ⟨F, B, ρ, r, PostI.bindN p fun d v F1 H1 S p1 e1 o1 nd fr => ?_⟩
  cases o1 with
  | ql hp hk ho =>
    rename_i a ks us ds S
    obtain ⟨n1, n2⟩ := List.nodup_cons.mp nd
    refine ⟨a, _, rfl, hp, trivial, fun od => ⟨a, od, _, rfl, upd_same, ?_⟩⟩
    have at_ : ∀ b, b ≠ a → upd H1 a (.frz od (.dK ((ks.map DKey.k).zip us))) b = H1 b := fun b z => upd_ne z
    have Fa := (fr a List.mem_cons_self).1
    have fh1 : Same F1 (upd H1 a (.frz od (.dK ((ks.map DKey.k).zip us)))) := fun b o e => by
      rw [at_ b fun z => by rw [z, Fa] at e; cases e]; exact e1.fh b o e
    have s1 : Same F1 (frzH F1 (upd H1 a (.frz od (.dK ((ks.map DKey.k).zip us)))) (a :: S)) := frzH_same fh1
    have hF : frzH F1 (upd H1 a (.frz od (.dK ((ks.map DKey.k).zip us)))) (a :: S) a = some (.frz od (.dK ((ks.map DKey.k).zip us))) := by
      rw [frzH_in List.mem_cons_self, upd_same]
    have dv : DatL L.K (frzH F1 (upd H1 a (.frz od (.dK ((ks.map DKey.k).zip us)))) (a :: S)) us ds := OwnL.frz s1.sm (fun b vs h => frzH_tup b vs (TupK.refl.upd hp rfl b vs h)) rfl ho fun b m => by
      rw [frzH_in (List.mem_cons_of_mem _ m), at_ b fun z => n1 (z ▸ m)]
    refine p1 _ _ _ ⟨fun b o h t => ?_, fun P hP h => ?_, e1.ff.trans s1, frzH_to fh1, fun b o h1 t1 h2 => ?_, frzH_nt e1.nt fun b m => ?_⟩ (wk_items hF hk dv)
    · rw [at_ b fun z => by subst z; exact (fr b List.mem_cons_self).2.no h t]
      exact e1.hh b o h t
    · exact tabH_same (fun b o q t => by rw [at_ b fun z => by rw [z, hp] at q; cases q; cases t]; exact q) (e1.ht P hP h)
    · by_cases m : b ∈ a :: S
      · exact ((fr b m).2.no h1 t1).elim
      · exact frzH_hid (by rw [at_ b fun z => m (by rw [z]; exact List.mem_cons_self)]; exact e1.hh b o h1 t1) t1 m (e1.hid b o h1 t1 h2)
    · rcases List.mem_cons.mp m with z | m
      · subst z; exact ⟨_, upd_same, rfl⟩
      · obtain ⟨o, q1, q2⟩ := ho.there b m
        exact ⟨o, by rw [at_ b fun z => n1 (z ▸ m)]; exact q1, q2⟩
end
end PD
set_option Elab.async false
set_option linter.all false
set_option maxRecDepth 100000
set_option maxHeartbeats 2000000
/-! # a dict of one's own with tuple keys: d.get(t, z), d[t] = e, t a tuple of one's own in a slot -/
namespace PD
open PySem PySem.Spec PyProof.Rows L2
noncomputable def dTupOfN : List D → Option D
  | [.lst xs] => if allAt xs = true then some (.tup xs) else none
  | _ => none
noncomputable def keysOf : List D → Option (List DKey)
  | [] => some []
  | d :: ds => match keyOf d, keysOf ds with
    | some k, some ks => some (k :: ks)
    | _, _ => none
theorem keysOf_v {K : PySem.W.Frag} {F : Hp} : ∀ {ds : List D} {vs : List V} {ks : List DKey}, DatL K F vs ds → keysOf ds = some ks → vs = (ks.map DKey.k).map kV
  | [], _, _, .nil, e => by cases e; rfl
  | d :: ds, _, ks, .cons h r, e => by
    unfold keysOf at e
    cases q : keyOf d with
    | none => rw [q] at e; cases e
    | some k =>
      cases q2 : keysOf ds with
      | none => rw [q, q2] at e; cases e
      | some ks' =>
        rw [q, q2] at e
        cases e
        rw [keyOf_v h q, keysOf_v r q2]
        rfl
theorem mapk_inj {a b : List DKey} (h : a.map DKey.k = b.map DKey.k) : a = b := by
  induction a generalizing b with
  | nil => cases b with
    | nil => rfl
    | cons _ _ => cases h
  | cons x a ih => cases b with
    | nil => cases h
    | cons y b =>
      rw [List.map_cons, List.map_cons] at h
      injection h with h1 h2
      rw [DKey.k_inj h1, ih h2]
noncomputable def getQT (ρ : Env) (i : Nat) : Option (List (List DKey) × List D) := match ρ[i]? with
  | some (some (.dct ks vs)) => some (ks, vs)
  | _ => none
theorem getQT_some {ρ : Env} {i : Nat} {ks : List (List DKey)} {vs : List D} (h : getQT ρ i = some (ks, vs)) : ρ[i]? = some (some (.dct ks vs)) := by
  unfold getQT at h
  split at h
  · rename_i ks' vs' e; cases h; exact e
  · cases h
noncomputable def getTK (ρ : Env) (j : Nat) : Option (List DKey) := match ρ[j]? with
  | some (some (.tup ds)) => keysOf ds
  | _ => none
theorem getTK_some {ρ : Env} {j : Nat} {kk : List DKey} (h : getTK ρ j = some kk) : ∃ ds, ρ[j]? = some (some (.tup ds)) ∧ keysOf ds = some kk := by
  unfold getTK at h
  split at h
  · rename_i ds e; exact ⟨ds, e, h⟩
  · cases h
noncomputable def mTGet2 (i j : Nat) (fz : Env → R D) : Env → R D := fun ρ => match getQT ρ i, getTK ρ j with
  | some (ks, vs), some kk => fz ρ >>= fun z => .ok ((dgetV ks vs kk).getD z)
  | _, _ => .stuck
noncomputable def sTPut (i j : Nat) (fv : Env → R D) : Env → R Fl := fun ρ => liftE (fv ρ) ρ fun v => match getQT ρ i, getTK ρ j with
  | some (ks, vs), some kk => if ks.length < LN then .ok (.nx (ρ.set i (some (.dct (dputK ks kk) (dputV ks vs kk v))))) else .stuck
  | _, _ => .stuck
section
variable {X : Cx} {L : LE} {J : Jn} {fl fl1 fl' : List Sh} {W : WX} {pos : Pos}
theorem cd_tupN (hK : X.K = L.K) : CallD L (fun xs H Q => ∃ p ys, xs = [.ref p] ∧ ((SqL X.K H p ys ∧ ∀ l, H l = none → Q (.ref l) (upd H l (.tup ys))) ∨ (SqT X.K H p ys ∧ Q (.ref p) H))) false .n dTupOfN := fun F H vs ds d s nt hx e Q q => by
  rw [hK]
  unfold dTupOfN at e
  split at e
  · rename_i xs
    by_cases al : allAt xs = true
    · rw [if_pos al] at e
      cases e
      obtain ⟨v, rfl, h⟩ := datL1 hx
      obtain ⟨a, ws, rfl, h1, h2⟩ := dat_sq h
      refine ⟨a, ws, rfl, .inl ⟨SqL.of (s _ _ h1), fun l hl => ?_⟩⟩
      exact q _ F _ [] (Ext.newH (T := L.T) s nt hl) (.nt upd_same (ownN_of h2 al)) (by simp) fun b m => (nomatch m)
    · rw [if_neg al] at e; cases e
  · cases e
theorem e_dtnew : PE X (.Dict [] [] pos) (tD L fl .qt W (mC (.dct [] []))) :=
  pe_dnewT.imp fun σ H Q ⟨F, B, ρ, r, p⟩ q hq => p _ F _ [q] (Ext.newH (T := L.T) r.bs.fh r.bs.nf hq) (.qt (us := []) upd_same rfl .nil) (by simp) fun b m => by
    have e : b = q := by simpa using m
    subst e
    exact ⟨r.bs.fh.free hq, .of hq⟩
variable {F B H : Hp} {σ : L2.St} {ρ : Env}
theorem Rep.dictT {i : Nat} {ks : List (List DKey)} {vs : List D} (r : Rep L fl F B σ H ρ) (h : getQT ρ i = some (ks, vs)) (hs : fl[i]? = some .qt) : ∃ p us, σ[i]? = some (some (.ref p)) ∧ H p = some (.dT ((ks.map (List.map DKey.k)).zip us)) ∧ ks.length = us.length ∧ DatL L.K F us vs := by
  obtain ⟨Ss, h1, _⟩ := r.sl
  obtain ⟨v, sh, a1, a2, _, a4⟩ := h1 i _ (getQT_some h)
  rw [hs] at a2
  cases a2
  generalize Ss i = S at a4
  cases a4 with
  | qt b1 b2 b3 => exact ⟨_, _, a1, b1, b2, b3⟩
theorem Rep.keyT {j : Nat} {kk : List DKey} (r : Rep L fl F B σ H ρ) (h : getTK ρ j = some kk) (hs : fl[j]? = some .n) : ∃ b, σ[j]? = some (some (.ref b)) ∧ H b = some (.tup ((kk.map DKey.k).map kV)) := by
  obtain ⟨ds, h0, hk⟩ := getTK_some h
  obtain ⟨Ss, h1, _⟩ := r.sl
  obtain ⟨v, sh, a1, a2, _, a4⟩ := h1 j _ h0
  rw [hs] at a2
  cases a2
  generalize Ss j = S at a4
  cases a4 with
  | na a _ => cases a
  | nt hp ho =>
    have dv := OwnL.toB r.bs.fh.sm ho
    rw [keysOf_v dv hk] at hp
    exact ⟨_, a1, hp⟩
theorem e_tget2 (i j : Nat) {k : Nat} {x y : Str} {z : Expr} {fz : Env → R D} {xp yp apos : Pos} {bw : Bool} (hr : Room k X.A) (hz : PE X z (tD L fl .s W fz)) (m : M2 X (.Name x xp) "get" apos (.Name y yp) z pos := by exact ⟨rfl, rfl, rfl, rfl⟩) (hs : fl[i]? = some .qt := by rfl) (hsj : fl[j]? = some .n := by rfl) (hN : X.N[i]? = some x := by rfl) (hNj : X.N[j]? = some y := by rfl)
    (hv : Vis X.env.scope x := by first | exact Or.inl rfl | exact Or.inr (Or.inl rfl) | exact Or.inr (Or.inr rfl)) (hvj : Vis X.env.scope y := by first | exact Or.inl rfl | exact Or.inr (Or.inl rfl) | exact Or.inr (Or.inr rfl)) (hd : (x == ("__debug__" : Str)) = false := by decide) (hdj : (y == ("__debug__" : Str)) = false := by decide)
    (hcd : (x == ("__classdict__" : Str)) = false := by decide) (hcdj : (y == ("__classdict__" : Str)) = false := by decide) : PE X (.Call (.Attribute (.Name x xp) "get" apos) [.Name y yp, z] [] pos) (tD L fl (.d bw) W (mTGet2 i j fz)) :=
  (pe_dget2 (hu_of hr) (pv i hN hv hd hcd) (pv j hNj hvj hdj hcdj) hz m).imp fun σ H Q ⟨F, B, ρ, r, p⟩ => by
    unfold mTGet2 at p
    cases q : getQT ρ i with
    | none => rw [q] at p; exact p.elim
    | some kv =>
      obtain ⟨ks, vs⟩ := kv
      cases qj : getTK ρ j with
      | none => rw [q, qj] at p; exact p.elim
      | some kk =>
        rw [q, qj] at p
        dsimp only at p
        obtain ⟨p0, us, a1, a2, a3, a4⟩ := r.dictT q hs
        obtain ⟨b, c1, c2⟩ := r.keyT qj hsj
        refine ⟨.ref p0, a1, p0, rfl, .inr ⟨_, .inl a2⟩, .ref b, c1, tD_bind rfl r (sh := .s) p fun dz zv F2 H2 S2 _ e2 r2 o2 _ _ p2 => ?_⟩
        have p2 : PostE L F2 H2 (.d bw) (.ok ((dgetV ks vs kk).getD dz)) W σ Q := p2.weak e2
        have a4' := a4.mono e2.ff.sm
        refine ⟨_, DGet.t (k := kk.map DKey.k) (e2.hh _ _ a2 rfl) (e2.hh _ _ c2 rfl), ?_⟩
        obtain ⟨g1, g2⟩ := dget_dat (f := List.map DKey.k) (fun a b => mapk_inj) (k := kk) (ks := ks) a4'
        refine postE_ok p2 r2.refl (dat_lift r2.bs.fh ?_)
        cases qd : dgetV ks vs kk with
        | none => rw [g2 qd]; exact (own_d o2).1
        | some d =>
          obtain ⟨v, w1, w2⟩ := g1 d qd
          rw [w1]; exact w2
theorem s_tput (i j : Nat) {k : Nat} {x y : Str} {e : Expr} {fv : Env → R D} {xp yp sp : Pos} (hr : Room k X.A) (he : PE X e (tD L fl .s W fv)) (hs : fl[i]? = some .qt := by rfl) (hsj : fl[j]? = some .n := by rfl) (hN : X.N[i]? = some x := by rfl) (hNj : X.N[j]? = some y := by rfl)
    (hv : Vis X.env.scope x := by first | exact Or.inl rfl | exact Or.inr (Or.inl rfl) | exact Or.inr (Or.inr rfl)) (hvj : Vis X.env.scope y := by first | exact Or.inl rfl | exact Or.inr (Or.inl rfl) | exact Or.inr (Or.inr rfl)) (hd : (x == ("__debug__" : Str)) = false := by decide) (hdj : (y == ("__debug__" : Str)) = false := by decide)
    (hcd : (x == ("__classdict__" : Str)) = false := by decide) (hcdj : (y == ("__classdict__" : Str)) = false := by decide) (hsw : swapsWith e (some (.Subscript (.Name x xp) (.Name y yp) sp)) pos.line X.env = pure false := by rfl) :
    PS X (.Assign [.Subscript (.Name x xp) (.Name y yp) sp] e pos) (tS L J fl fl W (sTPut i j fv)) :=
  (ps_dput (hu_of hr) (pv i hN hv hd hcd) (pv j hNj hvj hdj hcdj) he hsw).imp fun D σ H ⟨F, B, ρ, r, p⟩ => by
    refine ⟨F, B, ρ, r, PostS.bindE r p fun d v F1 H1 S1 _ e1 r1 o1 _ _ p1 => ?_⟩
    have dv := (own_d o1).1
    cases q : getQT ρ i with
    | none => rw [q] at p1; exact p1.elim
    | some kv =>
      obtain ⟨ks, vs⟩ := kv
      cases qj : getTK ρ j with
      | none => rw [q, qj] at p1; exact p1.elim
      | some kk =>
        rw [q, qj] at p1
        dsimp only at p1
        by_cases hl : ks.length < LN
        · rw [if_pos hl] at p1
          obtain ⟨p0, us, a1, a2, a3, a4⟩ := r1.dictT q hs
          obtain ⟨b, c1, c2⟩ := r1.keyT qj hsj
          obtain ⟨pp, d1, _, _, _, _, up⟩ := r1.mutG hs (getQT_some q) (fun v S o => by cases o; exact ⟨_, rfl, rfl⟩)
          rw [a1] at d1
          cases d1
          obtain ⟨us', z1, z2, z3⟩ := putK_zip (f := List.map DKey.k) (fun a b => mapk_inj) (k := kk) (v := v) (d := d) a3 a4 dv
          refine ⟨.ref p0, a1, .ref b, c1, p0, _, rfl, DPut.t a2 c2 (by rw [List.length_zip, List.length_map]; exact lt_line (by omega)), ?_⟩
          rw [z1]
          exact p1 _ F1 _ (.refl _) (up F1 H1 _ _ r1.refl rfl (.qt upd_same z2 z3))
        · rw [if_neg hl] at p1; exact p1.elim
end
end PD
set_option Elab.async false
set_option linter.all false
set_option maxRecDepth 100000
set_option maxHeartbeats 2000000
/-! # for t, v in f(..).items(), the keys tuples -/
namespace L2
open PySem PySem.Spec PyProof.Rows
section
variable {X : Cx} {pins : List (Addr × Obj)} {σ : St} {H : Hp} {s : Shared} {d : Addr} {o : Obj}
theorem Inv.frzTv {kvs : List (List Key × V)} (I : Inv X pins σ H s) (h : H d = some (.frz o (.dT kvs))) :
    (d == sysModules) = false ∧ s.heap.get? d = some o ∧ o.ExactDict ∧ ∃ (es : Array DictEntry) (ep : Nat), o.data = .dict es ep ∧ es.size = kvs.length ∧
      ∀ (i : Nat) (k : List Key) (v : V), kvs[i]? = some (k, v) → ∃ (en : DictEntry) (q : Addr), es[i]? = some en ∧ en.key = .ref q ∧ H q = some (.tup (k.map kV)) ∧ RelV v en.val := by
  obtain ⟨hd, z, hs, xs, pr, o', es, ep, ho, hx, hdt, he, _⟩ := I.hok d _ h
  rw [hd] at ho
  cases ho
  refine ⟨hs, hd, hx, es, ep, hdt, ?_, fun i k v e => ?_⟩
  · have l1 : es.size = xs.length := size_of_entries he
    have l2 : kvs.length = xs.length := Paired.length pr
    omega
  · obtain ⟨b, hb, e1, e2, e3⟩ := paired_get pr e
    have q := entry_at he i
    rw [hb] at q
    exact ⟨_, b.2.1, q, rfl, e2, e3⟩
end
/-- the pairs of the locked dict at d with tuple keys -/
noncomputable def Itit (d : Addr) (o : Obj) (kvs : List (List Key × V)) : It :=
  ⟨fun i H => H d = some (.frz o (.dT kvs)) ∧ i < kvs.length, fun i H x H' => ∃ T q k v, kvs[i]? = some (k, v) ∧ x = .ref T ∧ H T = none ∧ H q = some (.tup (k.map kV)) ∧ H' = upd H T (.tup [.ref q, v]), fun i H => H d = some (.frz o (.dT kvs)) ∧ kvs.length ≤ i⟩
theorem turn_itemsT {P : Program} {w : World} {K : PySem.W.Frag} {d : Addr} {o : Obj} {es : Array DictEntry} {ep : Nat} {kvs : List (List Key × V)} {elts : List Expr} {kk : Nat} {tpos : Pos} (it : Addr) (hod : o.data = .dict es ep) :
    Turn P w K (.Tuple elts kk tpos) (Itit d o kvs) [it] it (fun i h => ∃ ok ov, IsItemIter h it d i kvs.length ep ok ov) where
  mem := by simp
  obj := fun i h st b hb => by
    have e : b = it := by simpa using hb
    subst e
    obtain ⟨ok, ov, e⟩ := st
    exact ⟨_, e, fun v z => nomatch z⟩
  keep := fun i h h' st k => let ⟨ok, ov, e⟩ := st; ⟨ok, ov, k it (by simp) _ e⟩
  item := by
    intro X hP hw hK hc i pins s σ H E I hf st hg
    subst hP hw hK
    obtain ⟨hd, hi⟩ := hg
    obtain ⟨hs, hgd, hx, es', ep', hdt, hsz, ent⟩ := I.frzTv hd
    obtain ⟨rfl, rfl⟩ := dict_ep hod hdt
    obtain ⟨⟨k, v⟩, hkv⟩ : ∃ p, kvs[i]? = some p := ⟨kvs[i], List.getElem?_eq_getElem hi⟩
    obtain ⟨en, q, hen, hkey, hq, rv⟩ := ent i k v hkv
    obtain ⟨ok, ov, he⟩ := st
    rw [← hsz] at he
    have hi2 : i < es'.size := by omega
    have een : es'[i] = en := by
      rw [Array.getElem?_eq_getElem hi2] at hen
      exact Option.some.inj hen
    have hlt : it < s.heap.objs.size := Heap.lt_size he
    refine DT.nextI he ⟨o, hgd, hx, hdt⟩ hi2 fun h' ho hT hz hk => ?_
    refine ⟨_, rfl, wpAny_letOwnedTupleGo_items (s := { s with heap := h' }) ho fun h'' he' sb => ?_⟩
    have hT2 : h''.get? s.heap.objs.size = some { cls := .type "tuple", data := .seq #[es'[i].key, es'[i].val] } := (sb.2 _ (Nat.ne_of_gt hlt)).trans hT
    rw [een, hkey] at hT2
    have new : ObjOk X.prog X.w (upd H s.heap.objs.size (.tup [.ref q, v])) h'' s.heap.objs.size (.tup [.ref q, v]) :=
      ⟨by show 2 ≤ sizeLine; decide, [.ref q, en.val], .cons rfl (.cons rv .nil), ⟨_, hT2, rfl, _, rfl⟩⟩
    have I1 : Inv X pins σ (upd H s.heap.objs.size (.tup [.ref q, v])) { s with heap := h'' } :=
      I.turnedNew (t' := s.toks) (ch := [it]) (fun b ob hb e => (sb.2 b (by simpa using hb)).trans (hk b ob (by simpa using hb) e)) hf (Nat.le_refl _) new
    refine ⟨.ref s.heap.objs.size, _, I1, rfl, ⟨_, q, k, v, hkv, rfl, I.hok.fresh (Nat.le_refl _), hq, rfl⟩, ⟨es'[i].key, es'[i].val, ?_⟩, fun b hb => ?_⟩
    · rw [← hsz]; exact he'
    · have e : b = it := by simpa using hb
      rw [e, upd_ne (Nat.ne_of_lt hlt)]
      exact (hf it (by simp)).1
  done := by
    intro X hP hw hK hc i pins s σ H E I hf st hg
    subst hP hw hK
    obtain ⟨hd, hi⟩ := hg
    obtain ⟨f0, f1, f2, f3, f4, f5⟩ := hf it (by simp)
    obtain ⟨hs, hgd, hx, es', ep', hdt, hsz, ent⟩ := I.frzTv hd
    obtain ⟨rfl, rfl⟩ := dict_ep hod hdt
    obtain ⟨ok, ov, he⟩ := st
    rw [← hsz] at he
    exact DT.endI (I.ok.hd hc) he ⟨o, hgd, hx, hdt⟩ (by omega) fun h' eb => ⟨rfl, I.turned (t' := s.toks) (fun b ob hb e => eb b ob hb e) f0 f1 f3 f4 f5⟩
  self := fun A i s Q E st h => let ⟨_, _, e⟩ := st; PySem.W.kcp_self e h
noncomputable def iItemsT (td : TE) : TI := fun σ H R => td σ H fun x H1 => ∃ d o kvs, x = .ref d ∧ H1 d = some (.frz o (.dT kvs)) ∧ R (Itit d o kvs) H1
theorem pi_itemsT {X : Cx} {e : Expr} {td : TE} {apos cpos : Pos} {elts : List Expr} {kk : Nat} {tpos : Pos} (he : PE X e td) (hbase : attributeBase e "items" X.env (eval e X.env) = eval e X.env := by rfl) (hline : (apos.endLine == cpos.line) = true := by rfl) :
    PI X (.Tuple elts kk tpos) (.Call (.Attribute e "items" apos) [] [] cpos) (iItemsT td) := by
  refine ⟨fun pins s σ H R I h => ?_⟩
  refine wpAny_Call_method (T := "dict") (id := "dict.items") hbase rfl hline F.plainAttrs_dict F.slot_dict_items F.type_dict_items (thn (he.run pins s σ H _ I h) fun u s1 ⟨x, H1, I1, rx, d, o, kvs, ex, hd, q⟩ => ?_)
  subst ex
  obtain rfl : u = Value.ref d := rx
  obtain ⟨hs, hgd, hx, es, ep, hdt, hsz, ent⟩ := I1.frzTv hd
  have raw : DT.Raw s1.heap d es ep := ⟨o, hgd, hx, hdt⟩
  refine ⟨raw.typeIs, fun b e => ?_, ?_⟩
  · cases e
    exact ⟨o, hgd, hx.2.1⟩
  have I2 : Inv X pins σ H1 { s1 with heap := s1.heap.push { cls := .type "dict_items", data := .fields #[.ref d] } } := I1.kept (t' := s1.toks) fun b ob q => Heap.get?_push_of_some _ q
  have fin : wpAny (model X.prog X.w) X.A (pyIter (.ref s1.heap.objs.size)) (PIE X pins σ (.Tuple elts kk tpos) R) X.xe { s1 with heap := s1.heap.push { cls := .type "dict_items", data := .fields #[.ref d] } } := by
    refine DT.iterI (d := d) ⟨_, Heap.get?_push_size _ rfl, rfl, rfl⟩ (raw.push _) (pi_one (tk := s1.toks) I2 _ (turn_itemsT _ hdt) ⟨.none, .none, ?_⟩ q)
    rw [← hsz]
    exact Heap.get?_push_size _ rfl
  show wpAny _ _ (callWith cpos (.builtin "dict.items") [.ref d] [] []) _ X.xe s1
  exact method_meetsIn F.slot_dict_items F.entry_dict_items rfl (PySem.evalArgs_none ⟨rfl, raw.typeIs, F.args_dict_items_1 _, _, DT.meetsItems hs, ⟨raw, fin⟩⟩)
end L2
namespace PD
open PySem PySem.Spec PyProof.Rows L2
noncomputable def itemsT (ks : List (List DKey)) (ds : List D) : List D := List.zipWith (fun k d => D.tup [.tup (k.map DKey.d), d]) ks ds
noncomputable def gItemsT : D → Option (List D)
  | .dct ks ds => some (itemsT ks ds)
  | _ => none
theorem dat_keys {K : PySem.W.Frag} {F : Hp} : ∀ {k : List DKey}, DatL K F ((k.map DKey.k).map kV) (k.map DKey.d)
  | [] => .nil
  | _ :: _ => .cons dat_key dat_keys
section
variable {X : Cx} {L : LE} {fl : List Sh} {W : WX} {pos : Pos}
end
end PD
set_option Elab.async false
set_option linter.all false
set_option maxRecDepth 100000
set_option maxHeartbeats 2000000
/-! # for (t, v) in f(..).items(), the keys tuples: all tuples that stand become shared -/
namespace PD
open PySem PySem.Spec PyProof.Rows L2
theorem Ext.tups {T : List Tab} {F H : Hp} (s : Same F H) (n : NoT F) : Ext T F H (frzH F H []) H :=
  ⟨.refl _, fun _ _ h => h, frzH_same s, frzH_to s, fun a o h t q => frzH_hid h t (by simp) q, frzH_nt n (fun a m => nomatch m)⟩
section
variable {X : Cx} {L : LE} {fl : List Sh} {W : WX} {pos : Pos}
theorem wk_itemsT {F0 : Hp} {p : Addr} {od : Obj} {ks : List (List DKey)} {us : List V} {ds : List D} (hF : F0 p = some (.frz od (.dT ((ks.map (List.map DKey.k)).zip us)))) (hk : ks.length = us.length) (hd : DatL L.K F0 us ds) : Wk L (Itit p od ((ks.map (List.map DKey.k)).zip us)) F0 (itemsT ks ds) := fun F H s1 s2 nt => by
  have hH : H p = some (.frz od (.dT ((ks.map (List.map DKey.k)).zip us))) := s2 _ _ (s1 _ _ hF)
  have n1 := hd.length
  have zl : ((ks.map (List.map DKey.k)).zip us).length = us.length := by rw [List.length_zip, List.length_map]; omega
  refine ⟨fun i d hi => ?_, fun i hi => ⟨hH, ?_⟩⟩
  · unfold itemsT at hi
    rw [List.getElem?_zipWith] at hi
    cases qx : ks[i]? with
    | none => rw [qx] at hi; simp at hi
    | some kk =>
      cases qy : ds[i]? with
      | none => rw [qx, qy] at hi; simp at hi
      | some dd =>
        rw [qx, qy] at hi
        cases hi
        obtain ⟨v, e1, e2⟩ := hd.get qy
        have hl := (List.getElem?_eq_some_iff.mp e1).1
        refine ⟨⟨hH, by rw [zl]; exact hl⟩, fun r H' yl => ?_⟩
        obtain ⟨T, q, k, v', g1, rfl, hT, hq, rfl⟩ := yl
        rw [List.getElem?_zip_eq_some, List.getElem?_map, qx, e1] at g1
        obtain ⟨g1, g2⟩ := g1
        cases g1
        cases g2
        have x1 := Ext.tups (T := L.T) s2 nt
        have hq1 : frzH F H [] q = some (.tup ((kk.map DKey.k).map kV)) := frzH_tup _ _ hq
        have x2 := Ext.newF (T := L.T) (o := .tup [.ref q, v']) x1.fh x1.nt hT rfl
        have e := x1.trans x2
        exact ⟨_, e, .tup (SqT.of upd_same) (.cons (.tup (SqT.of (x2.ff _ _ hq1)) dat_keys) (.cons (e2.mono (s1.trans e.ff).sm) .nil))⟩
  · unfold itemsT at hi
    rw [List.length_zipWith] at hi
    rw [zl]; omega
theorem i_itemsT {e : Expr} {f : Env → R D} {kk : Nat} {apos cpos tpos : Pos} {elts : List Expr} (he : PE X e (tD L fl .qt W f)) (hK : X.K = L.K := by rfl) (hbase : attributeBase e "items" X.env (eval e X.env) = eval e X.env := by rfl) (hline : (apos.endLine == cpos.line) = true := by rfl) :
    PI X (.Tuple elts kk tpos) (.Call (.Attribute e "items" apos) [] [] cpos) (tI L fl W (iOf gItemsT f)) := by
  refine ⟨fun pins s σ H Q I h => (pi_itemsT (elts := elts) (kk := kk) (tpos := tpos) (pe_lockV he) hbase hline).run pins s σ H Q I ?_⟩
  obtain ⟨F, B, ρ, r, p⟩ := h
  refine ⟨F, B, ρ, r, PostI.bindN p fun d v F1 H1 S p1 e1 o1 nd fr => ?_⟩
  cases o1 with
  | qt hp hk ho =>
    rename_i a ks us ds
    refine ⟨a, _, rfl, hp, trivial, fun od => ⟨a, od, _, rfl, upd_same, ?_⟩⟩
    have at_ : ∀ b, b ≠ a → upd H1 a (.frz od (.dT ((ks.map (List.map DKey.k)).zip us))) b = H1 b := fun b z => upd_ne z
    have Fa := (fr a List.mem_cons_self).1
    have fh1 : Same F1 (upd H1 a (.frz od (.dT ((ks.map (List.map DKey.k)).zip us)))) := fun b o e => by
      rw [at_ b fun z => by rw [z, Fa] at e; cases e]; exact e1.fh b o e
    have s1 : Same F1 (frzH F1 (upd H1 a (.frz od (.dT ((ks.map (List.map DKey.k)).zip us)))) [a]) := frzH_same fh1
    have hF : frzH F1 (upd H1 a (.frz od (.dT ((ks.map (List.map DKey.k)).zip us)))) [a] a = some (.frz od (.dT ((ks.map (List.map DKey.k)).zip us))) := by
      rw [frzH_in List.mem_cons_self, upd_same]
    refine p1 _ _ _ ⟨fun b o h t => ?_, fun P hP h => ?_, e1.ff.trans s1, frzH_to fh1, fun b o h1 t1 h2 => ?_, frzH_nt e1.nt fun b m => ?_⟩ (wk_itemsT hF hk (ho.mono s1.sm))
    · rw [at_ b fun z => by subst z; exact (fr b List.mem_cons_self).2.no h t]
      exact e1.hh b o h t
    · exact tabH_same (fun b o q t => by rw [at_ b fun z => by rw [z, hp] at q; cases q; cases t]; exact q) (e1.ht P hP h)
    · by_cases m : b ∈ [a]
      · exact ((fr b m).2.no h1 t1).elim
      · exact frzH_hid (by rw [at_ b fun z => m (by rw [z]; exact List.mem_cons_self)]; exact e1.hh b o h1 t1) t1 m (e1.hid b o h1 t1 h2)
    · have z : b = a := by simpa using m
      subst z; exact ⟨_, upd_same, rfl⟩
end
end PD
set_option Elab.async false
set_option linter.all false
set_option maxRecDepth 100000
set_option maxHeartbeats 2000000
/-! a lambda of one parameter: its names, its context, its call -/
namespace LamY
open PySem PySem.Spec PyProof.Rows L2
/-- one parameter q, no other name of its own: captured ones and globals -/
structure LamS1 (sc scope : Scope) (q : Str) : Prop where
  kind : scope.kind = .function
  co : scope.isCoroutine = false
  gen : scope.isGenerator = false
  loc : scope.names.lookup q = some .local
  own : ∀ y ∈ scope.names, y.2 ≠ .cell ∧ (y.2 = .local → y.1 = q)
  free : ∀ y ∈ scope.names, y.2 = .free → sc.names.lookup y.1 = some .cell ∨ sc.names.lookup y.1 = some .free
noncomputable def lamS1B (sc scope : Scope) (q : Str) : Bool :=
  decide (scope.kind = .function) && !scope.isCoroutine && !scope.isGenerator && decide (scope.names.lookup q = some .local) && scope.names.all fun y => !decide (y.2 = .cell) && (!decide (y.2 = .local) || decide (y.1 = q)) && (!decide (y.2 = .free) || decide (sc.names.lookup y.1 = some .cell) || decide (sc.names.lookup y.1 = some .free))
theorem lamS1_by {sc scope : Scope} {q : Str} (h : lamS1B sc scope q = true) : LamS1 sc scope q := by
  unfold lamS1B at h
  simp only [Bool.and_eq_true, Bool.or_eq_true, Bool.not_eq_true', decide_eq_true_eq, decide_eq_false_iff_not, List.all_eq_true] at h
  obtain ⟨⟨⟨⟨g1, g2⟩, g3⟩, g4⟩, g5⟩ := h
  refine ⟨g1, g2, g3, g4, fun y hy => ⟨(g5 y hy).1.1, fun e => ?_⟩, fun y hy e => ?_⟩
  · rcases (g5 y hy).1.2 with z | z
    · exact absurd e z
    · exact z
  · rcases (g5 y hy).2 with (z | z) | z
    · exact absurd e z
    · exact .inl z
    · exact .inr z
noncomputable abbrev lq (X : Cx) : Str := X.env.qual ++ "<lambda>"
noncomputable abbrev lenv (X : Cx) (scope : Scope) (L f c : Addr) : Env := LamX.lamEnv X scope L f c
/-- the context of the body, entered at s from the frames outer -/
noncomputable def lamCx1 (X : Cx) (A : Around) (outer : List Env) (s : Shared) (H : Hp) (E : XK) (scope : Scope) (q : Str) (f c : Addr) : Cx :=
  { LamX.lamCx X A outer s H E scope f c with N := q :: X.N }
section
variable {X : Cx} {pins : List (Addr × Obj)} {σ σ' : L2.St} {H H' : Hp} {s s1 : Shared}
theorem LamS1.has {scope : Scope} {q : Str} (L : LamS1 X.env.scope scope q) (ok : X.Ok) : ∀ y ∈ scope.names, y.2 = .free → ∃ c, X.env.cells.lookup y.1 = some c := fun y hy e => (L.free y hy e).elim (fun k => ok.has _ (.inl k)) fun k => ok.has _ (.inr k)
theorem lam_enter {A : Around} {outer : List Env} {E : XK} {scope : Scope} {q : Str} {f c : Addr} {g : Heap} {tk : Nat} {v : V} {u : Value} (I : Inv X pins σ H s) (L : LamS1 X.env.scope scope q) (hl : σ'.length = σ.length) (hσ : ∀ (i : Nat) (x : V), σ'[i]? = some (some x) → σ[i]? = some (some x) ∧ X.N[i]? ≠ some q) (e0 : Env0 X.prog X.w X.K X.mg X.base A outer s1 H') (hd : A.handled = none)
    (un : Un (frs X.stack) [] H H' s.heap s1.heap) (rv : RelV v u) (hns : g.Ns s1.heap.objs.size fun y => ([(q, u)] : List (Str × Value)).reverse.lookup y) (kp : ∀ b o, s1.heap.get? b = some o → g.get? b = some o) :
    Inv (lamCx1 X A outer s1 H' E scope q f c) [] (some v :: σ') H' { s1 with heap := g, toks := tk } := by
  have hfree := L.has I.ok
  have cm : ∀ {y a}, (cloFrom X.env.cells scope.names []).lookup y = some a → X.env.cells.lookup y = some a := fun {y a} e => by
    rcases cloFrom_mem (PySem.mem_of_lookup e) with hm | ⟨k1, k2⟩
    · cases hm
    · obtain ⟨a1, ha⟩ := hfree _ k1 rfl
      have ha : X.env.cells.lookup y = some a1 := ha
      have : a = a1 := by rw [k2, ha] <;> rfl
      rw [this]
      exact ha
  have look : ∀ {y}, scope.names.lookup y = some .free → ∃ a, (cloFrom X.env.cells scope.names []).lookup y = some a := fun {y} hl => by
    have hy : (y, NameKind.free) ∈ scope.names := PySem.mem_of_lookup hl
    exact mem_lookup (cloFrom_has (cells := X.env.cells) (acc := []) hy)
  have cellK : ∀ {a : Addr} {w : Option Value}, H a = none → s.heap.IsCell a w → g.IsCell a w := fun {a w} n ⟨o, ho, hd⟩ => by
    obtain ⟨sl, z⟩ := un.any ho n (by simp)
    exact ⟨_, kp _ _ z, hd⟩
  have noA : ∀ b : Addr, b ∉ (lamCx1 X A outer s1 H' E scope q f c).ex := fun b z => absurd (show b ∈ ([] : List Addr) from z) (by simp)
  refine ⟨⟨e0.mod, L.kind, rfl, rfl, Nat.le_refl _, fun y z a x1 x2 => I.ok.inj y z a (cm x1) (cm x2), fun y hy => ?a1, fun y a z _ => ?a2, fun _ => hd, Around.frames_deeper e0.frames, .inr ⟨rfl, rfl⟩, fun b z => absurd z (noA b), e0.bs, e0.bsz, fun b _ _ => noA b,
      fun b z => absurd z (noA b), e0.funs, e0.frf⟩,
    rfl, e0.bare, Un.kept kp, ⟨_, hns, fun i y x x1 x2 x3 => ?a3⟩, fun y a e => ?a4, e0.hok.fresh (Nat.le_refl _), fun y a e => ?a5, fun p hp => absurd (show p ∈ ([] : List (Addr × Obj)) ++ [] from hp) (by simp), e0.hok.kept kp, ?a6⟩
  case a1 =>
    have hy : scope.names.lookup y = some .cell ∨ scope.names.lookup y = some .free := hy
    rcases hy with hy | hy
    · exact absurd rfl (L.own _ (PySem.mem_of_lookup hy)).1
    · exact look hy
  case a2 =>
    have z : false = true := z
    cases z
  case a3 =>
    have x3 : Vis scope y := x3
    cases i with
    | zero =>
      have : q = y := Option.some.inj (show some q = some y from x1)
      subst this
      have : v = x := Option.some.inj (Option.some.inj (show some (some v) = some (some x) from x2))
      subst this
      refine ⟨u, rv, .inl ⟨L.loc, ?_⟩⟩
      show ([(q, u)] : List (Str × Value)).reverse.lookup q = some u
      simp
    | succ i =>
      have x1 : X.N[i]? = some y := x1
      obtain ⟨x2, hq⟩ := hσ i x x2
      have ny : y ≠ q := fun z => hq (z ▸ x1)
      rcases x3 with k | k | k
      · exact absurd ((L.own _ (PySem.mem_of_lookup k)).2 rfl) ny
      · exact absurd rfl (L.own _ (PySem.mem_of_lookup k)).1
      · obtain ⟨m, hn, hl⟩ := I.loc
        have hvis : Vis X.env.scope y := (L.free _ (PySem.mem_of_lookup k) rfl).elim (fun k => .inr (.inl k)) (fun k => .inr (.inr k))
        obtain ⟨w', r, z⟩ := hl i y x x1 x2 hvis
        obtain ⟨a2, h2⟩ := look k
        refine ⟨w', r, .inr ⟨.inr k, a2, h2, ?_⟩⟩
        have b1 := cm h2
        rcases z with ⟨k', _⟩ | ⟨_, a3, e', z⟩
        · have k' : X.env.scope.names.lookup y = some .local := k'
          rcases L.free _ (PySem.mem_of_lookup k) rfl with k2 | k2 <;> rw [show X.env.scope.names.lookup y = _ from k2] at k' <;> cases k'
        · rw [b1] at e'
          cases e'
          exact cellK (I.freeC y _ b1) z
  case a4 =>
    obtain ⟨w', z⟩ := I.cell y a (cm e)
    exact ⟨w', cellK (I.freeC y a (cm e)) z⟩
  case a5 =>
    obtain ⟨x, o, ho, hd⟩ := I.cell y a (cm e)
    exact un.free a o ho (I.freeC y a (cm e)) (by simp)
  case a6 =>
    show σ'.length + 1 = X.N.length + 1
    rw [hl, I.len]
/-- the call of the lambda with one value -/
theorem lam_call {A : Around} {f c : Addr} {scope : Scope} {q : Str} {params : Arguments} {body : Expr} {pm ctv : Value} {k : Nat} {tb : TE} {Q : VK} {E : XK} {v : V} {u : Value} {o : Obj} {vs : Array Value} {t : Tok}
    (I : Inv X pins σ H s) (L : LamS1 X.env.scope scope q) (hl : σ'.length = σ.length) (hσ : ∀ (i : Nat) (x : V), σ'[i]? = some (some x) → σ[i]? = some (some x) ∧ X.N[i]? ≠ some q) (e0 : Env0 X.prog X.w X.K X.mg X.base A X.stack s1 H') (hr : Room (k + 1) A) (un : Un (frs X.stack) [] H H' s.heap s1.heap)
    (hf : s1.heap.get? f = some (PySem.W.kla_obj "<lambda>" (lq X) params body scope (cloFrom X.env.cells scope.names []) pm c ctv)) (hc : s1.heap.get? c = some o) (hd : o.data = .fields vs) (hv : vs[1]? = some (.str (lq X) t))
    (hb : bindArgs (PySem.W.kla_fn "<lambda>" (lq X) params body scope (cloFrom X.env.cells scope.names []) pm (.ref c) ctv) ⟨[u], []⟩ = pure [(q, u)]) (rv : RelV v u)
    (hbody : ∀ (A : Around) (outer : List Env) (s : Shared) (H : Hp) (E : XK), Room k (A.deeper (lenv X scope s.heap.objs.size f c)) → PE (lamCx1 X A outer s H E scope q f c) body tb)
    (ht : tb (some v :: σ') H' Q) : codeAny (model X.prog X.w) A (.call (.ref f) ⟨[u], []⟩) (CR (L2.CX X.prog X.w) X.stack X.prog X.w H' s1 Q E) s1 := by
  have lim : s1.heap.NoLimit := e0.mod.nolimit.keeps fun b ob e => (e0.bs b ob e).1
  refine PySem.W.kla_callFunE hr.depth hf rfl L.co L.gen rfl ⟨c, o, vs, t, rfl, hc, hd, hv⟩ ?_
  rw [hb]
  refine wpAny_pure (wpAny_newFunctionEnv (fun y hy => (L.own y hy).1) (fun y hy => ?_) (fun g hns hsb => ⟨lim.fresh _ hsb, ?_⟩) L.kind)
  · rw [List.mem_singleton.mp hy]
    exact L.loc
  · show codeAny _ _ (.expr body (lenv X scope s1.heap.objs.size f c)) _ _
    have kp : ∀ b ob, s1.heap.get? b = some ob → g.get? b = some ob := fun b ob e => hsb.extBut b ob (Nat.ne_of_lt (Heap.lt_size e)) (Heap.get?_push_of_some _ e)
    have J : Inv (lamCx1 X A X.stack s1 H' E scope q f c) [] (some v :: σ') H' { s1 with heap := g, toks := s1.toks + ([(q, u)] : List (Str × Value)).length } := lam_enter I L hl hσ e0 hr.hd un rv hns kp
    refine PySem.W.kla_codeExpr (wpAny_mono ((hbody _ _ s1 H' E (hr.deeper _)).run [] _ _ H' Q J ht) (fun x s' z => ?_) fun e s' z => z)
    obtain ⟨w', H2, J', r, z⟩ := z
    exact ⟨w', H2, J'.os, J'.bare, J'.base, J'.hok, r, z⟩
end
end LamY
set_option Elab.async false
set_option linter.all false
set_option maxRecDepth 100000
set_option maxHeartbeats 2000000
/-! a lambda is made; sorted by a lambda -/
namespace LamY
open PySem PySem.Spec PyProof.Rows L2
open PD (TabC)
section
variable {X : Cx} {pins : List (Addr × Obj)} {σ : L2.St} {H : Hp} {s : Shared}
/-- all but the table at P stays; what is new is a code object; the table is as it should be -/
structure Made (H H1 : Hp) (P : Addr) (q : Str) : Prop where
  old : ∀ b o, b ≠ P → H b = some o → H1 b = some o
  tab : TabC H1 P q
theorem among_snoc {p z : Pos} {c cv : Value} : ∀ (l : List Value), TriplesOk l → codeAmong p (l ++ [rawInt z.line, rawInt z.col, c]) = some cv → codeAmong p l = some cv ∨ cv = c := fun l h hc => LamX.among_app l h hc
theorem lam_make {c P : Addr} {params : Arguments} {body : Expr} {scope : Scope} {q : Str} {pos : Pos} {E Q : Value → Shared → Prop} (I : Inv X pins σ H s) (TB : GxR.TabB X.base X.mg c P) (hcode : X.env.code = .ref c) (hT : TabC H P (lq X))
    (hdef : defaultsOf params X.env = ([], [])) (L : LamS1 X.env.scope scope q)
    (h : ∀ (f c' : Addr) (pm ctv : Value) (H1 : Hp) (s' : Shared) (o : Obj) (vs : Array Value) (t : Tok) (φ : Heap → Prop), Inv X pins σ H1 s' → Made H H1 P (lq X) →
      s'.heap.get? f = some (PySem.W.kla_obj "<lambda>" (lq X) params body scope (cloFrom X.env.cells scope.names []) pm c' ctv) → H1 f = none → f ∉ frs X.stack → H1 c' = some (.frz o (.ext φ)) → o.data = .fields vs → vs[1]? = some (.str (lq X) t) → Q (.ref f) s') :
    wpAny (model X.prog X.w) X.A (eval (.Lambda params body scope pos) X.env) Q E s := by
  obtain ⟨ps, hP, ht, ha⟩ := hT
  refine PySem.W.kla_eval hdef ?_
  have bP : s.heap.BuiltinsAt X.mg P := TB.bm.keeps I.bk
  have oP : s.heap.get? P = some { cls := .none, data := .fields ps } := I.hok P _ hP
  have nofr : ∀ f, s.heap.objs.size ≤ f → f ∉ frs X.stack := fun f hf z => by
    rcases List.mem_cons.mp (I.stkSub _ z) with e | e
    · have := I.lt
      rw [← e] at this
      exact absurd (Nat.lt_of_lt_of_le this hf) (Nat.lt_irrefl _)
    · exact I.nofs hf e
  cases hc : codeAmong pos ps.toList with
  | none =>
    refine PySem.W.kla_makeFunction (mg := X.mg) (c := c) (P := P) (ps := ps) (closure_ok (L.has I.ok)) I.ok.glob (I.mod.glob.keeps I.bk) hcode (TB.code.keeps I.bk) oP ht hc TB.gP bP fun c' ctv h' tk hx hge hlt hrec htb => ?_
    obtain ⟨c2, oc, vs, t, e2, hoc, hd, hv⟩ := hrec
    cases e2
    have hsz : s.heap.objs.size ≤ h'.objs.size := Nat.le_trans hge (Nat.le_of_lt hlt)
    have nC : H c' = none := I.hok.fresh hge
    have nPc : P ≠ c' := fun z => by rw [← z, hP] at nC; cases nC
    have I1 := GxR.inv_tab (t' := tk) (g' := s.gens) (d' := s.drawn) (more := #[rawInt pos.line, rawInt pos.col, .ref c']) (h' := h'.push (PySem.W.kla_obj "<lambda>" (lq X) params body scope (cloFrom X.env.cells scope.names []) ((X.mg "__name__").getD .none) c' ctv)) I hP
      (fun b o hb e => Heap.get?_push_of_some _ (hx b o hb e)) (Heap.get?_push_of_some _ htb) I.bare
    have fp := I.fpOk (H' := upd H P (.tbl (ps ++ #[rawInt pos.line, rawInt pos.col, .ref c']))) hge (by rw [upd_ne (Ne.symm nPc)]; exact nC)
    have I2 := Inv.take (o := .frz oc (.ext fun _ => True)) (t' := tk) I1 (fun b o _ e => e) fp ⟨Heap.get?_push_of_some _ hoc, trivial, ⟨oc, Heap.get?_push_of_some _ hoc⟩, fun _ _ _ _ => trivial⟩
    have eL : (ps ++ #[rawInt pos.line, rawInt pos.col, .ref c']).toList = ps.toList ++ [rawInt pos.line, rawInt pos.col, .ref c'] := by simp
    have old : ∀ b o, b ≠ P → H b = some o → upd (upd H P (.tbl (ps ++ #[rawInt pos.line, rawInt pos.col, .ref c']))) c' (.frz oc (.ext fun _ => True)) b = some o := fun b o hb e => by
      rw [upd_ne (fun z => by rw [z, nC] at e; cases e), upd_ne hb]
      exact e
    refine h h'.objs.size c' ((X.mg "__name__").getD .none) ctv _ _ oc vs t _ I2 ⟨old, _, by rw [upd_ne nPc, upd_same], by rw [eL]; exact PySem.TriplesOk_snoc _ _ _ _ ht, fun z cv hcv => ?_⟩ (Heap.get?_push_size _ rfl) ?_ (nofr _ hsz) upd_same hd hv
    · rw [eL] at hcv
      rcases among_snoc _ ht hcv with y | y
      · obtain ⟨c0, o0, v0, t0, φ, a1, a2, a3⟩ := ha z cv y
        exact ⟨c0, o0, v0, t0, φ, a1, old _ _ (fun w => by rw [w, hP] at a2; cases a2) a2, a3⟩
      · exact ⟨c', oc, vs, t, _, y, upd_same, hd, hv⟩
    · have n1 : h'.objs.size ≠ c' := Nat.ne_of_gt hlt
      have n2 : h'.objs.size ≠ P := Nat.ne_of_gt (Nat.lt_of_lt_of_le (Heap.lt_size oP) hsz)
      rw [upd_ne n1, upd_ne n2]
      exact I.hok.fresh hsz
  | some cv =>
    obtain ⟨c', oc, vs, t, φ, e, hco, hd, hv⟩ := ha pos cv hc
    subst e
    refine PySem.W.kla_makeFunctionHit (mg := X.mg) (c := c) (P := P) (ps := ps) (closure_ok (L.has I.ok)) I.ok.glob (I.mod.glob.keeps I.bk) hcode (TB.code.keeps I.bk) oP ht hc bP fun ctv h' tk hx hsz => ?_
    have I1 : Inv X pins σ H { s with heap := h'.push (PySem.W.kla_obj "<lambda>" (lq X) params body scope (cloFrom X.env.cells scope.names []) ((X.mg "__name__").getD .none) c' ctv), toks := tk } := I.kept fun b o e => Heap.get?_push_of_some _ (hx b o e)
    exact h h'.objs.size c' ((X.mg "__name__").getD .none) ctv H _ oc vs t φ I1 ⟨fun _ _ _ e => e, ps, hP, ht, ha⟩ (Heap.get?_push_size _ rfl) (I.hok.fresh hsz) (nofr _ hsz) hco hd hv
end

/-! ### sorted by a key: over the heap, the turns by any invariant -/
section
open PySem.Calls PySem.W
variable {prog : Program} {w : World} {A : Around} {E : Value → Shared → Prop} {s : Shared} {a kS : Addr} {vs : List Value} {e1 : Nat} {R : PySem.Fin → Shared → Prop}
theorem keys_loop {f : Value} (J : List Value → Shared → Prop) (h0 : J [] s) (nk : s.heap.get? kS = some (seqObj "list" #[] 0)) (na : s.heap.get? a = some (seqObj "list" #[] e1)) (hka : kS ≠ a) (hZ : vs.length ≤ sizeLine)
    (turn : ∀ (i : Nat) (v : Value) (ks : List Value) (s' : Shared), vs[i]? = some v → ks.length = i → J ks s' → (∃ c, s'.heap.get? kS = some (seqObj "list" ks.toArray c)) → s'.heap.get? a = some (seqObj "list" #[] e1) →
      wpAny (model prog w) A (call f [v]) (fun u s2 => (∀ o, s'.heap.get? kS = some o → s2.heap.get? kS = some o) ∧ s2.heap.get? a = some (seqObj "list" #[] e1) ∧
        ∀ g, (∀ b o, b ≠ kS → s2.heap.get? b = some o → g.get? b = some o) → (∃ c, g.get? kS = some (seqObj "list" (ks ++ [u]).toArray c)) → J (ks ++ [u]) { s2 with heap := g }) (fun _ _ => False) s')
    (done : ∀ (ks : List Value) (s' : Shared) (c : Nat), ks.length = vs.length → J ks s' → s'.heap.get? kS = some (seqObj "list" ks.toArray c) → s'.heap.get? a = some (seqObj "list" #[] e1) → wpAny (model prog w) A (ksk_end a false vs.toArray e1 (.ref kS) ks.toArray) R E s') :
    wpAny (model prog w) A (ksk_rest a f false vs.toArray e1 (.ref kS)) R E s := by
  unfold ksk_rest
  refine wpAny_bind (wpAny_rule ?_)
  first
    | rw [List.forIn_toArray]
    | (rw [← Array.forIn_toList]; simp only [List.toList_toArray])
    | rw [← Array.forIn_toList]
  refine wpAny_bind (ksk_fold (fun i s' => ∃ ks c, ks.length = i ∧ J ks s' ∧ s'.heap.get? kS = some (seqObj "list" ks.toArray c) ∧ s'.heap.get? a = some (seqObj "list" #[] e1)) vs 0 s ⟨[], 0, rfl, h0, nk, na⟩ ?step ?done)
  case step =>
    rintro j x s' hx ⟨ks, c, hl, hJ, nk', na'⟩
    simp only [Nat.zero_add] at hl ⊢
    have hj : j < vs.length := (List.getElem?_eq_some_iff.mp hx).1
    refine wpAny_bind (wpAny_attempt (wpAny_mono (turn j x ks s' hx hl hJ ⟨c, nk'⟩ na') (fun u s2 z => ?_) fun _ _ z => z.elim))
    obtain ⟨z1, z2, z3⟩ := z
    try dsimp only
    have nk2 := z1 _ nk'
    obtain ⟨c2, hc2⟩ : ∃ c2, (s2.heap.update kS (Obj.mapSeq (·.push u))).get? kS = some (seqObj "list" (ks.toArray.push u) c2) := ⟨_, get?_update_seq nk2 (·.push u)⟩
    have s3 := Heap.SameBut.update s2.heap kS (Obj.mapSeq (·.push u))
    have ea : ks.toArray.push u = (ks ++ [u]).toArray := by simp
    have sz : ks.toArray.size ≤ sizeLine := by rw [List.size_toArray]; omega
    refine wpAny_bind (listUpdate_at nk2 rfl ?_ sz (Nat.le_trans (Nat.le_of_eq (Array.size_push ..)) (Nat.succ_le_succ sz)))
    refine wpAny_pure ⟨rfl, ks ++ [u], c2, by rw [List.length_append, hl]; rfl, z3 _ (fun b o hb e => (s3.2 b hb).trans e) ⟨c2, by rw [← ea]; exact hc2⟩, by rw [← ea]; exact hc2, (s3.2 a (Ne.symm hka)).trans z2⟩
  case done =>
    rintro s' ⟨ks, c, hl, hJ, nk', na'⟩
    rw [Nat.zero_add] at hl
    try dsimp only
    refine wpAny_bind (listItems_at nk' rfl ?_)
    exact done ks s' c hl hJ nk' na'
theorem keys_tree {f : Value} {n : Nat} (J : List Value → Shared → Prop) (ho : s.heap.get? a = some (seqObj "list" vs.toArray n)) (hZ : vs.length ≤ sizeLine)
    (h0 : ∀ g, (∀ b o, b ≠ a → s.heap.get? b = some o → g.get? b = some o) → J [] { s with heap := g })
    (turn : ∀ (kS : Addr) (e1 i : Nat) (v : Value) (ks : List Value) (s' : Shared), kS = s.heap.objs.size + 1 → vs[i]? = some v → ks.length = i → J ks s' → (∃ c, s'.heap.get? kS = some (seqObj "list" ks.toArray c)) → s'.heap.get? a = some (seqObj "list" #[] e1) →
      wpAny (model prog w) A (call f [v]) (fun u s2 => (∀ o, s'.heap.get? kS = some o → s2.heap.get? kS = some o) ∧ s2.heap.get? a = some (seqObj "list" #[] e1) ∧
        ∀ g, (∀ b o, b ≠ kS → s2.heap.get? b = some o → g.get? b = some o) → (∃ c, g.get? kS = some (seqObj "list" (ks ++ [u]).toArray c)) → J (ks ++ [u]) { s2 with heap := g }) (fun _ _ => False) s')
    (fin : ∀ (ks : List Value) (s' : Shared) (kS : Addr), kS = s.heap.objs.size + 1 → kS ≠ a → ks.length = vs.length → J ks s' → ∃ kz : List PyData, AllAlike kz ∧ Sortable kz ∧ (∀ d ∈ kz, A.units + d.depth < cLine) ∧ EachIs (fun v d => ∃ as, Reads s'.heap v d as) ks kz ∧
      ∀ (h' : Heap) (tk : Tok) (out : List Value) (c : Nat), (∀ b o, b ≠ a → b ≠ kS → s'.heap.get? b = some o → h'.get? b = some o) → h'.get? a = some (seqObj "list" out.toArray c) → KeyedOut false kz vs out → R (.done (.ret .none)) { s' with heap := h', toks := tk }) :
    wpAny (model prog w) A (ksk_tree a f false) R E s := by
  have ha : a < s.heap.objs.size := Heap.lt_size ho
  obtain ⟨e1, ho1⟩ : ∃ e1, (s.heap.update a (Obj.mapSeq fun _ => (#[] : Array Value))).get? a = some (seqObj "list" #[] e1) := ⟨_, get?_update_seq ho fun _ => #[]⟩
  have hkS : ((s.heap.update a (Obj.mapSeq fun _ => (#[] : Array Value))).push (seqObj "tuple" vs.toArray 0)).objs.size = s.heap.objs.size + 1 := by rw [size_push', Heap.size_update]
  unfold ksk_tree
  refine wpAny_bind (listItems_at ho rfl ?_)
  refine wpAny_bind (listUpdate_at ho rfl ?_ (by rw [List.size_toArray]; exact hZ) (Nat.zero_le _))
  refine wpAny_bind (seqEpoch_at ho1 rfl ?_)
  refine wpAny_bind (wpAny_newTuple ?_ (by show vs.length ≤ _; exact hZ))
  refine wpAny_bind (wpAny_newList ?_ (Nat.zero_le _))
  refine wpAny_holding ?_
  have hka : ((s.heap.update a (Obj.mapSeq fun _ => (#[] : Array Value))).push (seqObj "tuple" vs.toArray 0)).objs.size ≠ a := by rw [hkS]; exact Nat.ne_of_gt (Nat.lt_succ_of_lt ha)
  refine keys_loop (kS := ((s.heap.update a (Obj.mapSeq fun _ => (#[] : Array Value))).push (seqObj "tuple" vs.toArray 0)).objs.size) (e1 := e1) J (h0 _ fun b o hb e => sortingHeap_old hb e) (Heap.get?_push_size _ rfl) (Heap.get?_push_of_some _ (Heap.get?_push_of_some _ ho1)) hka hZ
    (fun i v ks s' x1 x2 x3 x4 x5 => turn _ e1 i v ks s' hkS x1 x2 x3 x4 x5) fun ks s' c hl hJ nk na => ?_
  obtain ⟨kz, k1, k2, k3, k4, k5⟩ := fin ks s' _ hkS hka hl hJ
  obtain ⟨g, g1, g2⟩ := restrict s'.heap fun b => decide (b ≠ ((s.heap.update a (Obj.mapSeq fun _ => (#[] : Array Value))).push (seqObj "tuple" vs.toArray 0)).objs.size)
  have gs : ∀ b o, g.get? b = some o → s'.heap.get? b = some o := fun b o e => by
    by_cases hb : b = ((s.heap.update a (Obj.mapSeq fun _ => (#[] : Array Value))).push (seqObj "tuple" vs.toArray 0)).objs.size
    · rw [hb, g2 _ (decide_eq_false fun z => z rfl)] at e
      cases e
    · rw [g1 b (decide_eq_true hb)] at e
      exact e
  refine keyH_end (κ := dataKind s'.heap kz) (h₁ := g) (fun b o _ e => gs b o e) (g2 _ (decide_eq_false fun z => z rfl)) nk na hka (SortsAt.data (by rw [List.toList_toArray]; exact k4) k1 k2 k3) (by rw [List.size_toArray]; exact hl) hZ fun h' tk c kp hD => ?_
  refine k5 h' tk _ c (fun b o hb hb2 e => kp b o hb (by rw [g1 b (decide_eq_true hb2)]; exact e)) hD ⟨s'.heap, ks, k1, by rw [List.toList_toArray], k4⟩
end
end LamY
set_option Elab.async false
set_option linter.all false
set_option maxRecDepth 100000
set_option maxHeartbeats 4000000
/-! sorted(e, key=lambda q: ..) -/
namespace LamY
open PySem PySem.Spec PyProof.Rows L2
section
variable {X : Cx} {pins : List (Addr × Obj)} {σ : L2.St} {H : Hp} {s : Shared}
/-- objects of ours that nothing tracks may change -/
theorem inv_priv {h' : Heap} {t' : Tok} {ch : List Addr} (I : Inv X pins σ H s) (fp : ∀ b ∈ ch, FpOk X pins H b) (k : ∀ b o, b ∉ ch → s.heap.get? b = some o → h'.get? b = some o) : Inv X pins σ H { s with heap := h', toks := t' } := by
  have nit : ∀ b u, H b = some u → b ∉ ch := fun b u e z => by rw [(fp b z).1] at e; cases e
  refine I.step (g' := s.gens) (d' := s.drawn) (ch := ch) (fun b hb => ?_) (fun b o _ _ hc e _ => k b o hc e) (fun b o _ _ hc e _ => ⟨o.slots, k b o hc e⟩) (fun _ _ _ _ n => n) (fun b o hc e => ⟨o, k b o hc e⟩) (fun _ _ e => e) (fun _ _ _ e => e) (fun b ps e => ⟨#[], by rw [e]; simp⟩) (fun m hm => ?_) (fun b u e => ?_) I.bare
  · obtain ⟨_, a1, _, a2, a3, a4⟩ := fp b hb
    exact ⟨a2, a1, a3, a4⟩
  · obtain ⟨o, es, ep, ho, r⟩ := hm
    exact ⟨o, es, ep, k _ o (fun z => (fp _ z).2.1 rfl) ho, r⟩
  · refine (I.hok b u e).stay (fun c v hc q => k c v ?_ q) (fun _ q => q) fun _ _ q => q
    rcases hc with z | z
    · rw [z]; exact nit b u e
    · exact nit c _ z
theorem nofr (I : Inv X pins σ H s) {b : Addr} (hb : s.heap.objs.size ≤ b) : b ∉ frs X.stack := fun z => by
  rcases List.mem_cons.mp (I.stkSub _ z) with e | e
  · have := I.lt
    rw [← e] at this
    exact absurd (Nat.lt_of_lt_of_le this hb) (Nat.lt_irrefl _)
  · exact I.nofs hb e
end
end LamY
namespace PD
open PySem PySem.Spec PyProof.Rows L2
open PySem.W (dataLe AllAlike Sortable KeyedOut keyedOut_each EachIs)
noncomputable def tupB : D → Bool
  | .tup (_ :: _) => true
  | _ => false
noncomputable def notB : D → Bool
  | .non => false
  | .tup _ => false
  | _ => true
/-- keys that are of one kind -/
noncomputable def okK (ks : List D) : Bool := ks.all okP && ks.all (fun d => ks.all fun e => PySem.W.alike (toP d) (toP e)) && (ks.all tupB || ks.all notB)
noncomputable def sortBy (ds ks : List D) : List D := ((ds.zip (ks.map toP)).mergeSort (dataLe false Prod.snd)).map Prod.fst
/-- slots of which the names are hidden -/
noncomputable def hidL {α : Type} : List Nat → List (Option α) → List (Option α)
  | [], l => l
  | i :: hs, l => hidL hs (l.set i none)
theorem hidL_len {α : Type} : ∀ {hs : List Nat} {l : List (Option α)}, (hidL hs l).length = l.length
  | [], _ => rfl
  | i :: hs, l => by
    unfold hidL
    rw [hidL_len, List.length_set]
theorem hidL_get {α : Type} : ∀ {hs : List Nat} {l : List (Option α)} {i : Nat} {x : α}, (hidL hs l)[i]? = some (some x) ↔ l[i]? = some (some x) ∧ i ∉ hs
  | [], l, i, x => by unfold hidL; simp
  | j :: hs, l, i, x => by
    unfold hidL
    rw [hidL_get, List.getElem?_set]
    by_cases c : j = i
    · subst c
      rw [if_pos rfl]
      constructor
      · rintro ⟨h, _⟩
        split at h <;> cases h
      · rintro ⟨_, h⟩
        exact absurd (List.mem_cons_self ..) h
    · rw [if_neg c]
      constructor
      · rintro ⟨h, g⟩
        exact ⟨h, fun z => (List.mem_cons.mp z).elim (fun z => c z.symm) g⟩
      · rintro ⟨h, g⟩
        exact ⟨h, fun z => g (List.mem_cons_of_mem _ z)⟩
noncomputable def hidB (N : List Str) (q : Str) (hs : List Nat) : Bool := (List.range N.length).all fun i => decide (N[i]? ≠ some q) || decide (i ∈ hs)
theorem hidB_ok {N : List Str} {q : Str} {hs : List Nat} (h : hidB N q hs = true) {i : Nat} (g : i ∉ hs) : N[i]? ≠ some q := fun z => by
  have hi : i < N.length := (List.getElem?_eq_some_iff.mp z).1
  have := List.all_eq_true.mp h i (List.mem_range.mpr hi)
  rw [Bool.or_eq_true, decide_eq_true_eq, decide_eq_true_eq] at this
  rcases this with y | y
  · exact y z
  · exact g y
noncomputable def mKeys (fk : Env → R D) (ρ : Env) : List D → R (List D)
  | [] => .ok []
  | d :: ds => match fk (some d :: ρ) with
    | .ok k => mKeys fk ρ ds >>= fun ks => .ok (k :: ks)
    | _ => .stuck
noncomputable def mSortK (hs : List Nat) (f fk : Env → R D) : Env → R D := fun ρ => f ρ >>= fun d => match d with
  | .lst ds => mKeys fk (hidL hs ρ) ds >>= fun ks => if okK ks = true then .ok (.lst (sortBy ds ks)) else .stuck
  | _ => .stuck
/-- a list whose items are shared, itself shared or one's own -/
noncomputable def tLS (L : LE) (fl : List Sh) (W : WX) (f : Env → R D) : TE := fun σ H Q => ∃ F B ρ, Rep L fl F B σ H ρ ∧ match f ρ with
  | .ok (.lst ds) => ∀ (p : Addr) (vs : List V) (F' H' : Hp), Ext L.T F H F' H' → SqL L.K H' p vs → DatL L.K F' vs ds → Q (.ref p) H'
  | .err c fs => ∀ cls d F' H', Ext L.T F H F' H' → ErrOk L c fs cls d F' H' → W cls d σ H'
  | _ => False
theorem okK_spec {ks : List D} (h : okK ks = true) : AllAlike (ks.map toP) ∧ Sortable (ks.map toP) ∧ (∀ d ∈ ks.map toP, d.depth ≤ 64) ∧ ∀ d ∈ ks, noR d = true := by
  unfold okK at h
  rw [Bool.and_eq_true, Bool.and_eq_true, Bool.or_eq_true, List.all_eq_true, List.all_eq_true, List.all_eq_true, List.all_eq_true] at h
  obtain ⟨⟨h1, h2⟩, h3⟩ := h
  refine ⟨fun x mx y my => ?_, ?_, fun x mx => ?_, fun d m => ?_⟩
  · obtain ⟨d, md, rfl⟩ := List.mem_map.mp mx
    obtain ⟨e, me, rfl⟩ := List.mem_map.mp my
    exact (List.all_eq_true.mp (h2 d md)) e me
  · rcases h3 with h3 | h3
    · refine .inl fun x mx => ?_
      obtain ⟨d, md, rfl⟩ := List.mem_map.mp mx
      have := h3 d md
      unfold tupB at this
      split at this
      · exact ⟨_, _, by unfold toP; unfold toPs; rfl⟩
      · cases this
    · refine .inr fun x mx => ?_
      obtain ⟨d, md, rfl⟩ := List.mem_map.mp mx
      have := h3 d md
      have nr : noR d = true := by
        have z := h1 d md
        unfold okP at z
        rw [Bool.and_eq_true] at z
        exact z.1
      cases d with
      | non => cases this
      | tup _ => cases this
      | rng _ _ => unfold noR at nr; cases nr
      | obj _ _ _ => unfold noR at nr; cases nr
      | dic _ _ => unfold noR at nr; cases nr
      | dct _ _ => unfold noR at nr; cases nr
      | bl _ => exact ⟨(fun z => by unfold toP at z; cases z), (fun xs z => by unfold toP at z; cases z)⟩
      | int _ => exact ⟨(fun z => by unfold toP at z; cases z), (fun xs z => by unfold toP at z; cases z)⟩
      | str _ => exact ⟨(fun z => by unfold toP at z; cases z), (fun xs z => by unfold toP at z; cases z)⟩
      | lst _ => exact ⟨(fun z => by unfold toP at z; cases z), (fun xs z => by unfold toP at z; cases z)⟩
      | scr _ => exact ⟨(fun z => by unfold toP at z; cases z), (fun xs z => by unfold toP at z; cases z)⟩
  · obtain ⟨d, md, rfl⟩ := List.mem_map.mp mx
    have := h1 d md
    unfold okP at this
    rw [Bool.and_eq_true] at this
    exact SeqAt.depth_of_shaped this.2
  · have := h1 d m
    unfold okP at this
    rw [Bool.and_eq_true] at this
    exact this.1
section
variable {X : Cx} {L : LE} {fl : List Sh} {W : WX} {pos : Pos}
/-- a shared list -/
theorem ls_s {e : Expr} {f : Env → R D} (h : PE X e (tD L fl .s W f)) : PE X e (tLS L fl W f) := h.imp fun σ H Q ⟨F, B, ρ, r, p⟩ => ⟨F, B, ρ, r, by
  unfold PostE
  cases q : f ρ with
  | ok d =>
    rw [q] at p
    intro v F' H' S e o _ _
    have dv := (own_d o).1
    cases d with
    | lst ds =>
      cases dv with
      | lst a b => exact p _ _ F' H' e (SqL.of (e.fh _ _ a)) b
    | _ => exact p.elim
  | err c fs => rw [q] at p; exact p
  | stuck => rw [q] at p; exact p⟩
/-- a list of one's own, new -/
theorem ls_l {e : Expr} {f : Env → R D} (h : PE X e (tD L fl (.l .s) W f)) : PE X e (tLS L fl W f) := h.imp fun σ H Q ⟨F, B, ρ, r, p⟩ => ⟨F, B, ρ, r, by
  unfold PostE
  cases q : f ρ with
  | ok d =>
    rw [q] at p
    intro v F' H' S e o _ _
    cases o with
    | l a b => exact p _ _ F' H' e (SqL.of a) b.datS.1
  | err c fs => rw [q] at p; exact p
  | stuck => rw [q] at p; exact p⟩
/-- the slots of a lambda: its item, then the def's -/
theorem Rep.item {F B H : Hp} {σ : L2.St} {ρ : Env} {v : V} {d : D} (r : Rep L fl F B σ H ρ) (h : Dat L.K F v d) : Rep L (.s :: fl) F B (some v :: σ) H (some d :: ρ) := by
  obtain ⟨Ss, h1, h2, h3, h4⟩ := r.sl
  refine ⟨r.bs, by rw [List.length_cons, List.length_cons, r.ls], by rw [List.length_cons, List.length_cons, r.lr], fun i u eo q => ?_, fun i => match i with | 0 => [] | i + 1 => Ss i, fun i d' q => ?_, fun i j a m1 m2 => ?_, fun i => ?_, fun i a m => ?_⟩
  · cases i with
    | zero => cases q
    | succ i => exact r.px i u eo q
  · cases i with
    | zero =>
      cases q
      exact ⟨v, .s, rfl, rfl, rfl, .d (bw := false) h⟩
    | succ i => exact h1 i d' q
  · cases i with
    | zero => cases m1
    | succ i =>
      cases j with
      | zero => cases m2
      | succ j => exact congrArg (· + 1) (h2 i j a m1 m2)
  · cases i with
    | zero => exact List.nodup_nil
    | succ i => exact h3 i
  · cases i with
    | zero => cases m
    | succ i => exact h4 i a m
theorem Rep.hid {X : Cx} {L : LE} {fl : List Sh} {F B H : Hp} {σ : L2.St} {ρ : Env} (hs : List Nat) (r : Rep L fl F B σ H ρ) (nx : fl.all (fun sh => !sh.isX) = true) : Rep L fl F B (hidL hs σ) H (hidL hs ρ) := by
  obtain ⟨Ss, h1, h2, h3, h4⟩ := r.sl
  refine ⟨r.bs, by rw [hidL_len]; exact r.ls, by rw [hidL_len]; exact r.lr, fun i v eo q => ?_, Ss, fun i d q => ?_, h2, h3, h4⟩
  · have := List.all_eq_true.mp nx _ (List.mem_of_getElem? q)
    cases this
  · obtain ⟨q1, q2⟩ := hidL_get.mp q
    obtain ⟨v, sh, a1, a2, a3, a4⟩ := h1 i d q1
    exact ⟨v, sh, hidL_get.mpr ⟨a1, q2⟩, a2, a3, a4⟩
theorem mKeys_len {fk : Env → R D} {ρ : Env} : ∀ {ds ks : List D}, mKeys fk ρ ds = .ok ks → ks.length = ds.length
  | [], ks, h => by cases h; rfl
  | d :: ds, ks, h => by
    unfold mKeys at h
    split at h
    · cases q : mKeys fk ρ ds with
      | ok ys =>
        rw [q, bind_ok] at h
        cases h
        rw [List.length_cons, List.length_cons, mKeys_len q]
      | err c fs => rw [q, bind_err] at h; cases h
      | stuck => rw [q, bind_stuck] at h; cases h
    · cases h
theorem mKeys_at {fk : Env → R D} {ρ : Env} : ∀ {ds ks : List D} {i : Nat} {d : D}, mKeys fk ρ ds = .ok ks → ds[i]? = some d → ∃ k, fk (some d :: ρ) = .ok k ∧ ks[i]? = some k
  | [], _, _, _, _, e => by simp at e
  | x :: ds, ks, i, d, h, e => by
    unfold mKeys at h
    split at h
    · rename_i k hk
      cases q : mKeys fk ρ ds with
      | ok ys =>
        rw [q, bind_ok] at h
        cases h
        cases i with
        | zero =>
          cases e
          exact ⟨k, hk, rfl⟩
        | succ i =>
          obtain ⟨k', a, b⟩ := mKeys_at (i := i) q (by simpa using e)
          exact ⟨k', a, by simpa using b⟩
      | err c fs => rw [q, bind_err] at h; cases h
      | stuck => rw [q, bind_stuck] at h; cases h
    · cases h
/-- what a lambda's table holds, seen from the layer -/
theorem made_ext {F B H H1 : Hp} {P : Addr} {q : Str} (b : Bs L F B H) (hT : InT L.T (.s P q)) (m : LamY.Made H H1 P q) : Ext L.T F H F H1 := by
  have hP : TabC H P q := b.tab _ hT.1
  obtain ⟨ps, hp, _⟩ := hP
  have ne : ∀ a o, H a = some o → isTbl o = false → a ≠ P := fun a o h t z => by
    rw [z, hp] at h
    cases h; cases t
  refine ⟨fun a o h t => m.old a o (ne a o h t) h, fun t ht h => ?_, .refl _, fun a o h => ?_, fun _ _ _ _ n => n, b.nf⟩
  · by_cases z : t.a = P
    · rw [hT.2 t ht z]
      exact m.tab
    · match t, z, h with
      | .g P', z, ⟨ps', q', w⟩ => exact ⟨ps', m.old _ _ z q', w⟩
      | .s P' q0, z, ⟨ps', q', w, r⟩ =>
        refine ⟨ps', m.old _ _ z q', w, fun x cv hc => ?_⟩
        obtain ⟨c, o, vs, t, φ, e1, e2, e3⟩ := r x cv hc
        exact ⟨c, o, vs, t, φ, e1, m.old _ _ (fun y => by rw [y, hp] at e2; cases e2) e2, e3⟩
  · have h1 := b.fh a o h
    exact m.old a o (ne a o h1 (b.nf a o h)) h1
theorem datL_snoc {K : PySem.W.Frag} {F : Hp} {vs : List V} {ds : List D} {v : V} {d : D} (h : DatL K F vs ds) (g : Dat K F v d) : DatL K F (vs ++ [v]) (ds ++ [d]) := h.append (.cons g .nil)
theorem vals_snoc {vs : List V} {us : List Value} {v : V} {u : Value} (h : Vals vs us) (g : RelV v u) : Vals (vs ++ [v]) (us ++ [u]) := Vals.append h (.cons g .nil)
/-- pairs of items and keys, item by item -/
theorem each_zip {its : List Value} : ∀ {vs : List V} {ds : List D} {ks : List PyData}, Vals vs its → vs.length = ds.length → ks.length = ds.length → EachIs (fun (u : Value) (x : (V × D) × PyData) => RelV x.1.1 u) its ((vs.zip ds).zip ks) := by
  induction its with
  | nil =>
    intro vs ds ks h _ _
    cases h
    exact .nil
  | cons u its ih =>
    intro vs ds ks h h1 h2
    cases h with
    | cons r t =>
      cases ds with
      | nil => cases h1
      | cons d ds =>
        cases ks with
        | nil => cases h2
        | cons k ks => exact .cons r (ih t (by simpa using h1) (by simpa using h2))
theorem each_vals : ∀ {out : List Value} {bs : List ((V × D) × PyData)}, EachIs (fun (u : Value) (x : (V × D) × PyData) => RelV x.1.1 u) out bs → Vals (bs.map fun x => x.1.1) out
  | _, _, .nil => .nil
  | _, _, .cons r t => .cons r (each_vals t)
theorem datL_of {K : PySem.W.Frag} {F : Hp} : ∀ {bs : List ((V × D) × PyData)}, (∀ x ∈ bs, Dat K F x.1.1 x.1.2) → DatL K F (bs.map fun x => x.1.1) (bs.map fun x => x.1.2)
  | [], _ => .nil
  | x :: bs, h => .cons (h x (by simp)) (datL_of fun y m => h y (List.mem_cons_of_mem _ m))
theorem zip_dat {K : PySem.W.Frag} {F : Hp} : ∀ {vs : List V} {ds : List D} {ks : List PyData}, DatL K F vs ds → ∀ x ∈ (vs.zip ds).zip ks, Dat K F x.1.1 x.1.2
  | _, _, _, .nil, x, m => by simp at m
  | _, _, [], .cons _ _, x, m => by simp at m
  | _, _, k :: ks, .cons h r, x, m => by
    rcases List.mem_cons.mp m with rfl | m
    · exact h
    · exact zip_dat r x m
theorem zip_maps : ∀ {vs : List V} {ds : List D} {ks : List PyData}, vs.length = ds.length → ks.length = ds.length → ((vs.zip ds).zip ks).map (fun x => (x.1.2, x.2)) = ds.zip ks ∧ ((vs.zip ds).zip ks).map (fun x => x.2) = ks
  | [], [], [], _, _ => ⟨rfl, rfl⟩
  | v :: vs, d :: ds, k :: ks, h1, h2 => by
    obtain ⟨a, b⟩ := zip_maps (vs := vs) (ds := ds) (ks := ks) (by simpa using h1) (by simpa using h2)
    exact ⟨by rw [List.zip_cons_cons, List.zip_cons_cons, List.map_cons, a]; rfl, by rw [List.zip_cons_cons, List.zip_cons_cons, List.map_cons, b]⟩
theorem sort_snd {bs : List ((V × D) × PyData)} : (bs.mergeSort (dataLe false fun x => x.2)).map (fun x => x.1.2) = ((bs.map fun x => (x.1.2, x.2)).mergeSort (dataLe false Prod.snd)).map Prod.fst := by
  rw [← PySem.W.sort_maps (r := dataLe false fun x : (V × D) × PyData => x.2) (s := dataLe false Prod.snd) (fun x : (V × D) × PyData => (x.1.2, x.2)) (fun _ _ _ _ => rfl), List.map_map]
  rfl
theorem each_reads {X : Cx} {pins : List (Addr × Obj)} {σ : L2.St} {H F : Hp} {s : Shared} (I : Inv X pins σ H s) (sm : Sm F H) : ∀ {vs : List V} {us : List Value} {ds : List D}, Vals vs us → DatL X.K F vs ds → (∀ d ∈ ds, noR d = true) → EachIs (fun v d => ∃ as, Reads s.heap v d as) us (ds.map toP)
  | _, _, _, .nil, .nil, _ => .nil
  | _, _, _, .cons r t, .cons h g, n => .cons (Dp.reads I _ _ _ (dp_of (n _ (by simp)) (h.mono sm)) r) (each_reads I sm t g fun d m => n d (List.mem_cons_of_mem _ m))
theorem un_priv {fs ex ch : List Addr} {H H1 : Hp} {h h1 h2 : Heap} (u : Un fs ex H H1 h h1) (k : ∀ b o, b ∉ ch → h1.get? b = some o → h2.get? b = some o) (n : ∀ b o, h.get? b = some o → b ∉ ch) : Un fs ex H H1 h h2 where
  keep := fun b o a1 a2 a3 a4 => k b o (n b o a1) (u.keep b o a1 a2 a3 a4)
  slot := fun b o a1 a2 a3 a4 => by
    obtain ⟨sl, z⟩ := u.slot b o a1 a2 a3 a4
    exact ⟨sl, k b _ (n b o a1) z⟩
  free := u.free
  there := fun b o a1 a2 => by
    obtain ⟨o', z⟩ := u.there b o a1 a2
    exact ⟨o', k b _ (n b o a1) z⟩
  tups := u.tups
  frzs := u.frzs
  tbls := u.tbls
theorem e_sortK {k : Nat} {c P : Addr} {e : Expr} {params : Arguments} {body : Expr} {scope : Scope} {q : Str} {f fk : Env → R D} {p lpos kpos : Pos} (hr : Room (k + 3) X.A) (hm : X.mg "sorted" = none) (TB : GxR.TabB X.base X.mg c P) (hT : InT L.T (.s P (LamY.lq X))) (hK : X.K = L.K)
    (he : PE X e (tLS L fl W f)) (hs : List Nat) (hS : LamY.lamS1B X.env.scope scope q = true) (hq : hidB X.N q hs = true) (nx : fl.all (fun sh => !sh.isX) = true)
    (hb : ∀ (A : Around) (outer : List PySem.Env) (s : Shared) (H : Hp) (E : L2.XK) (fa ca : Addr), Room k (A.deeper (LamY.lenv X scope s.heap.objs.size fa ca)) → PE (LamY.lamCx1 X A outer s H E scope q fa ca) body (tD L (.s :: fl) .s (fun _ _ _ _ => False) fk))
    (hbind : ∀ (z : Str) (cl : List (Str × Addr)) (pm cv ctv u : Value), bindArgs (PySem.W.kla_fn "<lambda>" z params body scope cl pm cv ctv) ⟨[u], []⟩ = pure [(q, u)] := by intro _ _ _ _ _ _; rfl)
    (hcode : X.env.code = .ref c := by rfl) (hdef : defaultsOf params X.env = ([], []) := by rfl) (hg : Gl X "sorted" := by rfl)
    (hs1 : starEach (e :: []) X.env = (false, eval e X.env) :: starEach [] X.env := by rfl) (hpl : ∀ pos, (backTo pos (starEach [e] X.env)).any (·.1) = false := by intro _; rfl) (hbt : ∀ pos, backTo pos (starEach [e] X.env) = (false, eval e X.env) :: backTo pos (starEach [] X.env) := by intro _; rfl) :
    PE X (.Call (.Name "sorted" p) [e] [⟨some "key", .Lambda params body scope lpos, kpos⟩] pos) (tD L fl (.l .s) W (mSortK hs f fk)) := by
  refine ⟨fun pins s σ H Q I ⟨F, B, ρ, r, p0⟩ => ?_⟩
  have L1 := LamY.lamS1_by hS
  refine wpAny_Call_Name_kw (ld_blt I hg hm rfl ?_ (by decide) (by decide))
  have ha : PA X [e] (tCons (tLS L fl W f) tNil) := pa_cons he pa_nil hs1
  refine PyProof.Rows.callWith_kw (thn (ha.run pos pins s σ H (fun vs H1 => ∃ l ds vs1 F1, vs = [.ref l] ∧ f ρ = .ok (.lst ds) ∧ Ext L.T F H F1 H1 ∧ SqL L.K H1 l vs1 ∧ DatL L.K F1 vs1 ds) I ?arg) fun us0 s1 ⟨vs0, H1, I1, rv0, l, ds, vs1, F1, e1, e2, x1, sq, d1⟩ => ?rest) (hbt pos) (hpl pos)
  case arg =>
    refine ⟨F, B, ρ, r, ?_⟩
    unfold mSortK at p0
    cases y : f ρ with
    | ok d =>
      rw [y, bind_ok] at p0
      cases d with
      | lst ds => exact fun p vs F' H' x a b => ⟨p, ds, vs, F', rfl, rfl, x, a, b⟩
      | _ => exact p0.elim
    | err c fs => rw [y, bind_err] at p0; exact p0
    | stuck => rw [y, bind_stuck] at p0; exact p0.elim
  case rest =>
    subst e1
    have q0 := p0
    unfold mSortK at q0
    rw [e2, bind_ok] at q0
    dsimp only at q0
    cases y : mKeys fk (hidL hs ρ) ds with
    | err c fs => exact absurd y (fun z => by
        have : ∀ (ds : List D) (c : Str) (fs : List (Str × D)), mKeys fk (hidL hs ρ) ds ≠ .err c fs := by
          intro ds
          induction ds with
          | nil => intro c fs z; cases z
          | cons d ds ih =>
            intro c fs z
            unfold mKeys at z
            split at z
            · cases w : mKeys fk (hidL hs ρ) ds with
              | ok ys => rw [w, bind_ok] at z; cases z
              | err c' fs' => exact ih c' fs' w
              | stuck => rw [w, bind_stuck] at z; cases z
            · cases z
        exact this _ _ _ z)
    | stuck => rw [y, bind_stuck] at q0; exact q0.elim
    | ok kds =>
      rw [y, bind_ok] at q0
      by_cases ok : okK kds = true
      rotate_left
      · rw [if_neg ok] at q0; exact q0.elim
      rw [if_pos ok] at q0
      obtain ⟨al, so, dp, nr⟩ := okK_spec ok
      have kl := mKeys_len y
      have r1 := r.ext x1
      show wpAny _ _ (evalAll [do let v ← eval (.Lambda params body scope lpos) X.env; standAt pos; pure v]) _ _ s1
      refine wpAny_evalAll_cons (wpAny_bind (LamY.lam_make I1 TB hcode (r1.bs.tab _ hT.1) hdef L1 fun fa ca pm ctv H2 s2 o cvs t φ I2 md hf hfn hfr hc hd hv => wpAny_bind (wpAny_standAt (wpAny_pure (wpAny_evalAll_nil ?_)))))
      obtain rfl := Vals.ref1 rv0
      show wpAny _ _ (call (.builtin "sorted") [.ref l] [(Str.ofString "key", .ref fa)]) _ _ s2
      have x2 := made_ext r1.bs hT md
      have r2 := r1.ext x2
      have sq2 : SqL X.K H2 l vs1 := by rw [hK]; exact sm_l x2.hh sq
      obtain ⟨its, rvi, hl, hz⟩ := I2.list sq2
      have hlen := rvi.length
      have dlen := d1.length
      refine PySem.W.sorted_of_sort hl.isList (by rw [← hlen]; exact hz) (ksk_s1 _ _) (fun _ => ksk_l1 _ _) fun E' => ?_
      rw [ksk_t1]
      obtain ⟨a, ea⟩ : ∃ a, a = s2.heap.objs.size + 1 := ⟨_, rfl⟩
      obtain ⟨z, ez⟩ : ∃ z, z = (PySem.W.copyHeap s2.heap its).objs.size + 1 := ⟨_, rfl⟩
      have csz : (PySem.W.copyHeap s2.heap its).objs.size = s2.heap.objs.size + 2 := by
        unfold PySem.W.copyHeap
        rw [PyProof.Rows.size_push', Heap.size_update, PyProof.Rows.size_push']
      have za : z ≠ a := by omega
      rw [← ea]
      have sa : s2.heap.objs.size ≤ a := by omega
      have sz : s2.heap.objs.size ≤ z := by omega
      refine LamY.keys_tree (s := { s2 with heap := PySem.W.copyHeap s2.heap its }) (a := a) (vs := its) (f := .ref fa) (fun ks s' => ∃ H' F' kV, Inv X pins σ H' s' ∧ Ext L.T F1 H2 F' H' ∧ Un (frs X.stack) [] H2 H' s2.heap s'.heap ∧ Vals kV ks ∧ DatL L.K F' kV (kds.take ks.length) ∧ H' a = none ∧ H' z = none)
        (by rw [ea]; exact PySem.W.copyHeap_at s2.heap its) (by rw [← hlen]; exact hz) (fun g hg => ?init) (fun kS e1 i v ks s' hkS hx hl' hJ hkc na => ?turn) (fun ks s' kS hkS hka hl' hJ => ?fin)
      case init =>
        have kp : ∀ b u, s2.heap.get? b = some u → g.get? b = some u := fun b u w => hg b u (Nat.ne_of_lt (Nat.lt_of_lt_of_le (Heap.lt_size w) sa)) (PySem.W.copyHeap_old w)
        exact ⟨H2, F1, [], I2.kept kp, Ext.refl r2.bs.fh r2.bs.nf, Un.kept kp, .nil, .nil, I2.hok.fresh sa, I2.hok.fresh sz⟩
      case turn =>
        have hkS : kS = z := by rw [hkS, ez]
        subst hkS
        obtain ⟨H', F', kV, I', ex', un, vk, dk, na', nz'⟩ := hJ
        have hi : i < its.length := (List.getElem?_eq_some_iff.mp hx).1
        obtain ⟨x, hxV⟩ : ∃ x, vs1[i]? = some x := ⟨_, List.getElem?_eq_getElem (by omega)⟩
        obtain ⟨u', hu', rx⟩ := rvi.get hxV
        rw [hx] at hu'
        cases hu'
        obtain ⟨d, hd0, dx⟩ := d1.get' hxV
        obtain ⟨kk, hkk, hki⟩ := mKeys_at y hd0
        have e0 := I'.env0.in1.in1
        have hf' := un.keep fa _ hf hfn hfr (by simp)
        have hc' : s'.heap.get? ca = some o := (I'.hok ca _ (un.frzs _ _ _ hc)).1
        refine wpAny_call (codeAny_mono (LamY.lam_call (Q := fun v H'' => ∃ F'', Ext L.T F' H' F'' H'' ∧ Dat L.K F'' v kk) (E := fun _ _ _ => False) I2 L1 (σ' := hidL hs σ) hidL_len (fun i x z => ⟨(hidL_get.mp z).1, hidB_ok hq (hidL_get.mp z).2⟩) e0 (hr.in1.in1) un hf' hc' hd hv (hbind _ _ _ _ _ _) rx (fun A outer s H E hr => hb A outer s H E fa ca hr) ⟨F', B, some d :: hidL hs ρ, (Rep.hid (X := X) hs (r2.ext ex') nx).item (dx.mono ex'.ff.sm), ?_⟩) fun rr s3 hh => ?_)
        · rw [hkk]
          exact fun v F'' H'' S e o _ _ => ⟨F'', e, (own_d o).1⟩
        · cases rr with
          | error e =>
            obtain ⟨_, _, _, _, _, _, _, _, _, _, _, _, w⟩ := hh
            exact w.elim
          | ok fl2 =>
            cases fl2 with
            | ret u =>
              obtain ⟨kv, H'', os, bare, un2, hok, rk, F'', ex'', dk2⟩ := hh
              obtain ⟨_, H3, I'', _, eH⟩ := I'.after (Q := fun _ H => H = H'') ⟨kv, H'', os, bare, un2, hok, rk, rfl⟩
              subst eH
              obtain ⟨cS, hcS⟩ := hkc
              refine ⟨fun o w => un2.keep kS o w nz' (LamY.nofr I2 sz) (by simp), un2.keep a _ na na' (LamY.nofr I2 sa) (by simp), fun g hg hgk => ?_⟩
              have nz2 : H3 kS = none := un2.free kS _ hcS nz' (by simp)
              have na2 : H3 a = none := un2.free a _ na na' (by simp)
              refine ⟨H3, F'', kV ++ [kv], LamY.inv_priv (ch := [kS]) (t' := s3.toks) I'' (fun b hb => ?_) (fun b o hb w => hg b o (fun q => hb (by simp [q])) w), ex'.trans ex'', un_priv (ch := [kS]) (un.trans un2) (fun b o hb w => hg b o (fun q => hb (by simp [q])) w) (fun b o w hb => ?_), vals_snoc vk rk, ?_, na2, nz2⟩
              · rw [List.mem_singleton.mp hb]
                exact I2.fpOk sz nz2
              · rw [List.mem_singleton.mp hb] at w
                exact absurd (Heap.lt_size w) (Nat.not_lt.mpr sz)
              · rw [List.length_append, List.length_singleton, List.take_add_one, hl', hki]
                rw [hl'] at dk
                exact datL_snoc (dk.mono ex''.ff.sm) dk2
            | next => exact False.elim hh
            | brk => exact False.elim hh
            | cont => exact False.elim hh
      case fin =>
        have hkS : kS = z := by rw [hkS, ez]
        subst hkS
        obtain ⟨H', F', kV, I', ex', un, vk, dk, na', nz'⟩ := hJ
        have kt : kds.take ks.length = kds := List.take_of_length_le (by omega)
        rw [kt] at dk
        refine ⟨kds.map toP, al, so, fun d m => ?_, each_reads I' ex'.fh.sm vk (by rw [hK]; exact dk) nr, fun h' tk out cc kp hD ko => ⟨rfl, ?_⟩⟩
        · have := dp d m
          have := hr.un
          show X.A.in1.in1.units + d.depth < cLine
          have e5 : X.A.in1.in1.units = X.A.units + 2 := rfl
          omega
        · have l1 : vs1.length = ds.length := dlen
          have l2 : (kds.map toP).length = ds.length := by rw [List.length_map, kl]
          obtain ⟨zm1, zm2⟩ := zip_maps l1 l2
          have ko2 : KeyedOut false (((vs1.zip ds).zip (kds.map toP)).map fun x => x.2) its out := by rw [zm2]; exact ko
          have eo := keyedOut_each (fun x : (V × D) × PyData => x.2) ko2 (each_zip rvi l1 l2)
          have vo := each_vals eo
          have fpa : FpOk X pins H' a := I2.fpOk sa na'
          have fpz : FpOk X pins H' kS := I2.fpOk sz nz'
          have I3 := LamY.inv_priv (ch := [kS, a]) (t' := tk) (h' := h') I' (fun b hb => by
            rcases List.mem_cons.mp hb with rfl | hb
            · exact fpz
            · rw [List.mem_singleton.mp hb]; exact fpa) (fun b o hb w => kp b o (fun q => hb (by simp [q])) (fun q => hb (by simp [q])) w)
          have I4 := Inv.take (it := a) (t' := tk) (h' := h') (o := .lst (((((vs1.zip ds).zip (kds.map toP)).mergeSort (dataLe false fun x => x.2))).map fun x => x.1.1)) I3 (fun b ob _ w => w) fpa ⟨?_, out, cc, vo, hD⟩
          · refine ⟨.ref a, _, I4, rfl, ?_⟩
            have dd : DatL L.K F' ((((vs1.zip ds).zip (kds.map toP)).mergeSort (dataLe false fun x => x.2)).map fun x => x.1.1) (sortBy ds kds) := by
              have := datL_of (K := L.K) (F := F') (bs := ((vs1.zip ds).zip (kds.map toP)).mergeSort (dataLe false fun x => x.2)) fun x m => (zip_dat (ks := kds.map toP) d1 x (List.mem_mergeSort.mp m)).mono ex'.ff.sm
              rw [sort_snd, zm1] at this
              exact this
            have exf := ((x1.trans x2).trans ex').trans (Ext.newH (T := L.T) (p := a) (o := .lst (((((vs1.zip ds).zip (kds.map toP)).mergeSort (dataLe false fun x => x.2))).map fun x => x.1.1)) ex'.fh ex'.nt na')
            refine q0 _ F' _ [a] exf (.l upd_same (OwnL.ofDat dd)) (by simp) fun b m => ?_
            rw [List.mem_singleton.mp m]
            exact ⟨ex'.fh.free na', ((x1.trans x2).trans ex').back (.of na')⟩
          · rw [List.length_map, List.length_mergeSort, List.length_zip, List.length_zip]
            omega
end
end PD
set_option Elab.async false
set_option linter.all false
set_option maxRecDepth 100000
set_option maxHeartbeats 4000000
/-! sorted(e) -/
namespace PD
open PySem PySem.Spec PyProof.Rows L2
open PySem.W (dataLe AllAlike Sortable EachIs)
noncomputable def dSort : D → Option D
  | .lst ds => if okK ds = true then some (.lst (sortBy ds ds)) else none
  | _ => none
theorem each_zipR {R : Value → PyData → Prop} {its : List Value} : ∀ {vs : List V} {ds : List D} {ks : List PyData}, EachIs R its ks → vs.length = ds.length → ks.length = ds.length → EachIs (fun (u : Value) (x : (V × D) × PyData) => R u x.2) its ((vs.zip ds).zip ks) := by
  induction its with
  | nil =>
    intro vs ds ks h h1 h2
    cases h
    cases ds with
    | nil => cases vs with
      | nil => exact .nil
      | cons _ _ => cases h1
    | cons _ _ => cases h2
  | cons u its ih =>
    intro vs ds ks h h1 h2
    cases h with
    | cons r t =>
      cases ds with
      | nil => cases h2
      | cons d ds =>
        cases vs with
        | nil => cases h1
        | cons v vs => exact .cons r (ih t (by simpa using h1) (by simpa using h2))
section
variable {X : Cx} {L : LE} {fl : List Sh} {W : WX} {pos : Pos}
noncomputable def rSortD (L : LE) : List V → Hp → VK → Prop := fun vs H Q => ∃ (l : Addr) (vs1 : List V) (ds : List D) (F : Hp), vs = [.ref l] ∧ SqL L.K H l vs1 ∧ DatL L.K F vs1 ds ∧ Same F H ∧ okK ds = true ∧ ∀ p : Addr, H p = none → Q (.ref p) (upd H p (.lst ((((vs1.zip ds).zip (ds.map toP)).mergeSort (dataLe false fun x => x.2)).map fun x => x.1.1)))
theorem cr_sortD {k : Nat} (hr : Room k X.A) (hK : X.K = L.K) : CallR X (.builtin "sorted") (rSortD L) := by
  intro pins s σ H vs us Q I rv h
  obtain ⟨l, vs1, ds, F, rfl, sq, d1, fh, ok, q⟩ := h
  obtain rfl := Vals.ref1 rv
  rw [← hK] at sq
  obtain ⟨its, rvi, hl, hz⟩ := I.list sq
  obtain ⟨al, so, dp, nr⟩ := okK_spec ok
  have hlen := rvi.length
  have dlen := d1.length
  have lk : (ds.map toP).length = ds.length := List.length_map ..
  obtain ⟨zm1, zm2⟩ := zip_maps (ks := ds.map toP) dlen lk
  have er := each_zipR (vs := vs1) (ds := ds) (each_reads I fh.sm rvi (by rw [hK]; exact d1) nr) dlen lk
  have bl : ((vs1.zip ds).zip (ds.map toP)).length = its.length := by rw [List.length_zip, List.length_zip, lk]; omega
  refine PySem.W.sorted_data (enc := fun x : (V × D) × PyData => x.2) hl.isList (each_zip rvi dlen lk) er (by rw [zm2]; exact al) (by rw [zm2]; exact so) (by rw [bl, ← hlen]; exact hz) (fun x m => ?_) fun out ol eo => ?_
  · have := dp x.2 (by rw [← zm2]; exact List.mem_map_of_mem m)
    have := hr.un
    omega
  · obtain ⟨ep, he⟩ := PyProof.Rows.sortedAll_at s.heap its out.toArray
    refine ⟨.ref (s.heap.objs.size + 1), _, I.laid (t' := s.toks) (o := .lst ((((vs1.zip ds).zip (ds.map toP)).mergeSort (dataLe false fun x => x.2)).map fun x => x.1.1)) (fun _ _ => PyProof.Rows.sortedAll_old) (Nat.le_succ _) ⟨?_, out, ep, each_vals eo, he⟩, rfl, q _ (I.hok.fresh (Nat.le_succ _))⟩
    rw [List.length_map, List.length_mergeSort, bl, ← hlen]
    exact hz
theorem e_sort {k : Nat} {e : Expr} {f : Env → R D} {p : Pos} (hr : Room k X.A) (hm : X.mg "sorted" = none) (hK : X.K = L.K) (he : PE X e (tLS L fl W f)) (hg : Gl X "sorted" := by rfl)
    (hs1 : starEach (e :: []) X.env = (false, eval e X.env) :: starEach [] X.env := by rfl) (hpl : (backTo pos (starEach [] X.env)).any (·.1) = false := by rfl) : PE X (.Call (.Name "sorted" p) [e] [] pos) (tD L fl (.l .s) W (m1 dSort f)) :=
  (pe_callB (cr_sortD (L := L) hr hK) hg hm rfl (pa_cons he pa_nil hs1) (by decide) (by decide) hs1 hpl).imp fun σ H Q ⟨F, B, ρ, r, p⟩ => by
    refine ⟨F, B, ρ, r, ?_⟩
    unfold m1 at p
    cases y : f ρ with
    | ok d =>
      rw [y, bind_ok] at p
      cases d with
      | lst ds =>
        intro l vs F' H' x a b
        unfold dSort at p
        dsimp only at p
        by_cases ok : okK ds = true
        · rw [if_pos ok] at p
          refine ⟨l, vs, ds, F', rfl, a, b, x.fh, ok, fun q hq => ?_⟩
          have dlen := b.length
          have lk : (ds.map toP).length = ds.length := List.length_map ..
          obtain ⟨zm1, zm2⟩ := zip_maps (ks := ds.map toP) dlen lk
          have dd : DatL L.K F' ((((vs.zip ds).zip (ds.map toP)).mergeSort (dataLe false fun x => x.2)).map fun x => x.1.1) (sortBy ds ds) := by
            have := datL_of (K := L.K) (F := F') (bs := ((vs.zip ds).zip (ds.map toP)).mergeSort (dataLe false fun x => x.2)) fun x m => zip_dat (ks := ds.map toP) b x (List.mem_mergeSort.mp m)
            rw [sort_snd, zm1] at this
            exact this
          refine p _ F' _ [q] (x.trans (Ext.newH (T := L.T) x.fh x.nt hq)) (.l upd_same (OwnL.ofDat dd)) (by simp) fun c m => ?_
          rw [List.mem_singleton.mp m]
          exact ⟨x.fh.free hq, x.back (.of hq)⟩
        · rw [if_neg ok] at p
          exact p.elim
      | _ => exact p.elim
    | err c fs => rw [y, bind_err] at p; exact p
    | stuck => rw [y, bind_stuck] at p; exact p.elim
end
end PD
set_option linter.all false
set_option maxRecDepth 100000
namespace PY
open PD PM

noncomputable def i1_ends_by_word : Env → R Fl := (sIf (mB (mDIn 1 (mV 4))) (sDLApp 1 (mV 4) (m2 dSub (mV 2) (mC (.int 1)))) (sDLPut 1 (mV 4) (mN dLst (mCons (m2 dSub (mV 2) (mC (.int 1))) mNil))))
noncomputable def l1_ends_by_word : Env → R Fl := (sSeq (sSet 4 (mSl dSl (mV 0) (mSo (mV 3)) (mSo (mV 2)))) i1_ends_by_word)
noncomputable def l2_ends_by_word : Env → R Fl := (sFor (iArgs gR1 (mCons (mV 2) mNil)) (gSet 3) l1_ends_by_word)
noncomputable def b_ends_by_word : Env → R Fl := (sSeq (sSet 1 (mC (.dic [] []))) (sSeq (sFor (iArgs gR2 (mCons (mC (.int 1)) (mCons (m2 dAdd (mN dLen (mCons (mV 0) mNil)) (mC (.int 1))) mNil))) (gSet 2) l2_ends_by_word) (sRet (mV 1))))
noncomputable def m_ends_by_word : List D → R D := mFn 5 false b_ends_by_word
noncomputable def l1_lengths_by_ends : Env → R Fl := (sSeq (sSet 4 (mN dTupOfN (mCons (mV 3) mNil))) (sSeq (sSet 5 (mN dLen (mCons (mV 2) mNil))) (sSeq (sAsg (mTGet2 1 4 (mN dTup (mCons (mV 5) (mCons (mV 5) mNil)))) (gTup (gsCons (gSet 6) (gsCons (gSet 7) gsNil)))) (sTPut 1 4 (mN dTup (mCons (mN dMin2 (mCons (mV 6) (mCons (mV 5) mNil))) (mCons (mN dMax2 (mCons (mV 7) (mCons (mV 5) mNil))) mNil)))))))
noncomputable def b_lengths_by_ends : Env → R Fl := (sSeq (sSet 1 (mC (.dct [] []))) (sSeq (sFor (iOf gItems (mCall 1 m_ends_by_word (mCons (mV 0) mNil))) (gTup (gsCons (gSet 2) (gsCons (gSet 3) gsNil))) l1_lengths_by_ends) (sRet (mV 1))))
noncomputable def m_lengths_by_ends : List D → R D := mFn 8 false b_lengths_by_ends
noncomputable def l1_kinds : Env → R Fl := (sApp 1 (mN dTup (mCons (mV 2) (mCons (mV 3) (mCons (mV 4) mNil)))))
noncomputable def b_kinds : Env → R Fl := (sSeq (sDrop (mCall 1 m_check_text (mCons (mV 0) mNil))) (sSeq (sSet 1 (mN dLst mNil)) (sSeq (sFor (iOf gItemsT (mCall 1 m_lengths_by_ends (mCons (mV 0) mNil))) (gTup (gsCons (gSet 2) (gsCons (gTup (gsCons (gSet 3) (gsCons (gSet 4) gsNil))) gsNil))) l1_kinds) (sRet (mSortK [] (mV 1) (mN dTup (mCons (m2 dIx (m2 dIx (mV 0) (mC (.int 0))) (mC (.int 0))) (mCons (m2 dIx (mV 0) (mC (.int 1))) mNil))))))))
noncomputable def m_kinds : List D → R D := mFn 5 false b_kinds
noncomputable def c1_law_ends_of : Env → R D := (mLc (iArgs gR1 (mCons (m2 dAdd (m2 dSub (mN dLen (mCons (mV 0) mNil)) (mV 2)) (mC (.int 1))) mNil)) [3] (gSet 3) (mB (m2 dEq (mSl dSl (mV 0) (mSo (mV 3)) (mSo (m2 dAdd (mV 3) (mV 2)))) (mV 1))) (m2 dSub (m2 dAdd (mV 3) (mV 2)) (mC (.int 1))))
noncomputable def b_law_ends_of : Env → R Fl := (sSeq (sSet 2 (mN dLen (mCons (mV 1) mNil))) (sRet (mN dTupOf (mCons c1_law_ends_of mNil))))
noncomputable def m_law_ends_of : List D → R D := mFn 4 false b_law_ends_of
end PY
set_option Elab.async false
set_option linter.all false
set_option maxRecDepth 100000
set_option maxHeartbeats 1000000
/-! # x.pop() as a statement -/
namespace PD
open PySem PySem.Spec PyProof.Rows L2
noncomputable def sPop0 (i : Nat) : Env → R Fl := fun ρ => match getL ρ i with
  | none => .stuck
  | some xs => match xs.getLast? with
    | some _ => .ok (.nx (ρ.set i (some (.lst xs.dropLast))))
    | none => .stuck
section
variable {X : Cx} {L : LE} {J : Jn} {fl fl1 : List Sh} {W : WX} {pos : Pos}
end
@[simp] theorem sPop0_c {i : Nat} {ρ : Env} {xs : List D} {x : D} (h : getL ρ i = some (xs ++ [x])) : sPop0 i ρ = .ok (.nx (ρ.set i (some (.lst xs)))) := by
  unfold sPop0
  rw [h]
  show (match (xs ++ [x]).getLast? with | some _ => R.ok (Fl.nx (ρ.set i (some (D.lst (xs ++ [x]).dropLast)))) | none => _) = _
  rw [List.getLast?_concat, List.dropLast_concat]
end PD
set_option Elab.async false
set_option linter.all false
set_option maxRecDepth 100000
set_option maxHeartbeats 2000000
/-! # a method whose first statement is «x = super().m()» -/
namespace PD
section
open PySem PySem.Spec PyProof.Rows L2
end
open PySem PySem.Spec PyProof.Rows PySem.W PySem.Calls L2
/-- the base's method, as D's super finds it -/
structure SupF (P : Program) (w : World) (K : Frag) (mg : Str → Option Value) (base : Heap) (L : LE) (D : Addr) (m : Str) (k : Nat) (rs : Sh) (mt : List PD.D → R PD.D) : Prop where
  ex : ∃ g fd ps, ks_superIn K D D m = some (some (.ref g)) ∧ typeIn K (.ref g) = some (.type "function") ∧ fnIn K g = true ∧ FnOk P w K mg base (L2.CX P w) k g fd ps (spD L rs 1 mt) ∧ Binds K fd ps []
section
variable {P : Program} {w : World} {K : Frag} {mg : Str → Option Value} {base : Heap} {L : LE} {k j : Nat} {f D cc cda : Addr} {name qual m x cn : Str} {params : Arguments} {scope : Scope} {dV kV doc pm ct oc ccl cl : Value} {an od cdd cld : Option Addr} {osl ccs csl : Array (Option Value)} {ar : Arg} {vs : Array Value} {file : Str} {tf : Tok} {px p0 p1 p2 p4 p5 : Pos} {N ps : List Str}
end
end PD
set_option linter.all false
set_option maxRecDepth 100000
namespace K05
open PD PM PY

noncomputable def c1_law_shared_out : Env → R D := (mLc (iOf gSq (mV 0)) [4] (gSet 4) (mB (m2 dIn (mV 1) (m2 dIx (mV 4) (mC (.int 0))))) (mN dTup (mCons (m2 dIx (mV 4) (mC (.int 1))) (mCons (m2 dIx (mV 4) (mC (.int 2))) mNil))))
noncomputable def i1_law_shared_out : Env → R Fl := (sIf (mB (m2 dNe (m2 dIx (mV 3) (mC (.int 0))) (m2 dAdd (mV 2) (mC (.int 1))))) (sRet (mC (.bl false))) sNx)
noncomputable def l1_law_shared_out : Env → R Fl := (sSeq i1_law_shared_out (sSet 2 (m2 dIx (mV 3) (mC (.int 1)))))
noncomputable def b_law_shared_out : Env → R Fl := (sSeq (sSet 2 (mC (.int 0))) (sSeq (sFor (iOf gSq (m1 dSort c1_law_shared_out)) (gSet 3) l1_law_shared_out) (sRet (m2 dEq (mV 2) (m2 dAdd (mV 1) (mC (.int 1)))))))
noncomputable def m_law_shared_out : List D → R D := mFn 5 false b_law_shared_out
noncomputable def c1_law_counts : Env → R D := (mLc (iArgs gR1 (mCons (m2 dAdd (m2 dSub (mN dLen (mCons (mV 0) mNil)) (mV 2)) (mC (.int 1))) mNil)) [3] (gSet 3) mYes (mSl dSl (mV 0) (mSo (mV 3)) (mSo (m2 dAdd (mV 3) (mV 2)))))
noncomputable def l1_law_counts : Env → R Fl := (sApp 1 (mN dLenSet (mCons c1_law_counts mNil)))
noncomputable def b_law_counts : Env → R Fl := (sSeq (sSet 1 (mN dLst mNil)) (sSeq (sFor (iArgs gR2 (mCons (mC (.int 1)) (mCons (m2 dAdd (mN dLen (mCons (mV 0) mNil)) (mC (.int 1))) mNil))) (gSet 2) l1_law_counts) (sRet (mV 1))))
noncomputable def m_law_counts : List D → R D := mFn 4 false b_law_counts
noncomputable def i1_law_is_kind : Env → R Fl := (sIf (mOr (mNot (mB (m1 (dIsi "tuple") (mV 0)))) (mOr (mB (m2 dNe (mN dLen (mCons (mV 0) mNil)) (mC (.int 3)))) (mOr (mNot (mB (m1 (dIsi "tuple") (m2 dIx (mV 0) (mC (.int 0)))))) (mB (m2 dEq (mN dLen (mCons (m2 dIx (mV 0) (mC (.int 0))) mNil)) (mC (.int 0))))))) (sRet (mC (.bl false))) sNx)
noncomputable def i2_law_is_kind : Env → R Fl := (sIf (mOr (mNot (mB (mCall 1 m_law_is_int (mCons (m2 dIx (mV 0) (mC (.int 1))) mNil)))) (mNot (mB (mCall 1 m_law_is_int (mCons (m2 dIx (mV 0) (mC (.int 2))) mNil))))) (sRet (mC (.bl false))) sNx)
noncomputable def c1_law_is_kind : Env → R D := (mLc (iOf gSq (m2 dIx (mV 0) (mC (.int 0)))) [1] (gSet 1) (mNot (mB (mCall 1 m_law_is_int (mCons (mV 1) mNil)))) (mV 1))
noncomputable def b_law_is_kind : Env → R Fl := (sSeq i1_law_is_kind (sSeq i2_law_is_kind (sRet (m2 dEq (mN dLen (mCons c1_law_is_kind mNil)) (mC (.int 0))))))
noncomputable def m_law_is_kind : List D → R D := mFn 2 false b_law_is_kind
noncomputable def i1_law_is_whole : Env → R Fl := (sIf (mNot (mAnd (mB (m2 dLe (mC (.int 1)) (m2 dIx (mV 1) (mC (.int 1))))) (mAnd (mB (m2 dLe (m2 dIx (mV 1) (mC (.int 1))) (m2 dIx (mV 1) (mC (.int 2))))) (mAnd (mB (m2 dLe (m2 dIx (mV 1) (mC (.int 2))) (mV 2))) (mB (m2 dLe (mV 2) (mN dLen (mCons (mV 0) mNil)))))))) (sRet (mC (.bl false))) sNx)
noncomputable def i2_law_is_whole : Env → R Fl := (sIf (mOr (mB (m2 dNe (mCall 2 m_law_ends_of (mCons (mV 0) (mCons (mV 3) mNil))) (m2 dIx (mV 1) (mC (.int 0))))) (mB (m2 dNe (mCall 2 m_law_ends_of (mCons (mV 0) (mCons (mV 4) mNil))) (m2 dIx (mV 1) (mC (.int 0)))))) (sRet (mC (.bl false))) sNx)
noncomputable def c1_law_is_whole : Env → R D := (mLc (iOf gSq (m2 dIx (mV 1) (mC (.int 0)))) [6] (gSet 6) (mB (m2 dGe (mV 6) (m2 dIx (mV 1) (mC (.int 2))))) (m2 dIx (mV 0) (m2 dSub (mV 6) (m2 dIx (mV 1) (mC (.int 2))))))
noncomputable def i3_law_is_whole : Env → R Fl := (sIf (mAnd (mB (m2 dEq (mN dLen (mCons (mV 5) mNil)) (mN dLen (mCons (m2 dIx (mV 1) (mC (.int 0))) mNil)))) (mB (m2 dEq (mN dLenSet (mCons (mV 5) mNil)) (mC (.int 1))))) (sRet (mC (.bl false))) sNx)
noncomputable def b_law_is_whole : Env → R Fl := (sSeq (sSet 2 (m2 dAdd (m2 dIx (m2 dIx (mV 1) (mC (.int 0))) (mC (.int 0))) (mC (.int 1)))) (sSeq i1_law_is_whole (sSeq (sSet 3 (mSl dSl (mV 0) (mSo (m2 dSub (mV 2) (m2 dIx (mV 1) (mC (.int 2))))) (mSo (mV 2)))) (sSeq (sSet 4 (mSl dSl (mV 0) (mSo (m2 dSub (mV 2) (m2 dIx (mV 1) (mC (.int 1))))) (mSo (mV 2)))) (sSeq i2_law_is_whole (sSeq (sSet 5 c1_law_is_whole) (sSeq i3_law_is_whole (sRet (mOrV (m2 dEq (m2 dIx (mV 1) (mC (.int 1))) (mC (.int 1))) (m2 dGt (mN dLen (mCons (mCall 2 m_law_ends_of (mCons (mV 0) (mCons (mSl dSl (mV 4) (mSo (mC (.int 1))) mNo) mNil))) mNil)) (mN dLen (mCons (m2 dIx (mV 1) (mC (.int 0))) mNil))))))))))))
noncomputable def m_law_is_whole : List D → R D := mFn 7 false b_law_is_whole
noncomputable def c1_law_nested : Env → R D := (mLc (iOf gSq (m2 dIx (mV 0) (mC (.int 0)))) [3] (gSet 3) (mB (m2 dIn (mV 3) (m2 dIx (mV 1) (mC (.int 0))))) (mV 3))
noncomputable def i1_law_nested : Env → R Fl := (sIf (mB (m2 dEq (mN dLen (mCons (mV 2) mNil)) (mC (.int 0)))) (sRet (mC (.bl true))) sNx)
noncomputable def i2_law_nested : Env → R Fl := (sIf (mB (m2 dLt (mN dLen (mCons (m2 dIx (mV 0) (mC (.int 0))) mNil)) (mN dLen (mCons (m2 dIx (mV 1) (mC (.int 0))) mNil)))) (sRet (mAndV (m2 dEq (mN dLen (mCons (mV 2) mNil)) (mN dLen (mCons (m2 dIx (mV 0) (mC (.int 0))) mNil))) (m2 dGt (m2 dIx (mV 0) (mC (.int 1))) (m2 dIx (mV 1) (mC (.int 2)))))) sNx)
noncomputable def b_law_nested : Env → R Fl := (sSeq (sSet 2 c1_law_nested) (sSeq i1_law_nested (sSeq i2_law_nested (sRet (mAndV (m2 dEq (mN dLen (mCons (mV 2) mNil)) (mN dLen (mCons (m2 dIx (mV 1) (mC (.int 0))) mNil))) (mAndV (m2 dLt (mN dLen (mCons (m2 dIx (mV 1) (mC (.int 0))) mNil)) (mN dLen (mCons (m2 dIx (mV 0) (mC (.int 0))) mNil))) (m2 dGt (m2 dIx (mV 1) (mC (.int 1))) (m2 dIx (mV 0) (mC (.int 2))))))))))
noncomputable def m_law_nested : List D → R D := mFn 4 false b_law_nested
noncomputable def i1_law_nest : Env → R Fl := (sIf (mOr (mNot (mB (m1 (dIsi "list") (mV 1)))) (mB (m2 dGt (mN dLen (mCons (mV 1) mNil)) (mN dMax2 (mCons (mC (.int 1)) (mCons (m2 dSub (m2 dMul (mC (.int 2)) (mN dLen (mCons (mV 0) mNil))) (mC (.int 2))) mNil)))))) (sRet (mC (.bl false))) sNx)
noncomputable def i2_law_nest : Env → R Fl := (sIf (mOr (mNot (mB (mCall 1 m_law_is_kind (mCons (m2 dIx (mV 1) (mV 2)) mNil)))) (mNot (mB (mCall 2 m_law_is_whole (mCons (mV 0) (mCons (m2 dIx (mV 1) (mV 2)) mNil)))))) (sRet (mC (.bl false))) sNx)
noncomputable def i3_law_nest : Env → R Fl := (sIf (mNot (mB (mCall 2 m_law_nested (mCons (m2 dIx (mV 1) (mV 4)) (mCons (m2 dIx (mV 1) (mV 2)) mNil))))) (sRet (mC (.bl false))) sNx)
noncomputable def l1_law_nest : Env → R Fl := i3_law_nest
noncomputable def l2_law_nest : Env → R Fl := (sSeq i2_law_nest (sFor (iArgs gR1 (mCons (mV 2) mNil)) (gSet 4) l1_law_nest))
noncomputable def i4_law_nest : Env → R Fl := (sIf (mNot (mB (mCall 2 m_law_shared_out (mCons (mV 1) (mCons (mV 3) mNil))))) (sRet (mC (.bl false))) sNx)
noncomputable def l3_law_nest : Env → R Fl := i4_law_nest
noncomputable def c1_law_nest : Env → R D := (mLc (iOf gSq (mV 1)) [5] (gSet 5) mYes (m2 dAdd (m2 dSub (m2 dIx (mV 5) (mC (.int 2))) (m2 dIx (mV 5) (mC (.int 1)))) (mC (.int 1))))
noncomputable def b_law_nest : Env → R Fl := (sSeq i1_law_nest (sSeq (sFor (iArgs gR1 (mCons (mN dLen (mCons (mV 1) mNil)) mNil)) (gSet 2) l2_law_nest) (sSeq (sFor (iArgs gR1 (mCons (mN dLen (mCons (mV 0) mNil)) mNil)) (gSet 3) l3_law_nest) (sRet (m2 dEq (mN dSumL (mCons c1_law_nest mNil)) (mN dSumL (mCons (mCall 1 m_law_counts (mCons (mV 0) mNil)) mNil)))))))
noncomputable def m_law_nest : List D → R D := mFn 6 false b_law_nest
noncomputable def i1_law : Env → R Fl := (sIf (mB (m2 dEq (m2 dIx (mCall 2 m_law_draws (mCons (mCall 2 m_law_cell (mCons (mV 0) (mCons (mC (.int 1)) mNil))) (mCons (mN dLst (mCons (mC (.int 12)) mNil)) mNil))) (mC (.int 0))) (mC (.int 11)))) (sSet 1 (mC (.int 40))) sNx)
noncomputable def i2_law : Env → R Fl := (sIf (mNot (mB (mCallL 2 m_law_nest (mCons (mV 2) (mCons (mV 4) mNil))))) (sRet (mC (.bl false))) sNx)
noncomputable def b_law : Env → R Fl := (sSeq (sSet 1 (mC (.int 24))) (sSeq i1_law (sSeq (sSet 2 (mCall 2 m_law_text (mCons (mCall 2 m_law_cell (mCons (mV 0) (mCons (mC (.int 0)) mNil))) (mCons (mV 1) mNil)))) (sSeq (sSet 3 (mCall 2 m_law_text (mCons (mCall 2 m_law_cell (mCons (mV 0) (mCons (mC (.int 2)) mNil))) (mCons (mC (.int 9)) mNil)))) (sSeq (sSet 4 (mCall 1 m_kinds (mCons (mV 2) mNil))) (sSeq i2_law (sSeq (sSet 5 (mNLL (mN dListOf (mCons (mV 4) mNil)))) (sSeq (sApp 4 (m2 dIx (mV 5) (mC (.int 0)))) (sRet (mAndV (mCall 2 m_law_nest (mCons (mV 3) (mCons (mCall 1 m_kinds (mCons (mV 3) mNil)) mNil))) (mCall 2 (m_law_same 8) (mCons (mCall 1 m_kinds (mCons (mV 2) mNil)) (mCons (mV 5) mNil)))))))))))))
noncomputable def m_law : List D → R D := mFn 6 false b_law
end K05
set_option Elab.async false
set_option linter.all false
set_option maxRecDepth 100000
set_option maxHeartbeats 4000000
namespace K05
open PySem PySem.Spec PyProof.Rows L2 PD PM PY
noncomputable def topS (i : Nat) : Stmt := PySem.Challenge.pw_pressroots_k05_whole_kinds_nest.main.body.getD i (.Pass ⟨0, 0, 0, 0⟩)
noncomputable abbrev st_law_draws : Stmt := topS 14
noncomputable abbrev st_law_size : Stmt := topS 16
noncomputable abbrev st_law_letter : Stmt := topS 15
noncomputable abbrev st_law_text : Stmt := topS 17
noncomputable abbrev st_is_text : Stmt := topS 6
noncomputable abbrev st_check_text : Stmt := topS 7
noncomputable abbrev st_ends_by_word : Stmt := topS 9
noncomputable abbrev st_lengths_by_ends : Stmt := topS 10
noncomputable abbrev st_kinds : Stmt := topS 11
noncomputable abbrev st_law_cell : Stmt := topS 13
noncomputable abbrev st_law_shared_out : Stmt := topS 24
noncomputable abbrev st_law_counts : Stmt := topS 18
noncomputable abbrev st_law_is_int : Stmt := topS 20
noncomputable abbrev st_law_is_kind : Stmt := topS 21
noncomputable abbrev st_law_ends_of : Stmt := topS 19
noncomputable abbrev st_law_is_whole : Stmt := topS 22
noncomputable abbrev st_law_nested : Stmt := topS 23
noncomputable abbrev st_law_nest : Stmt := topS 25
noncomputable abbrev st_law_same : Stmt := topS 26
noncomputable abbrev st_law : Stmt := topS 27
structure Nb (mg : Str → Option Value) : Prop where
  abs : mg "abs" = none
  all : mg "all" = none
  bool : mg "bool" = none
  cLETTERS : GStr mg "LETTERS" zc3fcd3d7
  cMOST : GInt mg "MOST" 128
  int : mg "int" = none
  isinstance : mg "isinstance" = none
  len : mg "len" = none
  list : mg "list" = none
  max : mg "max" = none
  min : mg "min" = none
  range : mg "range" = none
  set : mg "set" = none
  sorted : mg "sorted" = none
  str : mg "str" = none
  sum : mg "sum" = none
  tuple : mg "tuple" = none
section
variable {P : Program} {w : World} {K : PySem.W.Frag} {mg : Str → Option Value} {base : Heap} {ca : Str → Addr} {T : List Tab}
theorem sc_law_draws : FnScope ["cell", "sizes", "number", "rest", "draws", "k", "seed"] ["cell", "sizes"] (defScope st_law_draws) := ⟨rfl, rfl, rfl, by decide +kernel, rfl, by decide +kernel, by decide +kernel⟩
theorem ok_law_draws {f : Addr} {fd : FuncData} (F : Fun K "_law_draws" "_law_draws" st_law_draws f fd) (nb : Nb mg) :
    FnOk P w K mg base (L2.CX P w) 1 f fd ["cell", "sizes"] (spD ⟨K, ca, T⟩ .s 2 m_law_draws) := by
  refine fnD F sc_law_draws rfl (fl := [.s, .s, .s, .s, .l .s, .s, .s]) (fl' := [.s, .s, .s, .s, .s, .s, .s]) (rest := [.s, .s, (.l .s), .s, .s]) false rfl rfl (fun h => nomatch h) fun cdv A outer s H E hr => ?_
  exact (s_cons (fl1 := [.s, .s, .s, .s, .l .s, .s, .s]) (s_set 2 sc_law_draws.nd (e_callB call_abs (cd_abs (bw := true)) nb.abs boot_abs' (a_cons (e_varS 0) a_nil))) (s_cons (fl1 := [.s, .s, .s, .s, .l .s, .s, .s]) (s_set 3 sc_law_draws.nd (e_varS 2)) (s_cons (fl1 := [.s, .s, .s, .s, .l .s, .s, .s]) (s_if (t_cmp or_lt (od_cmp (bw := true)) (e_varS 2) (e_op2 op_pow (od_pow (bw := true)) e_int e_int)) (s_one (s_set 3 sc_law_draws.nd e_int)) s_nil) (s_cons (fl1 := [.s, .s, .s, .s, .l .s, .s, .s]) (s_set 4 sc_law_draws.nd (e_lst a_nil)) (s_cons (fl1 := [.s, .s, .s, .s, .l .s, .s, .s]) (s_for (passes_of rfl) (i_range1 nb.range (a_cons (e_callB call_len (cd_len (bw := true) rfl) nb.len PySem.boot_len (a_cons (e_varS 1) a_nil)) a_nil)) (g_name 5 sc_law_draws.nd) (s_one (s_if (t_cmp or_gt (od_cmp (bw := true)) (e_varS 3) e_int) (s_cons (fl1 := [.s, .s, .s, .s, .l .s, .s, .s]) (s_append 4 (e_op2 op_mod (od_mod (bw := true)) (e_callT call_int1 (cd_int (bw := true)) nb.int boot_int (a_cons (e_varS 3) a_nil)) (e_ix (e_varS 1) (e_varS 5)))) (s_one (s_set 3 sc_law_draws.nd (e_op2 op_fdivW (od_div (bw := true)) (e_varS 3) (e_ix (e_varS 1) (e_varS 5)))))) (s_cons (fl1 := [.s, .s, .s, .s, .l .s, .s, .s]) (s_set 6 sc_law_draws.nd (e_op2 op_mod (od_mod (bw := true)) (e_callT call_int1 (cd_int (bw := true)) nb.int boot_int (a_cons (e_op2 or_add od_add (e_op2 or_mul od_mul (e_varS 2) e_int) (e_op2 or_mul od_mul e_int (e_op2 or_add od_add (e_varS 5) e_int))) a_nil)) e_int)) (s_cons (fl1 := [.s, .s, .s, .s, .l .s, .s, .s]) (s_set 6 sc_law_draws.nd (e_op2 op_mod (od_mod (bw := true)) (e_callT call_int1 (cd_int (bw := true)) nb.int boot_int (a_cons (e_op2 or_add od_add (e_op2 or_mul od_mul (e_varS 6) (e_varS 6)) (e_op2 or_mul od_mul e_int (e_op2 or_add od_add (e_varS 5) e_int))) a_nil)) e_int)) (s_cons (fl1 := [.s, .s, .s, .s, .l .s, .s, .s]) (s_set 6 sc_law_draws.nd (e_op2 op_mod (od_mod (bw := true)) (e_callT call_int1 (cd_int (bw := true)) nb.int boot_int (a_cons (e_op2 or_add od_add (e_op2 or_mul od_mul (e_varS 6) (e_varS 6)) e_int) a_nil)) e_int)) (s_one (s_append 4 (e_op2 op_mod (od_mod (bw := true)) (e_callT call_int1 (cd_int (bw := true)) nb.int boot_int (a_cons (e_op2 op_fdivW (od_div (bw := true)) (e_varS 6) e_int) a_nil)) (e_ix (e_varS 1) (e_varS 5))))))))))) (ss_frz 4 (s_one (s_ret (e_varS 4)))))))))
theorem sc_law_size : FnScope ["mode", "number", "most"] ["mode", "number", "most"] (defScope st_law_size) := ⟨rfl, rfl, rfl, by decide +kernel, rfl, by decide +kernel, by decide +kernel⟩
theorem ok_law_size {f : Addr} {fd : FuncData} (F : Fun K "_law_size" "_law_size" st_law_size f fd) (nb : Nb mg) :
    FnOk P w K mg base (L2.CX P w) 1 f fd ["mode", "number", "most"] (spD ⟨K, ca, T⟩ .s 3 m_law_size) := by
  refine fnD F sc_law_size rfl (fl := [.s, .s, .s]) (fl' := [.s, .s, .s]) (rest := []) false rfl rfl (fun h => nomatch h) fun cdv A outer s H E hr => ?_
  exact (s_cons (fl1 := [.s, .s, .s]) (s_if (t_cmp or_lt (od_cmp (bw := true)) (e_varS 0) e_int) (s_one (s_ret (e_op2 or_add od_add e_int (e_op2 op_mod (od_mod (bw := true)) (e_callT call_int1 (cd_int (bw := true)) nb.int boot_int (a_cons (e_varS 1) a_nil)) (e_callB (call_min2 rfl) (cd_min (bw := true)) nb.min boot_min' (a_cons e_int (a_cons (e_varS 2) a_nil))))))) s_nil) (s_cons (fl1 := [.s, .s, .s]) (s_if (t_cmp or_lt (od_cmp (bw := true)) (e_varS 0) e_int) (s_one (s_ret (e_op2 or_add od_add e_int (e_op2 op_mod (od_mod (bw := true)) (e_callT call_int1 (cd_int (bw := true)) nb.int boot_int (a_cons (e_varS 1) a_nil)) (e_callB (call_min2 rfl) (cd_min (bw := true)) nb.min boot_min' (a_cons e_int (a_cons (e_varS 2) a_nil))))))) s_nil) (s_one (s_ret (e_op2 or_add od_add e_int (e_op2 op_mod (od_mod (bw := true)) (e_callT call_int1 (cd_int (bw := true)) nb.int boot_int (a_cons (e_varS 1) a_nil)) (e_varS 2)))))))
theorem sc_law_letter : FnScope ["number"] ["number"] (defScope st_law_letter) := ⟨rfl, rfl, rfl, by decide +kernel, rfl, by decide +kernel, by decide +kernel⟩
theorem ok_law_letter {f : Addr} {fd : FuncData} (F : Fun K "_law_letter" "_law_letter" st_law_letter f fd) (nb : Nb mg) :
    FnOk P w K mg base (L2.CX P w) 1 f fd ["number"] (spD ⟨K, ca, T⟩ .s 1 m_law_letter) := by
  refine fnD F sc_law_letter rfl (fl := [.s]) (fl' := [.s]) (rest := []) false rfl rfl (fun h => nomatch h) fun cdv A outer s H E hr => ?_
  exact (s_one (s_ret (e_ix (e_str zc3fcd3d7) (e_op2 op_mod (od_mod (bw := true)) (e_callT call_int1 (cd_int (bw := true)) nb.int boot_int (a_cons (e_varS 0) a_nil)) e_int))))
theorem sc_law_text : FnScope ["cell", "most", "head", "told", "size", "first", "stride", "many", "values", "period", "shorter", "longer", "k", "value", "both"] ["cell", "most"] (defScope st_law_text) := ⟨rfl, rfl, rfl, by decide +kernel, rfl, by decide +kernel, by decide +kernel⟩
theorem ok_law_text {f : Addr} {fd : FuncData} (F : Fun K "_law_text" "_law_text" st_law_text f fd) (nb : Nb mg) (c_law_draws : Cal P w K mg base ⟨K, ca, T⟩ "_law_draws" 1 .s 2 m_law_draws) (c_law_size : Cal P w K mg base ⟨K, ca, T⟩ "_law_size" 1 .s 3 m_law_size) (c_law_letter : Cal P w K mg base ⟨K, ca, T⟩ "_law_letter" 1 .s 1 m_law_letter) :
    FnOk P w K mg base (L2.CX P w) 2 f fd ["cell", "most"] (spD ⟨K, ca, T⟩ .s 2 m_law_text) := by
  refine fnD F sc_law_text rfl (fl := [.s, .s, .s, .s, .s, .s, .s, .s, .s, .s, .s, .s, .s, .s, .s]) (fl' := [.s, .s, .s, .s, .s, .s, .s, .s, .s, .s, .s, .s, .s, .s, .s]) (rest := [.s, .s, .s, .s, .s, .s, .s, .s, .s, .s, .s, .s, .s]) false rfl rfl (fun h => nomatch h) fun cdv A outer s H E hr => ?_
  exact (s_cons (fl1 := [.s, .s, .s, .s, .s, .s, .s, .s, .s, .s, .s, .s, .s, .s, .s]) (s_set 2 sc_law_text.nd (e_frz (e_lst (a_cons e_int (a_cons e_int (a_cons e_int (a_cons e_int (a_cons e_int (a_cons e_int (a_cons e_int a_nil)))))))))) (s_cons (fl1 := [.s, .s, .s, .s, .s, .s, .s, .s, .s, .s, .s, .s, .s, .s, .s]) (s_set 3 sc_law_text.nd (e_call c_law_draws hr (takes_of rfl rfl rfl rfl) (a_cons (e_varS 0) (a_cons (e_varS 2) a_nil)))) (s_cons (fl1 := [.s, .s, .s, .s, .s, .s, .s, .s, .s, .s, .s, .s, .s, .s, .s]) (s_set 4 sc_law_text.nd (e_call c_law_size hr (takes_of rfl rfl rfl rfl) (a_cons (e_ix (e_varS 3) e_int) (a_cons (e_ix (e_varS 3) e_int) (a_cons (e_varS 1) a_nil))))) (s_cons (fl1 := [.s, .s, .s, .s, .s, .s, .s, .s, .s, .s, .s, .s, .s, .s, .s]) (s_set 5 sc_law_text.nd (e_ix (e_varS 3) e_int)) (s_cons (fl1 := [.s, .s, .s, .s, .s, .s, .s, .s, .s, .s, .s, .s, .s, .s, .s]) (s_set 6 sc_law_text.nd (e_ix (e_frz (e_lst (a_cons e_int (a_cons e_int (a_cons e_int (a_cons e_int a_nil)))))) (e_ix (e_varS 3) e_int))) (s_cons (fl1 := [.s, .s, .s, .s, .s, .s, .s, .s, .s, .s, .s, .s, .s, .s, .s]) (s_set 7 sc_law_text.nd (e_ix (e_frz (e_lst (a_cons e_int (a_cons e_int (a_cons e_int (a_cons e_int (a_cons e_int (a_cons e_int a_nil)))))))) (e_ix (e_varS 3) e_int))) (s_cons (fl1 := [.s, .s, .s, .s, .s, .s, .s, .s, .s, .s, .s, .s, .s, .s, .s]) (s_set 8 sc_law_text.nd (e_frz (e_lc [("value", 13)] sc_law_text.nd (i_list (e_sl (e_call c_law_draws hr (takes_of rfl rfl rfl rfl) (a_cons (e_varS 0) (a_cons (e_op2 or_add od_add (e_varS 2) (e_op2 or_mul od_mul (e_frz (e_lst (a_cons e_int a_nil))) (e_varS 4))) a_nil))) (o_some e_int) o_none)) (by show blkC ["cell", "most", "head", "told", "size", "first", "stride", "many", "values", "period", "shorter", "longer", "k", "value", "both"] (defScope st_law_text) _ _ = true; decide +kernel) (fun _ _ _ _ _ => by exact (g_name 13 sc_law_text.nd)) (fun _ _ _ _ _ => by exact ts_nil) (fun _ _ _ _ _ => by exact (e_op2 op_mod (od_mod (bw := true)) (e_callT call_int1 (cd_int (bw := true)) nb.int boot_int (a_cons (e_varS 13) a_nil)) (e_varS 7)))))) (s_cons (fl1 := [.s, .s, .s, .s, .s, .s, .s, .s, .s, .s, .s, .s, .s, .s, .s]) (s_if (PW.pt (t_or2 (t_cmp (or_eq hr) (od_eq (bw := true) rfl) (e_ix (e_varS 3) e_int) e_int) (t_or1 (t_cmp (or_eq hr) (od_eq (bw := true) rfl) (e_ix (e_varS 3) e_int) e_int)))) (s_cons (fl1 := [.s, .s, .s, .s, .s, .s, .s, .s, .s, .s, .s, .s, .s, .s, .s]) (s_set 9 sc_law_text.nd (e_op2 or_add od_add e_int (e_op2 op_fdivW (od_div (bw := true)) (e_ix (e_varS 3) e_int) e_int))) (s_one (s_set 8 sc_law_text.nd (e_frz (e_lc [("k", 12)] sc_law_text.nd (i_range1 nb.range (a_cons (e_varS 4) a_nil)) (by show blkC ["cell", "most", "head", "told", "size", "first", "stride", "many", "values", "period", "shorter", "longer", "k", "value", "both"] (defScope st_law_text) _ _ = true; decide +kernel) (fun _ _ _ _ _ => by exact (g_name 12 sc_law_text.nd)) (fun _ _ _ _ _ => by exact ts_nil) (fun _ _ _ _ _ => by exact (e_ix (e_varS 8) (e_op2 op_mod (od_mod (bw := true)) (e_callT call_int1 (cd_int (bw := true)) nb.int boot_int (a_cons (e_varS 12) a_nil)) (e_callB (call_min2 rfl) (cd_min (bw := true)) nb.min boot_min' (a_cons (e_varS 9) (a_cons (e_varS 4) a_nil))))))))))) s_nil) (s_cons (fl1 := [.s, .s, .s, .s, .s, .s, .s, .s, .s, .s, .s, .s, .s, .s, .s]) (s_if (t_cmp (or_eq hr) (od_eq (bw := true) rfl) (e_ix (e_varS 3) e_int) e_int) (s_one (s_set 8 sc_law_text.nd (e_frz (e_lc [("k", 12)] sc_law_text.nd (i_range1 nb.range (a_cons (e_varS 4) a_nil)) (by show blkC ["cell", "most", "head", "told", "size", "first", "stride", "many", "values", "period", "shorter", "longer", "k", "value", "both"] (defScope st_law_text) _ _ = true; decide +kernel) (fun _ _ _ _ _ => by exact (g_name 12 sc_law_text.nd)) (fun _ _ _ _ _ => by exact ts_nil) (fun _ _ _ _ _ => by exact (e_callT call_int1 (cd_int (bw := true)) nb.int boot_int (a_cons (e_cmp (or_eq hr) (od_eq (bw := true) rfl) (e_varS 12) (e_op2 op_fdivW (od_div (bw := true)) (e_ix (e_varS 3) e_int) e_int)) a_nil))))))) s_nil) (s_cons (fl1 := [.s, .s, .s, .s, .s, .s, .s, .s, .s, .s, .s, .s, .s, .s, .s]) (s_if (t_cmp (or_eq hr) (od_eq (bw := true) rfl) (e_ix (e_varS 3) e_int) e_int) (s_cons (fl1 := [.s, .s, .s, .s, .s, .s, .s, .s, .s, .s, .s, .s, .s, .s, .s]) (s_set 10 sc_law_text.nd (e_frz (e_lst (a_cons e_int a_nil)))) (s_cons (fl1 := [.s, .s, .s, .s, .s, .s, .s, .s, .s, .s, .s, .s, .s, .s, .s]) (s_set 11 sc_law_text.nd (e_frz (e_lst (a_cons e_int (a_cons e_int a_nil))))) (s_cons (fl1 := [.s, .s, .s, .s, .s, .s, .s, .s, .s, .s, .s, .s, .s, .s, .s]) (s_for (passes_of rfl) (i_range1 nb.range (a_cons e_int a_nil)) (g_name 12 sc_law_text.nd) (s_one (s_if (t_cmp or_lt (od_cmp (bw := true)) (e_callB call_len (cd_len (bw := true) rfl) nb.len PySem.boot_len (a_cons (e_varS 11) a_nil)) (e_varS 4)) (s_cons (fl1 := [.s, .s, .s, .s, .s, .s, .s, .s, .s, .s, .s, .s, .s, .s, .s]) (s_set 14 sc_law_text.nd (e_op2 or_add od_add (e_varS 11) (e_varS 10))) (s_cons (fl1 := [.s, .s, .s, .s, .s, .s, .s, .s, .s, .s, .s, .s, .s, .s, .s]) (s_set 10 sc_law_text.nd (e_varS 11)) (s_one (s_set 11 sc_law_text.nd (e_varS 14))))) s_nil))) (s_one (s_set 8 sc_law_text.nd (e_sl (e_varS 11) o_none (o_some (e_varS 4)))))))) s_nil) (s_one (s_ret (e_strm PySem.F.slot_str_join PySem.F.type_str_join mt_join (md_join rfl) (e_str []) (a_cons (e_frz (e_lc [("value", 13)] sc_law_text.nd (i_list (e_varS 8)) (by show blkC ["cell", "most", "head", "told", "size", "first", "stride", "many", "values", "period", "shorter", "longer", "k", "value", "both"] (defScope st_law_text) _ _ = true; decide +kernel) (fun _ _ _ _ _ => by exact (g_name 13 sc_law_text.nd)) (fun _ _ _ _ _ => by exact ts_nil) (fun _ _ _ _ _ => by exact (e_call c_law_letter hr takes0 (a_cons (e_op2 or_add od_add (e_varS 5) (e_op2 or_mul od_mul (e_varS 6) (e_varS 13))) a_nil))))) a_nil))))))))))))))
theorem sc_is_text : FnScope ["text", "sign"] ["text"] (defScope st_is_text) := ⟨rfl, rfl, rfl, by decide +kernel, rfl, by decide +kernel, by decide +kernel⟩
theorem ok_is_text {f c T1 : Addr} {oc kV doc pm ct : Value} {od an : Option Addr} {osl : Array (Option Value)} (lk : K.lookup f = some ⟨oc, od, .func (PySem.W.fnOf "is_text" "is_text" (defArgs st_is_text) (defBody st_is_text) (defScope st_is_text) .none kV doc pm an (.ref c) ct), osl⟩) (hcd : PySem.W.codeIn K (.ref c) "is_text" = true) (TB : GxR.TabB base mg c T1) (hT : InT T (Tab.g T1)) (nb : Nb mg) :
    FnOk P w K mg base (L2.CX P w) 1 f (PySem.W.fnOf "is_text" "is_text" (defArgs st_is_text) (defBody st_is_text) (defScope st_is_text) .none kV doc pm an (.ref c) ct) ["text"] (spD ⟨K, ca, T⟩ .s 1 m_is_text) := by
  refine fnDc (N := ["text", "sign"]) lk hcd sc_is_text rfl (fl := [.s, .s]) (fl' := [.s, .s]) (rest := [.s]) false rfl rfl (fun h => nomatch h) fun A outer s H E hr => ?_
  exact (s_one (s_ret (e_and (e_chain or_le (od_cmp (bw := true)) or_le (od_cmp (bw := true)) e_int (e_callB call_len (cd_len (bw := true) rfl) nb.len PySem.boot_len (a_cons (e_varS 0) a_nil)) (e_gi nb.cMOST)) (e_one (e_all hr nb.all TB hT ⟨rfl, rfl, by decide +kernel, rfl, rfl, free_vac (by decide +kernel)⟩ (e_varS 0) (elt_in' nb.cLETTERS))))))
theorem sc_check_text : FnScope ["text"] ["text"] (defScope st_check_text) := ⟨rfl, rfl, rfl, by decide +kernel, rfl, by decide +kernel, by decide +kernel⟩
theorem ok_check_text {f : Addr} {fd : FuncData} (F : Fun K "check_text" "check_text" st_check_text f fd) (xcBadText : Xcl K mg ⟨K, ca, T⟩ "BadText") (c_is_text : Cal P w K mg base ⟨K, ca, T⟩ "is_text" 1 .s 1 m_is_text) :
    FnOk P w K mg base (L2.CX P w) 2 f fd ["text"] (spD ⟨K, ca, T⟩ .s 1 m_check_text) := by
  refine fnD F sc_check_text rfl (fl := [.s]) (fl' := [.s]) (rest := []) false rfl rfl (fun h => nomatch h) fun cdv A outer s H E hr => ?_
  exact (s_cons (fl1 := [.s]) (s_if (t_not (t_val (e_call c_is_text hr (takes_of rfl rfl rfl rfl) (a_cons (e_varS 0) a_nil)))) (s_one (s_raise xcBadText (takes_of rfl rfl rfl rfl))) s_nil) (s_one (s_ret (e_varS 0))))
theorem sc_ends_by_word : FnScope ["text", "ends", "stop", "start", "word"] ["text"] (defScope st_ends_by_word) := ⟨rfl, rfl, rfl, by decide +kernel, rfl, by decide +kernel, by decide +kernel⟩
theorem ok_ends_by_word {f : Addr} {fd : FuncData} (F : Fun K "ends_by_word" "ends_by_word" st_ends_by_word f fd) (nb : Nb mg) :
    FnOk P w K mg base (L2.CX P w) 1 f fd ["text"] (spD ⟨K, ca, T⟩ .ql 1 m_ends_by_word) := by
  refine fnD F sc_ends_by_word rfl (fl := [.s, .l .s, .s, .s, .s]) (fl' := [.s, .ql, .s, .s, .s]) (rest := [(.l .s), .s, .s, .s]) false rfl rfl (fun h => nomatch h) fun cdv A outer s H E hr => ?_
  exact (s_cons (fl1 := [.s, .ql, .s, .s, .s]) (s_set 1 sc_ends_by_word.nd e_dlnew) (s_cons (fl1 := [.s, .ql, .s, .s, .s]) (s_for (passes_of rfl) (i_range2 nb.range (a_cons e_int (a_cons (e_op2 or_add od_add (e_callB call_len (cd_len (bw := true) rfl) nb.len PySem.boot_len (a_cons (e_varS 0) a_nil)) e_int) a_nil))) (g_name 2 sc_ends_by_word.nd) (s_one (s_for (passes_of rfl) (i_range1 nb.range (a_cons (e_varS 2) a_nil)) (g_name 3 sc_ends_by_word.nd) (s_cons (fl1 := [.s, .ql, .s, .s, .s]) (s_set 4 sc_ends_by_word.nd (e_sl (e_varS 0) (o_some (e_varS 3)) (o_some (e_varS 2)))) (s_one (s_if (t_dlin 1 hr (e_varS 4)) (s_one (s_dlApp 1 hr (e_varS 4) (e_op2 op_sub (od_sub (bw := true)) (e_varS 2) e_int))) (s_one (s_dlPut 1 hr (e_lst (a_cons (e_op2 op_sub (od_sub (bw := true)) (e_varS 2) e_int) a_nil)) (e_varS 4))))))))) (s_one (s_retO 1))))
theorem sc_lengths_by_ends : FnScope ["text", "lengths", "word", "positions", "ends", "size", "shortest", "longest"] ["text"] (defScope st_lengths_by_ends) := ⟨rfl, rfl, rfl, by decide +kernel, rfl, by decide +kernel, by decide +kernel⟩
theorem ok_lengths_by_ends {f : Addr} {fd : FuncData} (F : Fun K "lengths_by_ends" "lengths_by_ends" st_lengths_by_ends f fd) (nb : Nb mg) (c_ends_by_word : Cal P w K mg base ⟨K, ca, T⟩ "ends_by_word" 1 .ql 1 m_ends_by_word) :
    FnOk P w K mg base (L2.CX P w) 2 f fd ["text"] (spD ⟨K, ca, T⟩ .qt 1 m_lengths_by_ends) := by
  refine fnD F sc_lengths_by_ends rfl (fl := [.s, .l .s, .s, .s, .n, .s, .s, .s]) (fl' := [.s, .qt, .s, .s, .n, .s, .s, .s]) (rest := [(.l .s), .s, .s, .n, .s, .s, .s]) false rfl rfl (fun h => nomatch h) fun cdv A outer s H E hr => ?_
  exact (s_cons (fl1 := [.s, .qt, .s, .s, .n, .s, .s, .s]) (s_set 1 sc_lengths_by_ends.nd e_dtnew) (s_cons (fl1 := [.s, .qt, .s, .s, .n, .s, .s, .s]) (s_for (passes_of rfl) (i_items (e_call c_ends_by_word hr (takes_of rfl rfl rfl rfl) (a_cons (e_varS 0) a_nil))) (g_tup 2 (gs_lenS (gs_lenS gs_len0)) (gs_cons (g_name 2 sc_lengths_by_ends.nd) (gs_cons (g_name 3 sc_lengths_by_ends.nd) gs_nil))) (s_cons (fl1 := [.s, .qt, .s, .s, .n, .s, .s, .s]) (s_set 4 sc_lengths_by_ends.nd (e_callT call_tuple_of (cd_tupN rfl) nb.tuple boot_tuple (a_cons (e_varS 3) a_nil))) (s_cons (fl1 := [.s, .qt, .s, .s, .n, .s, .s, .s]) (s_set 5 sc_lengths_by_ends.nd (e_callB call_len (cd_len (bw := true) rfl) nb.len PySem.boot_len (a_cons (e_varS 2) a_nil))) (s_cons (fl1 := [.s, .qt, .s, .s, .n, .s, .s, .s]) (s_asg (e_tget2 1 4 hr (e_tup (a_cons (e_varS 5) (a_cons (e_varS 5) a_nil)))) (g_tup 2 (gs_lenS (gs_lenS gs_len0)) (gs_cons (g_name 6 sc_lengths_by_ends.nd) (gs_cons (g_name 7 sc_lengths_by_ends.nd) gs_nil)))) (s_one (s_tput 1 4 hr (e_tup (a_cons (e_callB (call_min2 rfl) (cd_min (bw := true)) nb.min boot_min' (a_cons (e_varS 6) (a_cons (e_varS 5) a_nil))) (a_cons (e_callB (call_max2 rfl) (cd_max (bw := true)) nb.max boot_max' (a_cons (e_varS 7) (a_cons (e_varS 5) a_nil))) a_nil))))))))) (s_one (s_retO 1))))
theorem sc_kinds : FnScope ["text", "rows", "ends", "shortest", "longest"] ["text"] (defScope st_kinds) := ⟨rfl, rfl, rfl, by decide +kernel, rfl, by decide +kernel, by decide +kernel⟩
theorem ok_kinds {f c T1 : Addr} {oc kV doc pm ct : Value} {od an : Option Addr} {osl : Array (Option Value)} (lk : K.lookup f = some ⟨oc, od, .func (PySem.W.fnOf "kinds" "kinds" (defArgs st_kinds) (defBody st_kinds) (defScope st_kinds) .none kV doc pm an (.ref c) ct), osl⟩) (hcd : PySem.W.codeIn K (.ref c) "kinds" = true) (TB : GxR.TabB base mg c T1) (hT : InT T (Tab.s T1 (("kinds" : PySem.Str) ++ ".<locals>." ++ "<lambda>"))) (nb : Nb mg) (c_check_text : Cal P w K mg base ⟨K, ca, T⟩ "check_text" 2 .s 1 m_check_text) (c_lengths_by_ends : Cal P w K mg base ⟨K, ca, T⟩ "lengths_by_ends" 2 .qt 1 m_lengths_by_ends) :
    FnOk P w K mg base (L2.CX P w) 4 f (PySem.W.fnOf "kinds" "kinds" (defArgs st_kinds) (defBody st_kinds) (defScope st_kinds) .none kV doc pm an (.ref c) ct) ["text"] (spD ⟨K, ca, T⟩ (.l .s) 1 m_kinds) := by
  refine fnDc (N := ["text", "rows", "ends", "shortest", "longest"]) lk hcd sc_kinds rfl (fl := [.s, .l .s, .s, .s, .s]) (fl' := [.s, .s, .s, .s, .s]) (rest := [(.l .s), .s, .s, .s]) false rfl rfl (fun h => nomatch h) fun A outer s H E hr => ?_
  exact (s_cons (fl1 := [.s, .l .s, .s, .s, .s]) (s_expr (e_call c_check_text hr (takes_of rfl rfl rfl rfl) (a_cons (e_varS 0) a_nil))) (s_cons (fl1 := [.s, .l .s, .s, .s, .s]) (s_set 1 sc_kinds.nd (e_lst a_nil)) (s_cons (fl1 := [.s, .l .s, .s, .s, .s]) (s_for (passes_of rfl) (i_itemsT (e_call c_lengths_by_ends hr (takes_of rfl rfl rfl rfl) (a_cons (e_varS 0) a_nil))) (g_tup 2 (gs_lenS (gs_lenS gs_len0)) (gs_cons (g_name 2 sc_kinds.nd) (gs_cons (g_tup 2 (gs_lenS (gs_lenS gs_len0)) (gs_cons (g_name 3 sc_kinds.nd) (gs_cons (g_name 4 sc_kinds.nd) gs_nil))) gs_nil))) (s_one (s_append 1 (e_tup (a_cons (e_varS 2) (a_cons (e_varS 3) (a_cons (e_varS 4) a_nil))))))) (ss_frz 1 (s_one (s_ret (e_sortK (q := "row") hr nb.sorted TB (by exact hT) rfl (ls_s (e_varS 1)) [] (by show LamY.lamS1B (defScope st_kinds) _ _ = true; decide +kernel) (by show hidB ["text", "rows", "ends", "shortest", "longest"] _ _ = true; decide +kernel) rfl (fun _ _ _ _ _ _ _ hr => by exact (e_tup (a_cons (e_ix (e_ix (e_varS 0) e_int) e_int) (a_cons (e_ix (e_varS 0) e_int) a_nil)))))))))))
theorem sc_law_cell : FnScope ["script", "k"] ["script", "k"] (defScope st_law_cell) := ⟨rfl, rfl, rfl, by decide +kernel, rfl, by decide +kernel, by decide +kernel⟩
theorem ok_law_cell {f : Addr} {fd : FuncData} (F : Fun K "_law_cell" "_law_cell" st_law_cell f fd) (nb : Nb mg) :
    FnOk P w K mg base (L2.CX P w) 1 f fd ["script", "k"] (spD ⟨K, ca, T⟩ .s 2 m_law_cell) := by
  refine fnD F sc_law_cell rfl (fl := [.s, .s]) (fl' := [.s, .s]) (rest := []) false rfl rfl (fun h => nomatch h) fun cdv A outer s H E hr => ?_
  exact (s_cons (fl1 := [.s, .s]) (s_if (t_cmp or_lt (od_cmp (bw := true)) (e_varS 1) (e_callB call_len (cd_len (bw := true) rfl) nb.len PySem.boot_len (a_cons (e_varS 0) a_nil))) (s_one (s_ret (e_ix (e_varS 0) (e_varS 1)))) s_nil) (s_one (s_ret e_int)))
theorem sc_law_shared_out : FnScope ["got", "place", "reach", "pair", "kind"] ["got", "place"] (defScope st_law_shared_out) := ⟨rfl, rfl, rfl, by decide +kernel, rfl, by decide +kernel, by decide +kernel⟩
theorem ok_law_shared_out {f : Addr} {fd : FuncData} (F : Fun K "_law_shared_out" "_law_shared_out" st_law_shared_out f fd) (nb : Nb mg) :
    FnOk P w K mg base (L2.CX P w) 1 f fd ["got", "place"] (spD ⟨K, ca, T⟩ .s 2 m_law_shared_out) := by
  refine fnD F sc_law_shared_out rfl (fl := [.s, .s, .s, .s, .s]) (fl' := [.s, .s, .s, .s, .s]) (rest := [.s, .s, .s]) false rfl rfl (fun h => nomatch h) fun cdv A outer s H E hr => ?_
  exact (s_cons (fl1 := [.s, .s, .s, .s, .s]) (s_set 2 sc_law_shared_out.nd e_int) (s_cons (fl1 := [.s, .s, .s, .s, .s]) (s_for (passes_of rfl) (i_seq (e_frz (e_sort hr nb.sorted rfl (ls_l (e_lc [("kind", 4)] sc_law_shared_out.nd (i_seq (e_varS 0) gSq_ok) (by show blkC ["got", "place", "reach", "pair", "kind"] (defScope st_law_shared_out) _ _ = true; decide +kernel) (fun _ _ _ _ _ => by exact (g_name 4 sc_law_shared_out.nd)) (fun _ _ _ _ _ => by exact (ts_one (t_cmp (or_in rfl) (od_in (bw := true)) (e_varS 1) (e_ix (e_varS 4) e_int)))) (fun _ _ _ _ _ => by exact (e_tup (a_cons (e_ix (e_varS 4) e_int) (a_cons (e_ix (e_varS 4) e_int) a_nil)))))))) gSq_ok) (g_name 3 sc_law_shared_out.nd) (s_cons (fl1 := [.s, .s, .s, .s, .s]) (s_if (t_cmp (or_ne hr) (od_ne (bw := true) rfl) (e_ix (e_varS 3) e_int) (e_op2 or_add od_add (e_varS 2) e_int)) (s_one (s_ret e_bl)) s_nil) (s_one (s_set 2 sc_law_shared_out.nd (e_ix (e_varS 3) e_int))))) (s_one (s_ret (e_cmp (or_eq hr) (od_eq (bw := true) rfl) (e_varS 2) (e_op2 or_add od_add (e_varS 1) e_int))))))
theorem sc_law_counts : FnScope ["text", "out", "size", "s"] ["text"] (defScope st_law_counts) := ⟨rfl, rfl, rfl, by decide +kernel, rfl, by decide +kernel, by decide +kernel⟩
theorem ok_law_counts {f : Addr} {fd : FuncData} (F : Fun K "_law_counts" "_law_counts" st_law_counts f fd) (nb : Nb mg) :
    FnOk P w K mg base (L2.CX P w) 1 f fd ["text"] (spD ⟨K, ca, T⟩ (.l .s) 1 m_law_counts) := by
  refine fnD F sc_law_counts rfl (fl := [.s, .l .s, .s, .s]) (fl' := [.s, .l .s, .s, .s]) (rest := [(.l .s), .s, .s]) false rfl rfl (fun h => nomatch h) fun cdv A outer s H E hr => ?_
  exact (s_cons (fl1 := [.s, .l .s, .s, .s]) (s_set 1 sc_law_counts.nd (e_lst a_nil)) (s_cons (fl1 := [.s, .l .s, .s, .s]) (s_for (passes_of rfl) (i_range2 nb.range (a_cons e_int (a_cons (e_op2 or_add od_add (e_callB call_len (cd_len (bw := true) rfl) nb.len PySem.boot_len (a_cons (e_varS 0) a_nil)) e_int) a_nil))) (g_name 2 sc_law_counts.nd) (s_one (s_append 1 (e_lenSet (bw := true) rfl nb.len nb.set (a_cons (e_frz (e_lc [("s", 3)] sc_law_counts.nd (i_range1 nb.range (a_cons (e_op2 or_add od_add (e_op2 op_sub (od_sub (bw := true)) (e_callB call_len (cd_len (bw := true) rfl) nb.len PySem.boot_len (a_cons (e_varS 0) a_nil)) (e_varS 2)) e_int) a_nil)) (by show blkC ["text", "out", "size", "s"] (defScope st_law_counts) _ _ = true; decide +kernel) (fun _ _ _ _ _ => by exact (g_name 3 sc_law_counts.nd)) (fun _ _ _ _ _ => by exact ts_nil) (fun _ _ _ _ _ => by exact (e_sl (e_varS 0) (o_some (e_varS 3)) (o_some (e_op2 or_add od_add (e_varS 3) (e_varS 2))))))) a_nil))))) (s_one (s_retO 1))))
theorem sc_law_is_int : FnScope ["x"] ["x"] (defScope st_law_is_int) := ⟨rfl, rfl, rfl, by decide +kernel, rfl, by decide +kernel, by decide +kernel⟩
theorem ok_law_is_int {f : Addr} {fd : FuncData} (F : Fun K "_law_is_int" "_law_is_int" st_law_is_int f fd) (nb : Nb mg) :
    FnOk P w K mg base (L2.CX P w) 1 f fd ["x"] (spD ⟨K, ca, T⟩ .s 1 m_law_is_int) := by
  refine fnD F sc_law_is_int rfl (fl := [.s]) (fl' := [.s]) (rest := []) false rfl rfl (fun h => nomatch h) fun cdv A outer s H E hr => ?_
  exact (s_one (s_ret (e_and (e_isi kit_int nb.isinstance nb.int boot_int (e_varS 0)) (e_one (e_not (e_isi kit_bool nb.isinstance nb.bool boot_bool (e_varS 0)))))))
theorem sc_law_is_kind : FnScope ["kind", "place"] ["kind"] (defScope st_law_is_kind) := ⟨rfl, rfl, rfl, by decide +kernel, rfl, by decide +kernel, by decide +kernel⟩
theorem ok_law_is_kind {f : Addr} {fd : FuncData} (F : Fun K "_law_is_kind" "_law_is_kind" st_law_is_kind f fd) (nb : Nb mg) (c_law_is_int : Cal P w K mg base ⟨K, ca, T⟩ "_law_is_int" 1 .s 1 m_law_is_int) :
    FnOk P w K mg base (L2.CX P w) 2 f fd ["kind"] (spD ⟨K, ca, T⟩ .s 1 m_law_is_kind) := by
  refine fnD F sc_law_is_kind rfl (fl := [.s, .s]) (fl' := [.s, .s]) (rest := [.s]) false rfl rfl (fun h => nomatch h) fun cdv A outer s H E hr => ?_
  exact (s_cons (fl1 := [.s, .s]) (s_if (PW.pt (t_or2 (t_not (t_val (e_isi kit_tuple nb.isinstance nb.tuple boot_tuple (e_varS 0)))) (t_or2 (t_cmp (or_ne hr) (od_ne (bw := true) rfl) (e_callB call_len (cd_len (bw := true) rfl) nb.len PySem.boot_len (a_cons (e_varS 0) a_nil)) e_int) (t_or2 (t_not (t_val (e_isi kit_tuple nb.isinstance nb.tuple boot_tuple (e_ix (e_varS 0) e_int)))) (t_or1 (t_cmp (or_eq hr) (od_eq (bw := true) rfl) (e_callB call_len (cd_len (bw := true) rfl) nb.len PySem.boot_len (a_cons (e_ix (e_varS 0) e_int) a_nil)) e_int)))))) (s_one (s_ret e_bl)) s_nil) (s_cons (fl1 := [.s, .s]) (s_if (PW.pt (t_or2 (t_not (t_val (e_call c_law_is_int hr (takes_of rfl rfl rfl rfl) (a_cons (e_ix (e_varS 0) e_int) a_nil)))) (t_or1 (t_not (t_val (e_call c_law_is_int hr (takes_of rfl rfl rfl rfl) (a_cons (e_ix (e_varS 0) e_int) a_nil))))))) (s_one (s_ret e_bl)) s_nil) (s_one (s_ret (e_cmp (or_eq hr) (od_eq (bw := true) rfl) (e_callB call_len (cd_len (bw := true) rfl) nb.len PySem.boot_len (a_cons (e_frz (e_lc [("place", 1)] sc_law_is_kind.nd (i_seq (e_ix (e_varS 0) e_int) gSq_ok) (by show blkC ["kind", "place"] (defScope st_law_is_kind) _ _ = true; decide +kernel) (fun _ _ _ _ _ => by exact (g_name 1 sc_law_is_kind.nd)) (fun _ _ _ _ _ => by exact (ts_one (t_not (t_val (e_call c_law_is_int hr takes0 (a_cons (e_varS 1) a_nil)))))) (fun _ _ _ _ _ => by exact (e_varS 1)))) a_nil)) e_int)))))
theorem sc_law_ends_of : FnScope ["text", "word", "size", "s"] ["text", "word"] (defScope st_law_ends_of) := ⟨rfl, rfl, rfl, by decide +kernel, rfl, by decide +kernel, by decide +kernel⟩
theorem ok_law_ends_of {f : Addr} {fd : FuncData} (F : Fun K "_law_ends_of" "_law_ends_of" st_law_ends_of f fd) (nb : Nb mg) :
    FnOk P w K mg base (L2.CX P w) 1 f fd ["text", "word"] (spD ⟨K, ca, T⟩ .s 2 m_law_ends_of) := by
  refine fnD F sc_law_ends_of rfl (fl := [.s, .s, .s, .s]) (fl' := [.s, .s, .s, .s]) (rest := [.s, .s]) false rfl rfl (fun h => nomatch h) fun cdv A outer s H E hr => ?_
  exact (s_cons (fl1 := [.s, .s, .s, .s]) (s_set 2 sc_law_ends_of.nd (e_callB call_len (cd_len (bw := true) rfl) nb.len PySem.boot_len (a_cons (e_varS 1) a_nil))) (s_one (s_ret (e_callT call_tuple_of (cd_tup rfl) nb.tuple boot_tuple (a_cons (e_frz (e_lc [("s", 3)] sc_law_ends_of.nd (i_range1 nb.range (a_cons (e_op2 or_add od_add (e_op2 op_sub (od_sub (bw := true)) (e_callB call_len (cd_len (bw := true) rfl) nb.len PySem.boot_len (a_cons (e_varS 0) a_nil)) (e_varS 2)) e_int) a_nil)) (by show blkC ["text", "word", "size", "s"] (defScope st_law_ends_of) _ _ = true; decide +kernel) (fun _ _ _ _ _ => by exact (g_name 3 sc_law_ends_of.nd)) (fun _ _ _ _ _ => by exact (ts_one (t_cmp (or_eq hr) (od_eq (bw := true) rfl) (e_sl (e_varS 0) (o_some (e_varS 3)) (o_some (e_op2 or_add od_add (e_varS 3) (e_varS 2)))) (e_varS 1)))) (fun _ _ _ _ _ => by exact (e_op2 op_sub (od_sub (bw := true)) (e_op2 or_add od_add (e_varS 3) (e_varS 2)) e_int)))) a_nil)))))
theorem sc_law_is_whole : FnScope ["text", "kind", "stop", "longer", "shorter", "before", "place"] ["text", "kind"] (defScope st_law_is_whole) := ⟨rfl, rfl, rfl, by decide +kernel, rfl, by decide +kernel, by decide +kernel⟩
theorem ok_law_is_whole {f : Addr} {fd : FuncData} (F : Fun K "_law_is_whole" "_law_is_whole" st_law_is_whole f fd) (nb : Nb mg) (c_law_ends_of : Cal P w K mg base ⟨K, ca, T⟩ "_law_ends_of" 1 .s 2 m_law_ends_of) :
    FnOk P w K mg base (L2.CX P w) 2 f fd ["text", "kind"] (spD ⟨K, ca, T⟩ .s 2 m_law_is_whole) := by
  refine fnD F sc_law_is_whole rfl (fl := [.s, .s, .s, .s, .s, .s, .s]) (fl' := [.s, .s, .s, .s, .s, .s, .s]) (rest := [.s, .s, .s, .s, .s]) false rfl rfl (fun h => nomatch h) fun cdv A outer s H E hr => ?_
  exact (s_cons (fl1 := [.s, .s, .s, .s, .s, .s, .s]) (s_set 2 sc_law_is_whole.nd (e_op2 or_add od_add (e_ix (e_ix (e_varS 1) e_int) e_int) e_int)) (s_cons (fl1 := [.s, .s, .s, .s, .s, .s, .s]) (s_if (t_not (PW.pt (t_and2 (t_cmp or_le (od_cmp (bw := true)) e_int (e_ix (e_varS 1) e_int)) (t_and2 (t_cmp or_le (od_cmp (bw := true)) (e_ix (e_varS 1) e_int) (e_ix (e_varS 1) e_int)) (t_and2 (t_cmp or_le (od_cmp (bw := true)) (e_ix (e_varS 1) e_int) (e_varS 2)) (t_and1 (t_cmp or_le (od_cmp (bw := true)) (e_varS 2) (e_callB call_len (cd_len (bw := true) rfl) nb.len PySem.boot_len (a_cons (e_varS 0) a_nil))))))))) (s_one (s_ret e_bl)) s_nil) (s_cons (fl1 := [.s, .s, .s, .s, .s, .s, .s]) (s_set 3 sc_law_is_whole.nd (e_sl (e_varS 0) (o_some (e_op2 op_sub (od_sub (bw := true)) (e_varS 2) (e_ix (e_varS 1) e_int))) (o_some (e_varS 2)))) (s_cons (fl1 := [.s, .s, .s, .s, .s, .s, .s]) (s_set 4 sc_law_is_whole.nd (e_sl (e_varS 0) (o_some (e_op2 op_sub (od_sub (bw := true)) (e_varS 2) (e_ix (e_varS 1) e_int))) (o_some (e_varS 2)))) (s_cons (fl1 := [.s, .s, .s, .s, .s, .s, .s]) (s_if (PW.pt (t_or2 (t_cmp (or_ne hr) (od_ne (bw := true) rfl) (e_toB (e_call c_law_ends_of hr (takes_of rfl rfl rfl rfl) (a_cons (e_varS 0) (a_cons (e_varS 3) a_nil)))) (e_ix (e_varS 1) e_int)) (t_or1 (t_cmp (or_ne hr) (od_ne (bw := true) rfl) (e_toB (e_call c_law_ends_of hr (takes_of rfl rfl rfl rfl) (a_cons (e_varS 0) (a_cons (e_varS 4) a_nil)))) (e_ix (e_varS 1) e_int))))) (s_one (s_ret e_bl)) s_nil) (s_cons (fl1 := [.s, .s, .s, .s, .s, .s, .s]) (s_setLcS 5 [("place", 6)] sc_law_is_whole.nd (i_seq (e_ix (e_varS 1) e_int) gSq_ok) (by show blkC ["text", "kind", "stop", "longer", "shorter", "before", "place"] (defScope st_law_is_whole) _ _ = true; decide +kernel) (fun _ _ _ _ _ => by exact (g_name 6 sc_law_is_whole.nd)) (fun _ _ _ _ _ => by exact (ts_one (t_cmp or_ge (od_cmp (bw := true)) (e_varS 6) (e_ix (e_varS 1) e_int)))) (fun _ _ _ _ _ => by exact (e_ix (e_varS 0) (e_op2 op_sub (od_sub (bw := true)) (e_varS 6) (e_ix (e_varS 1) e_int)))) (sw_true rfl rfl rfl (by decide +kernel))) (s_cons (fl1 := [.s, .s, .s, .s, .s, .s, .s]) (s_if (PW.pt (t_and2 (t_cmp (or_eq hr) (od_eq (bw := true) rfl) (e_callB call_len (cd_len (bw := true) rfl) nb.len PySem.boot_len (a_cons (e_varS 5) a_nil)) (e_callB call_len (cd_len (bw := true) rfl) nb.len PySem.boot_len (a_cons (e_ix (e_varS 1) e_int) a_nil))) (t_and1 (t_cmp (or_eq hr) (od_eq (bw := true) rfl) (e_lenSet (bw := true) rfl nb.len nb.set (a_cons (e_varS 5) a_nil)) e_int)))) (s_one (s_ret e_bl)) s_nil) (s_one (s_ret (e_or (e_cmp (or_eq hr) (od_eq (bw := true) rfl) (e_ix (e_varS 1) e_int) e_int) (e_one (e_cmp or_gt (od_cmp (bw := true)) (e_callB call_len (cd_len (bw := true) rfl) nb.len PySem.boot_len (a_cons (e_toB (e_call c_law_ends_of hr (takes_of rfl rfl rfl rfl) (a_cons (e_varS 0) (a_cons (e_sl (e_varS 4) (o_some e_int) o_none) a_nil)))) a_nil)) (e_callB call_len (cd_len (bw := true) rfl) nb.len PySem.boot_len (a_cons (e_ix (e_varS 1) e_int) a_nil))))))))))))))
theorem sc_law_nested : FnScope ["one", "two", "common", "place"] ["one", "two"] (defScope st_law_nested) := ⟨rfl, rfl, rfl, by decide +kernel, rfl, by decide +kernel, by decide +kernel⟩
theorem ok_law_nested {f : Addr} {fd : FuncData} (F : Fun K "_law_nested" "_law_nested" st_law_nested f fd) (nb : Nb mg) :
    FnOk P w K mg base (L2.CX P w) 1 f fd ["one", "two"] (spD ⟨K, ca, T⟩ .s 2 m_law_nested) := by
  refine fnD F sc_law_nested rfl (fl := [.s, .s, .s, .s]) (fl' := [.s, .s, .s, .s]) (rest := [.s, .s]) false rfl rfl (fun h => nomatch h) fun cdv A outer s H E hr => ?_
  exact (s_cons (fl1 := [.s, .s, .s, .s]) (s_setLcS 2 [("place", 3)] sc_law_nested.nd (i_seq (e_ix (e_varS 0) e_int) gSq_ok) (by show blkC ["one", "two", "common", "place"] (defScope st_law_nested) _ _ = true; decide +kernel) (fun _ _ _ _ _ => by exact (g_name 3 sc_law_nested.nd)) (fun _ _ _ _ _ => by exact (ts_one (t_cmp (or_in rfl) (od_in (bw := true)) (e_varS 3) (e_ix (e_varS 1) e_int)))) (fun _ _ _ _ _ => by exact (e_varS 3)) (sw_true rfl rfl rfl (by decide +kernel))) (s_cons (fl1 := [.s, .s, .s, .s]) (s_if (t_cmp (or_eq hr) (od_eq (bw := true) rfl) (e_callB call_len (cd_len (bw := true) rfl) nb.len PySem.boot_len (a_cons (e_varS 2) a_nil)) e_int) (s_one (s_ret e_bl)) s_nil) (s_cons (fl1 := [.s, .s, .s, .s]) (s_if (t_cmp or_lt (od_cmp (bw := true)) (e_callB call_len (cd_len (bw := true) rfl) nb.len PySem.boot_len (a_cons (e_ix (e_varS 0) e_int) a_nil)) (e_callB call_len (cd_len (bw := true) rfl) nb.len PySem.boot_len (a_cons (e_ix (e_varS 1) e_int) a_nil))) (s_one (s_ret (e_and (e_cmp (or_eq hr) (od_eq (bw := true) rfl) (e_callB call_len (cd_len (bw := true) rfl) nb.len PySem.boot_len (a_cons (e_varS 2) a_nil)) (e_callB call_len (cd_len (bw := true) rfl) nb.len PySem.boot_len (a_cons (e_ix (e_varS 0) e_int) a_nil))) (e_one (e_cmp or_gt (od_cmp (bw := true)) (e_ix (e_varS 0) e_int) (e_ix (e_varS 1) e_int)))))) s_nil) (s_one (s_ret (e_and (e_cmp (or_eq hr) (od_eq (bw := true) rfl) (e_callB call_len (cd_len (bw := true) rfl) nb.len PySem.boot_len (a_cons (e_varS 2) a_nil)) (e_callB call_len (cd_len (bw := true) rfl) nb.len PySem.boot_len (a_cons (e_ix (e_varS 1) e_int) a_nil))) (e_and (e_cmp or_lt (od_cmp (bw := true)) (e_callB call_len (cd_len (bw := true) rfl) nb.len PySem.boot_len (a_cons (e_ix (e_varS 1) e_int) a_nil)) (e_callB call_len (cd_len (bw := true) rfl) nb.len PySem.boot_len (a_cons (e_ix (e_varS 0) e_int) a_nil))) (e_one (e_cmp or_gt (od_cmp (bw := true)) (e_ix (e_varS 1) e_int) (e_ix (e_varS 0) e_int))))))))))
theorem sc_law_nest : FnScope ["text", "got", "k", "place", "j", "kind"] ["text", "got"] (defScope st_law_nest) := ⟨rfl, rfl, rfl, by decide +kernel, rfl, by decide +kernel, by decide +kernel⟩
theorem ok_law_nest {f : Addr} {fd : FuncData} (F : Fun K "_law_nest" "_law_nest" st_law_nest f fd) (nb : Nb mg) (c_law_shared_out : Cal P w K mg base ⟨K, ca, T⟩ "_law_shared_out" 1 .s 2 m_law_shared_out) (c_law_counts : Cal P w K mg base ⟨K, ca, T⟩ "_law_counts" 1 (.l .s) 1 m_law_counts) (c_law_is_kind : Cal P w K mg base ⟨K, ca, T⟩ "_law_is_kind" 2 .s 1 m_law_is_kind) (c_law_is_whole : Cal P w K mg base ⟨K, ca, T⟩ "_law_is_whole" 2 .s 2 m_law_is_whole) (c_law_nested : Cal P w K mg base ⟨K, ca, T⟩ "_law_nested" 1 .s 2 m_law_nested) :
    FnOk P w K mg base (L2.CX P w) 3 f fd ["text", "got"] (spD ⟨K, ca, T⟩ .s 2 m_law_nest) := by
  refine fnD F sc_law_nest rfl (fl := [.s, .s, .s, .s, .s, .s]) (fl' := [.s, .s, .s, .s, .s, .s]) (rest := [.s, .s, .s, .s]) false rfl rfl (fun h => nomatch h) fun cdv A outer s H E hr => ?_
  exact (s_cons (fl1 := [.s, .s, .s, .s, .s, .s]) (s_if (PW.pt (t_or2 (t_not (t_val (e_isi kit_list nb.isinstance nb.list boot_list (e_varS 1)))) (t_or1 (t_cmp or_gt (od_cmp (bw := true)) (e_callB call_len (cd_len (bw := true) rfl) nb.len PySem.boot_len (a_cons (e_varS 1) a_nil)) (e_callB (call_max2 rfl) (cd_max (bw := true)) nb.max boot_max' (a_cons e_int (a_cons (e_op2 op_sub (od_sub (bw := true)) (e_op2 or_mul od_mul e_int (e_callB call_len (cd_len (bw := true) rfl) nb.len PySem.boot_len (a_cons (e_varS 0) a_nil))) e_int) a_nil))))))) (s_one (s_ret e_bl)) s_nil) (s_cons (fl1 := [.s, .s, .s, .s, .s, .s]) (s_for (passes_of rfl) (i_range1 nb.range (a_cons (e_callB call_len (cd_len (bw := true) rfl) nb.len PySem.boot_len (a_cons (e_varS 1) a_nil)) a_nil)) (g_name 2 sc_law_nest.nd) (s_cons (fl1 := [.s, .s, .s, .s, .s, .s]) (s_if (PW.pt (t_or2 (t_not (t_val (e_call c_law_is_kind hr (takes_of rfl rfl rfl rfl) (a_cons (e_ix (e_varS 1) (e_varS 2)) a_nil)))) (t_or1 (t_not (t_val (e_call c_law_is_whole hr (takes_of rfl rfl rfl rfl) (a_cons (e_varS 0) (a_cons (e_ix (e_varS 1) (e_varS 2)) a_nil)))))))) (s_one (s_ret e_bl)) s_nil) (s_one (s_for (passes_of rfl) (i_range1 nb.range (a_cons (e_varS 2) a_nil)) (g_name 4 sc_law_nest.nd) (s_one (s_if (t_not (t_val (e_call c_law_nested hr (takes_of rfl rfl rfl rfl) (a_cons (e_ix (e_varS 1) (e_varS 4)) (a_cons (e_ix (e_varS 1) (e_varS 2)) a_nil))))) (s_one (s_ret e_bl)) s_nil)))))) (s_cons (fl1 := [.s, .s, .s, .s, .s, .s]) (s_for (passes_of rfl) (i_range1 nb.range (a_cons (e_callB call_len (cd_len (bw := true) rfl) nb.len PySem.boot_len (a_cons (e_varS 0) a_nil)) a_nil)) (g_name 3 sc_law_nest.nd) (s_one (s_if (t_not (t_val (e_call c_law_shared_out hr (takes_of rfl rfl rfl rfl) (a_cons (e_varS 1) (a_cons (e_varS 3) a_nil))))) (s_one (s_ret e_bl)) s_nil))) (s_one (s_ret (e_cmp (or_eq hr) (od_eq (bw := true) rfl) (e_callB (cr_sum rfl) (cd_sum (bw := true) rfl) nb.sum boot_sum' (a_cons (e_frz (e_lc [("kind", 5)] sc_law_nest.nd (i_seq (e_varS 1) gSq_ok) (by show blkC ["text", "got", "k", "place", "j", "kind"] (defScope st_law_nest) _ _ = true; decide +kernel) (fun _ _ _ _ _ => by exact (g_name 5 sc_law_nest.nd)) (fun _ _ _ _ _ => by exact ts_nil) (fun _ _ _ _ _ => by exact (e_op2 or_add od_add (e_op2 op_sub (od_sub (bw := true)) (e_ix (e_varS 5) e_int) (e_ix (e_varS 5) e_int)) e_int)))) a_nil)) (e_callB (cr_sum rfl) (cd_sum (bw := true) rfl) nb.sum boot_sum' (a_cons (e_frz (e_call c_law_counts hr (takes_of rfl rfl rfl rfl) (a_cons (e_varS 0) a_nil))) a_nil))))))))
theorem sc_law_same : FnScope ["got", "due", "k"] ["got", "due"] (defScope st_law_same) := ⟨rfl, rfl, rfl, by decide +kernel, rfl, by decide +kernel, by decide +kernel⟩
theorem ok_law_same {f : Addr} {fd : FuncData} (F : Fun K "_law_same" "_law_same" st_law_same f fd) (b : Binds K fd ["got", "due"] []) (hm : mg "_law_same" = some (.ref f)) (nb : Nb mg) (c_law_is_int : Cal P w K mg base ⟨K, ca, T⟩ "_law_is_int" 1 .s 1 m_law_is_int) : ∀ n : Nat,
    FnOk P w K mg base (L2.CX P w) (n + 2) f fd ["got", "due"] (spD ⟨K, ca, T⟩ .s 2 (m_law_same n))
  | 0 => fn_stuck F sc_law_same rfl
  | n + 1 => by
    have crec : Cal P w K mg base ⟨K, ca, T⟩ "_law_same" (n + 2) .s 2 (m_law_same n) := cal_of (ok_law_same F b hm nb c_law_is_int n) F b hm
    refine fnD (k := n + 2) F sc_law_same rfl (b := b_law_same (m_law_same n)) (fl := [.s, .s, .s]) (fl' := [.s, .s, .s]) (rest := [.s]) false rfl rfl (fun h => nomatch h) fun cdv A outer s H E hr => ?_
    exact (s_cons (fl1 := [.s, .s, .s]) (s_if (t_cmp op_isN (od_isN (bw := true)) (e_varS 1) e_non) (s_one (s_ret (e_cmp op_isN (od_isN (bw := true)) (e_varS 0) e_non))) s_nil) (s_cons (fl1 := [.s, .s, .s]) (s_if (t_val (e_isi kit_bool nb.isinstance nb.bool boot_bool (e_varS 1))) (s_one (s_ret (e_and (e_isi kit_bool nb.isinstance nb.bool boot_bool (e_varS 0)) (e_one (e_cmp (or_eq hr) (od_eq (bw := true) rfl) (e_varS 0) (e_varS 1)))))) s_nil) (s_cons (fl1 := [.s, .s, .s]) (s_if (t_val (e_isi kit_int nb.isinstance nb.int boot_int (e_varS 1))) (s_one (s_ret (e_and (e_call c_law_is_int hr (takes_of rfl rfl rfl rfl) (a_cons (e_varS 0) a_nil)) (e_one (e_cmp (or_eq hr) (od_eq (bw := true) rfl) (e_varS 0) (e_varS 1)))))) s_nil) (s_cons (fl1 := [.s, .s, .s]) (s_if (t_val (e_isi kit_str nb.isinstance nb.str boot_str (e_varS 1))) (s_one (s_ret (e_and (e_isi kit_str nb.isinstance nb.str boot_str (e_varS 0)) (e_one (e_cmp (or_eq hr) (od_eq (bw := true) rfl) (e_varS 0) (e_varS 1)))))) s_nil) (s_cons (fl1 := [.s, .s, .s]) (s_if (PW.pt (t_and2 (t_val (e_isi kit_list nb.isinstance nb.list boot_list (e_varS 1))) (t_and1 (t_not (t_val (e_isi kit_list nb.isinstance nb.list boot_list (e_varS 0))))))) (s_one (s_ret e_bl)) s_nil) (s_cons (fl1 := [.s, .s, .s]) (s_if (PW.pt (t_and2 (t_val (e_isi kit_tuple nb.isinstance nb.tuple boot_tuple (e_varS 1))) (t_and1 (t_not (t_val (e_isi kit_tuple nb.isinstance nb.tuple boot_tuple (e_varS 0))))))) (s_one (s_ret e_bl)) s_nil) (s_cons (fl1 := [.s, .s, .s]) (s_if (t_cmp (or_ne hr) (od_ne (bw := true) rfl) (e_callB call_len (cd_len (bw := true) rfl) nb.len PySem.boot_len (a_cons (e_varS 0) a_nil)) (e_callB call_len (cd_len (bw := true) rfl) nb.len PySem.boot_len (a_cons (e_varS 1) a_nil))) (s_one (s_ret e_bl)) s_nil) (s_cons (fl1 := [.s, .s, .s]) (s_for (passes_of rfl) (i_range1 nb.range (a_cons (e_callB call_len (cd_len (bw := true) rfl) nb.len PySem.boot_len (a_cons (e_varS 1) a_nil)) a_nil)) (g_name 2 sc_law_same.nd) (s_one (s_if (t_not (t_val (e_call crec hr (takes_of rfl rfl rfl rfl) (a_cons (e_ix (e_varS 0) (e_varS 2)) (a_cons (e_ix (e_varS 1) (e_varS 2)) a_nil))))) (s_one (s_ret e_bl)) s_nil))) (s_one (s_ret e_bl))))))))))
theorem sc_law : FnScope ["script", "most", "text", "other", "got", "kept"] ["script"] (defScope st_law) := ⟨rfl, rfl, rfl, by decide +kernel, rfl, by decide +kernel, by decide +kernel⟩
theorem ok_law {f : Addr} {fd : FuncData} (F : Fun K "law" "law" st_law f fd) (nb : Nb mg) (c_law_draws : Cal P w K mg base ⟨K, ca, T⟩ "_law_draws" 1 .s 2 m_law_draws) (c_law_text : Cal P w K mg base ⟨K, ca, T⟩ "_law_text" 2 .s 2 m_law_text) (c_kinds : Cal P w K mg base ⟨K, ca, T⟩ "kinds" 4 (.l .s) 1 m_kinds) (c_law_cell : Cal P w K mg base ⟨K, ca, T⟩ "_law_cell" 1 .s 2 m_law_cell) (c_law_nest : Cal P w K mg base ⟨K, ca, T⟩ "_law_nest" 3 .s 2 m_law_nest) (c_law_same : Cal P w K mg base ⟨K, ca, T⟩ "_law_same" 10 .s 2 (m_law_same 8)) :
    FnOk P w K mg base (L2.CX P w) 11 f fd ["script"] (spD ⟨K, ca, T⟩ .s 1 m_law) := by
  refine fnD F sc_law rfl (fl := [.s, .s, .s, .s, .l .s, .s]) (fl' := [.s, .s, .s, .s, .l .s, .s]) (rest := [.s, .s, .s, (.l .s), .s]) false rfl rfl (fun h => nomatch h) fun cdv A outer s H E hr => ?_
  exact (s_cons (fl1 := [.s, .s, .s, .s, .l .s, .s]) (s_set 1 sc_law.nd e_int) (s_cons (fl1 := [.s, .s, .s, .s, .l .s, .s]) (s_if (t_cmp (or_eq hr) (od_eq (bw := true) rfl) (e_ix (e_toB (e_call c_law_draws hr (takes_of rfl rfl rfl rfl) (a_cons (e_call c_law_cell hr (takes_of rfl rfl rfl rfl) (a_cons (e_varS 0) (a_cons e_int a_nil))) (a_cons (e_frz (e_lst (a_cons e_int a_nil))) a_nil)))) e_int) e_int) (s_one (s_set 1 sc_law.nd e_int)) s_nil) (s_cons (fl1 := [.s, .s, .s, .s, .l .s, .s]) (s_set 2 sc_law.nd (e_call c_law_text hr (takes_of rfl rfl rfl rfl) (a_cons (e_call c_law_cell hr (takes_of rfl rfl rfl rfl) (a_cons (e_varS 0) (a_cons e_int a_nil))) (a_cons (e_varS 1) a_nil)))) (s_cons (fl1 := [.s, .s, .s, .s, .l .s, .s]) (s_set 3 sc_law.nd (e_call c_law_text hr (takes_of rfl rfl rfl rfl) (a_cons (e_call c_law_cell hr (takes_of rfl rfl rfl rfl) (a_cons (e_varS 0) (a_cons e_int a_nil))) (a_cons e_int a_nil)))) (s_cons (fl1 := [.s, .s, .s, .s, .l .s, .s]) (s_set 4 sc_law.nd (e_call c_kinds hr (takes_of rfl rfl rfl rfl) (a_cons (e_varS 2) a_nil))) (s_cons (fl1 := [.s, .s, .s, .s, .l .s, .s]) (s_if (t_not (t_val (e_callL c_law_nest hr (takes_of rfl rfl rfl rfl) (al_cons (l_s (e_varS 2)) (al_cons (l_own 4) al_nil))))) (s_one (s_ret e_bl)) s_nil) (s_cons (fl1 := [.s, .s, .s, .s, .l .s, .s]) (s_set 5 sc_law.nd (e_frz (e_brw (fl' := [.s, .s, .s, .s, .s, .s]) (e_callT call_list_of (cd_list rfl) nb.list boot_list (a_cons (e_varS 4) a_nil))))) (s_cons (fl1 := [.s, .s, .s, .s, .l .s, .s]) (s_append 4 (e_ix (e_varS 5) e_int)) (s_one (s_ret (e_and (e_call c_law_nest hr (takes_of rfl rfl rfl rfl) (a_cons (e_varS 3) (a_cons (e_frz (e_call c_kinds hr (takes_of rfl rfl rfl rfl) (a_cons (e_varS 3) a_nil))) a_nil))) (e_one (e_call c_law_same hr (takes_of rfl rfl rfl rfl) (a_cons (e_frz (e_call c_kinds hr (takes_of rfl rfl rfl rfl) (a_cons (e_varS 2) a_nil))) (a_cons (e_varS 5) a_nil)))))))))))))))
end
theorem at_law {l : PySem.W.OpenLaw} {w : World} {K : PySem.W.Frag} {h : Heap} {mg : Str → Option Value} {fa f0 f1 f2 f3 f4 f5 f6 f7 f8 f9 f10 f11 f12 f13 f14 f15 f16 f17 f18 f19 x0 : Addr} {od0 an0 od1 an1 od2 an2 od3 an3 od4 an4 od5 an5 od6 an6 od7 an7 od8 an8 od9 an9 od10 an10 od11 an11 od12 an12 od13 an13 od14 an14 od15 an15 od16 an16 od17 an17 od18 an18 od19 an19 : Option Addr} {sl0 sl1 sl2 sl3 sl4 sl5 sl6 sl7 sl8 sl9 sl10 sl11 sl12 sl13 sl14 sl15 sl16 sl17 sl18 sl19 : Array (Option Value)} {oc0 kV0 dc0 pm0 ct0 cd0 oc1 kV1 dc1 pm1 ct1 cd1 oc2 kV2 dc2 pm2 ct2 cd2 oc3 kV3 dc3 pm3 ct3 cd3 oc4 kV4 dc4 pm4 ct4 oc5 kV5 dc5 pm5 ct5 cd5 oc6 kV6 dc6 pm6 ct6 cd6 oc7 kV7 dc7 pm7 ct7 cd7 oc8 kV8 dc8 pm8 ct8 oc9 kV9 dc9 pm9 ct9 cd9 oc10 kV10 dc10 pm10 ct10 cd10 oc11 kV11 dc11 pm11 ct11 cd11 oc12 kV12 dc12 pm12 ct12 cd12 oc13 kV13 dc13 pm13 ct13 cd13 oc14 kV14 dc14 pm14 ct14 cd14 oc15 kV15 dc15 pm15 ct15 cd15 oc16 kV16 dc16 pm16 ct16 cd16 oc17 kV17 dc17 pm17 ct17 cd17 oc18 kV18 dc18 pm18 ct18 cd18 oc19 kV19 dc19 pm19 ct19 cd19 : Value} {c4 t4 : Addr} {ge4 : Value} {gd4 : Option Addr} {gv4 : Array Value} {gs4 : Array (Option Value)} {c8 t8 : Addr} {ge8 : Value} {gd8 : Option Addr} {gv8 : Array Value} {gs8 : Array (Option Value)} {tcLETTERS : Tok} {ycLETTERS : Str} {tcMOST : Tok} (X : K.In h) (G : h.Ns mainGlobals mg) (hfa : mg "law" = some (.ref fa)) (own4 : ∀ f, mg "is_text" = some (.ref f) → LamX.OwnTab K f h) (own8 : ∀ f, mg "kinds" = some (.ref f) → LamX.OwnTab K f h)
    (xa0 : PySem.W.nsIn K mainGlobals "BadText" = some (some (.ref x0)))
    (a0 : PySem.W.nsIn K mainGlobals "_law_draws" = some (some (.ref f0)))
    (l0 : K.lookup f0 = some ⟨oc0, od0, .func (PySem.W.fnOf "_law_draws" "_law_draws" (defArgs st_law_draws) (defBody st_law_draws) (defScope st_law_draws) .none kV0 dc0 pm0 an0 cd0 ct0), sl0⟩)
    (d0 : PySem.W.codeIn K cd0 "_law_draws" = true)
    (k0 : PySem.W.keepIn K (.ref f0) = true)
    (a1 : PySem.W.nsIn K mainGlobals "_law_size" = some (some (.ref f1)))
    (l1 : K.lookup f1 = some ⟨oc1, od1, .func (PySem.W.fnOf "_law_size" "_law_size" (defArgs st_law_size) (defBody st_law_size) (defScope st_law_size) .none kV1 dc1 pm1 an1 cd1 ct1), sl1⟩)
    (d1 : PySem.W.codeIn K cd1 "_law_size" = true)
    (k1 : PySem.W.keepIn K (.ref f1) = true)
    (a2 : PySem.W.nsIn K mainGlobals "_law_letter" = some (some (.ref f2)))
    (l2 : K.lookup f2 = some ⟨oc2, od2, .func (PySem.W.fnOf "_law_letter" "_law_letter" (defArgs st_law_letter) (defBody st_law_letter) (defScope st_law_letter) .none kV2 dc2 pm2 an2 cd2 ct2), sl2⟩)
    (d2 : PySem.W.codeIn K cd2 "_law_letter" = true)
    (k2 : PySem.W.keepIn K (.ref f2) = true)
    (a3 : PySem.W.nsIn K mainGlobals "_law_text" = some (some (.ref f3)))
    (l3 : K.lookup f3 = some ⟨oc3, od3, .func (PySem.W.fnOf "_law_text" "_law_text" (defArgs st_law_text) (defBody st_law_text) (defScope st_law_text) .none kV3 dc3 pm3 an3 cd3 ct3), sl3⟩)
    (d3 : PySem.W.codeIn K cd3 "_law_text" = true)
    (k3 : PySem.W.keepIn K (.ref f3) = true)
    (a4 : PySem.W.nsIn K mainGlobals "is_text" = some (some (.ref f4)))
    (l4 : K.lookup f4 = some ⟨oc4, od4, .func (PySem.W.fnOf "is_text" "is_text" (defArgs st_is_text) (defBody st_is_text) (defScope st_is_text) .none kV4 dc4 pm4 an4 (.ref c4) ct4), sl4⟩)
    (d4 : PySem.W.codeIn K (.ref c4) "is_text" = true)
    (k4 : PySem.W.keepIn K (.ref f4) = true)
    (g4 : K.lookup c4 = some ⟨ge4, gd4, .fields gv4, gs4⟩)
    (h4 : gv4[11]? = some (.ref t4))
    (m4 : K.lookup t4 = none)
    (n4 : PySem.W.codeHdIn K c4 t4 = true)
    (a5 : PySem.W.nsIn K mainGlobals "check_text" = some (some (.ref f5)))
    (l5 : K.lookup f5 = some ⟨oc5, od5, .func (PySem.W.fnOf "check_text" "check_text" (defArgs st_check_text) (defBody st_check_text) (defScope st_check_text) .none kV5 dc5 pm5 an5 cd5 ct5), sl5⟩)
    (d5 : PySem.W.codeIn K cd5 "check_text" = true)
    (k5 : PySem.W.keepIn K (.ref f5) = true)
    (a6 : PySem.W.nsIn K mainGlobals "ends_by_word" = some (some (.ref f6)))
    (l6 : K.lookup f6 = some ⟨oc6, od6, .func (PySem.W.fnOf "ends_by_word" "ends_by_word" (defArgs st_ends_by_word) (defBody st_ends_by_word) (defScope st_ends_by_word) .none kV6 dc6 pm6 an6 cd6 ct6), sl6⟩)
    (d6 : PySem.W.codeIn K cd6 "ends_by_word" = true)
    (k6 : PySem.W.keepIn K (.ref f6) = true)
    (a7 : PySem.W.nsIn K mainGlobals "lengths_by_ends" = some (some (.ref f7)))
    (l7 : K.lookup f7 = some ⟨oc7, od7, .func (PySem.W.fnOf "lengths_by_ends" "lengths_by_ends" (defArgs st_lengths_by_ends) (defBody st_lengths_by_ends) (defScope st_lengths_by_ends) .none kV7 dc7 pm7 an7 cd7 ct7), sl7⟩)
    (d7 : PySem.W.codeIn K cd7 "lengths_by_ends" = true)
    (k7 : PySem.W.keepIn K (.ref f7) = true)
    (a8 : PySem.W.nsIn K mainGlobals "kinds" = some (some (.ref f8)))
    (l8 : K.lookup f8 = some ⟨oc8, od8, .func (PySem.W.fnOf "kinds" "kinds" (defArgs st_kinds) (defBody st_kinds) (defScope st_kinds) .none kV8 dc8 pm8 an8 (.ref c8) ct8), sl8⟩)
    (d8 : PySem.W.codeIn K (.ref c8) "kinds" = true)
    (k8 : PySem.W.keepIn K (.ref f8) = true)
    (g8 : K.lookup c8 = some ⟨ge8, gd8, .fields gv8, gs8⟩)
    (h8 : gv8[11]? = some (.ref t8))
    (m8 : K.lookup t8 = none)
    (n8 : PySem.W.codeHdIn K c8 t8 = true)
    (a9 : PySem.W.nsIn K mainGlobals "_law_cell" = some (some (.ref f9)))
    (l9 : K.lookup f9 = some ⟨oc9, od9, .func (PySem.W.fnOf "_law_cell" "_law_cell" (defArgs st_law_cell) (defBody st_law_cell) (defScope st_law_cell) .none kV9 dc9 pm9 an9 cd9 ct9), sl9⟩)
    (d9 : PySem.W.codeIn K cd9 "_law_cell" = true)
    (k9 : PySem.W.keepIn K (.ref f9) = true)
    (a10 : PySem.W.nsIn K mainGlobals "_law_shared_out" = some (some (.ref f10)))
    (l10 : K.lookup f10 = some ⟨oc10, od10, .func (PySem.W.fnOf "_law_shared_out" "_law_shared_out" (defArgs st_law_shared_out) (defBody st_law_shared_out) (defScope st_law_shared_out) .none kV10 dc10 pm10 an10 cd10 ct10), sl10⟩)
    (d10 : PySem.W.codeIn K cd10 "_law_shared_out" = true)
    (k10 : PySem.W.keepIn K (.ref f10) = true)
    (a11 : PySem.W.nsIn K mainGlobals "_law_counts" = some (some (.ref f11)))
    (l11 : K.lookup f11 = some ⟨oc11, od11, .func (PySem.W.fnOf "_law_counts" "_law_counts" (defArgs st_law_counts) (defBody st_law_counts) (defScope st_law_counts) .none kV11 dc11 pm11 an11 cd11 ct11), sl11⟩)
    (d11 : PySem.W.codeIn K cd11 "_law_counts" = true)
    (k11 : PySem.W.keepIn K (.ref f11) = true)
    (a12 : PySem.W.nsIn K mainGlobals "_law_is_int" = some (some (.ref f12)))
    (l12 : K.lookup f12 = some ⟨oc12, od12, .func (PySem.W.fnOf "_law_is_int" "_law_is_int" (defArgs st_law_is_int) (defBody st_law_is_int) (defScope st_law_is_int) .none kV12 dc12 pm12 an12 cd12 ct12), sl12⟩)
    (d12 : PySem.W.codeIn K cd12 "_law_is_int" = true)
    (k12 : PySem.W.keepIn K (.ref f12) = true)
    (a13 : PySem.W.nsIn K mainGlobals "_law_is_kind" = some (some (.ref f13)))
    (l13 : K.lookup f13 = some ⟨oc13, od13, .func (PySem.W.fnOf "_law_is_kind" "_law_is_kind" (defArgs st_law_is_kind) (defBody st_law_is_kind) (defScope st_law_is_kind) .none kV13 dc13 pm13 an13 cd13 ct13), sl13⟩)
    (d13 : PySem.W.codeIn K cd13 "_law_is_kind" = true)
    (k13 : PySem.W.keepIn K (.ref f13) = true)
    (a14 : PySem.W.nsIn K mainGlobals "_law_ends_of" = some (some (.ref f14)))
    (l14 : K.lookup f14 = some ⟨oc14, od14, .func (PySem.W.fnOf "_law_ends_of" "_law_ends_of" (defArgs st_law_ends_of) (defBody st_law_ends_of) (defScope st_law_ends_of) .none kV14 dc14 pm14 an14 cd14 ct14), sl14⟩)
    (d14 : PySem.W.codeIn K cd14 "_law_ends_of" = true)
    (k14 : PySem.W.keepIn K (.ref f14) = true)
    (a15 : PySem.W.nsIn K mainGlobals "_law_is_whole" = some (some (.ref f15)))
    (l15 : K.lookup f15 = some ⟨oc15, od15, .func (PySem.W.fnOf "_law_is_whole" "_law_is_whole" (defArgs st_law_is_whole) (defBody st_law_is_whole) (defScope st_law_is_whole) .none kV15 dc15 pm15 an15 cd15 ct15), sl15⟩)
    (d15 : PySem.W.codeIn K cd15 "_law_is_whole" = true)
    (k15 : PySem.W.keepIn K (.ref f15) = true)
    (a16 : PySem.W.nsIn K mainGlobals "_law_nested" = some (some (.ref f16)))
    (l16 : K.lookup f16 = some ⟨oc16, od16, .func (PySem.W.fnOf "_law_nested" "_law_nested" (defArgs st_law_nested) (defBody st_law_nested) (defScope st_law_nested) .none kV16 dc16 pm16 an16 cd16 ct16), sl16⟩)
    (d16 : PySem.W.codeIn K cd16 "_law_nested" = true)
    (k16 : PySem.W.keepIn K (.ref f16) = true)
    (a17 : PySem.W.nsIn K mainGlobals "_law_nest" = some (some (.ref f17)))
    (l17 : K.lookup f17 = some ⟨oc17, od17, .func (PySem.W.fnOf "_law_nest" "_law_nest" (defArgs st_law_nest) (defBody st_law_nest) (defScope st_law_nest) .none kV17 dc17 pm17 an17 cd17 ct17), sl17⟩)
    (d17 : PySem.W.codeIn K cd17 "_law_nest" = true)
    (k17 : PySem.W.keepIn K (.ref f17) = true)
    (a18 : PySem.W.nsIn K mainGlobals "_law_same" = some (some (.ref f18)))
    (l18 : K.lookup f18 = some ⟨oc18, od18, .func (PySem.W.fnOf "_law_same" "_law_same" (defArgs st_law_same) (defBody st_law_same) (defScope st_law_same) .none kV18 dc18 pm18 an18 cd18 ct18), sl18⟩)
    (d18 : PySem.W.codeIn K cd18 "_law_same" = true)
    (k18 : PySem.W.keepIn K (.ref f18) = true)
    (a19 : PySem.W.nsIn K mainGlobals "law" = some (some (.ref f19)))
    (l19 : K.lookup f19 = some ⟨oc19, od19, .func (PySem.W.fnOf "law" "law" (defArgs st_law) (defBody st_law) (defScope st_law) .none kV19 dc19 pm19 an19 cd19 ct19), sl19⟩)
    (d19 : PySem.W.codeIn K cd19 "law" = true)
    (k19 : PySem.W.keepIn K (.ref f19) = true)
    (xb0 : PySem.W.excIn K x0 [.type "ValueError", .type "Exception", .type "BaseException", .type "object"] "ValueError.__new__" = true)
    (xk0 : PySem.W.keepIn K (.ref x0) = true)
    (xd0 : PySem.W.subIn K (.ref x0) (.type "BaseException") = some true)
    (xe0 : PySem.W.typeIn K (.ref x0) = some (.type "type"))
    (dj4_8 : t4 ≠ t8)
    (zabs : PySem.W.nsIn K mainGlobals "abs" = some none)
    (zall : PySem.W.nsIn K mainGlobals "all" = some none)
    (zbool : PySem.W.nsIn K mainGlobals "bool" = some none)
    (zcLETTERS : PySem.W.nsIn K mainGlobals "LETTERS" = some (some (.str ycLETTERS tcLETTERS)))
    (ycLETTERS_ : ycLETTERS.cps.toList = zc3fcd3d7)
    (zcMOST : PySem.W.nsIn K mainGlobals "MOST" = some (some (.int 128 tcMOST)))
    (zint : PySem.W.nsIn K mainGlobals "int" = some none)
    (zisinstance : PySem.W.nsIn K mainGlobals "isinstance" = some none)
    (zlen : PySem.W.nsIn K mainGlobals "len" = some none)
    (zlist : PySem.W.nsIn K mainGlobals "list" = some none)
    (zmax : PySem.W.nsIn K mainGlobals "max" = some none)
    (zmin : PySem.W.nsIn K mainGlobals "min" = some none)
    (zrange : PySem.W.nsIn K mainGlobals "range" = some none)
    (zset : PySem.W.nsIn K mainGlobals "set" = some none)
    (zsorted : PySem.W.nsIn K mainGlobals "sorted" = some none)
    (zstr : PySem.W.nsIn K mainGlobals "str" = some none)
    (zsum : PySem.W.nsIn K mainGlobals "sum" = some none)
    (ztuple : PySem.W.nsIn K mainGlobals "tuple" = some none)
    (hlaw : ∀ ns : List Int, ns.length ≤ 63 → (∀ z ∈ ns, Builtin.Int.intBits z ≤ 1048576) → m_law [.scr ns] = .ok (.bl true)) :
    LamX.LawAtS l w K (L2.CX l.prog w) 11 63 "script" mg fa h := by
  have e := hfa.symm.trans (PySem.W.mg_of X G a19)
  cases e
  have nb : Nb mg := ⟨PySem.W.mg_none_of X G zabs, PySem.W.mg_none_of X G zall, PySem.W.mg_none_of X G zbool, ⟨_, _, PySem.W.mg_of X G zcLETTERS, ycLETTERS_⟩, ⟨_, PySem.W.mg_of X G zcMOST⟩, PySem.W.mg_none_of X G zint, PySem.W.mg_none_of X G zisinstance, PySem.W.mg_none_of X G zlen, PySem.W.mg_none_of X G zlist, PySem.W.mg_none_of X G zmax, PySem.W.mg_none_of X G zmin, PySem.W.mg_none_of X G zrange, PySem.W.mg_none_of X G zset, PySem.W.mg_none_of X G zsorted, PySem.W.mg_none_of X G zstr, PySem.W.mg_none_of X G zsum, PySem.W.mg_none_of X G ztuple⟩
  have F0 := fun_mk (st := st_law_draws) l0 d0 k0
  have B0 := F0.binds (ps := ["cell", "sizes"]) fun _ _ _ _ _ _ us hl => match us, hl with | [_, _], _ => rfl
  have F1 := fun_mk (st := st_law_size) l1 d1 k1
  have B1 := F1.binds (ps := ["mode", "number", "most"]) fun _ _ _ _ _ _ us hl => match us, hl with | [_, _, _], _ => rfl
  have F2 := fun_mk (st := st_law_letter) l2 d2 k2
  have B2 := F2.binds (ps := ["number"]) fun _ _ _ _ _ _ us hl => match us, hl with | [_], _ => rfl
  have F3 := fun_mk (st := st_law_text) l3 d3 k3
  have B3 := F3.binds (ps := ["cell", "most"]) fun _ _ _ _ _ _ us hl => match us, hl with | [_, _], _ => rfl
  have B4 : Binds K (PySem.W.fnOf "is_text" "is_text" (defArgs st_is_text) (defBody st_is_text) (defScope st_is_text) .none kV4 dc4 pm4 an4 (.ref c4) ct4) ["text"] [] := (fun_mk (st := st_is_text) l4 d4 k4).binds (ps := ["text"]) fun _ _ _ _ _ _ us hl => match us, hl with | [_], _ => rfl
  have F5 := fun_mk (st := st_check_text) l5 d5 k5
  have B5 := F5.binds (ps := ["text"]) fun _ _ _ _ _ _ us hl => match us, hl with | [_], _ => rfl
  have F6 := fun_mk (st := st_ends_by_word) l6 d6 k6
  have B6 := F6.binds (ps := ["text"]) fun _ _ _ _ _ _ us hl => match us, hl with | [_], _ => rfl
  have F7 := fun_mk (st := st_lengths_by_ends) l7 d7 k7
  have B7 := F7.binds (ps := ["text"]) fun _ _ _ _ _ _ us hl => match us, hl with | [_], _ => rfl
  have B8 : Binds K (PySem.W.fnOf "kinds" "kinds" (defArgs st_kinds) (defBody st_kinds) (defScope st_kinds) .none kV8 dc8 pm8 an8 (.ref c8) ct8) ["text"] [] := (fun_mk (st := st_kinds) l8 d8 k8).binds (ps := ["text"]) fun _ _ _ _ _ _ us hl => match us, hl with | [_], _ => rfl
  have F9 := fun_mk (st := st_law_cell) l9 d9 k9
  have B9 := F9.binds (ps := ["script", "k"]) fun _ _ _ _ _ _ us hl => match us, hl with | [_, _], _ => rfl
  have F10 := fun_mk (st := st_law_shared_out) l10 d10 k10
  have B10 := F10.binds (ps := ["got", "place"]) fun _ _ _ _ _ _ us hl => match us, hl with | [_, _], _ => rfl
  have F11 := fun_mk (st := st_law_counts) l11 d11 k11
  have B11 := F11.binds (ps := ["text"]) fun _ _ _ _ _ _ us hl => match us, hl with | [_], _ => rfl
  have F12 := fun_mk (st := st_law_is_int) l12 d12 k12
  have B12 := F12.binds (ps := ["x"]) fun _ _ _ _ _ _ us hl => match us, hl with | [_], _ => rfl
  have F13 := fun_mk (st := st_law_is_kind) l13 d13 k13
  have B13 := F13.binds (ps := ["kind"]) fun _ _ _ _ _ _ us hl => match us, hl with | [_], _ => rfl
  have F14 := fun_mk (st := st_law_ends_of) l14 d14 k14
  have B14 := F14.binds (ps := ["text", "word"]) fun _ _ _ _ _ _ us hl => match us, hl with | [_, _], _ => rfl
  have F15 := fun_mk (st := st_law_is_whole) l15 d15 k15
  have B15 := F15.binds (ps := ["text", "kind"]) fun _ _ _ _ _ _ us hl => match us, hl with | [_, _], _ => rfl
  have F16 := fun_mk (st := st_law_nested) l16 d16 k16
  have B16 := F16.binds (ps := ["one", "two"]) fun _ _ _ _ _ _ us hl => match us, hl with | [_, _], _ => rfl
  have F17 := fun_mk (st := st_law_nest) l17 d17 k17
  have B17 := F17.binds (ps := ["text", "got"]) fun _ _ _ _ _ _ us hl => match us, hl with | [_, _], _ => rfl
  have F18 := fun_mk (st := st_law_same) l18 d18 k18
  have B18 := F18.binds (ps := ["got", "due"]) fun _ _ _ _ _ _ us hl => match us, hl with | [_, _], _ => rfl
  have F19 := fun_mk (st := st_law) l19 d19 k19
  let ca : Str → Addr := fun n => if n = "BadText" then x0 else 0
  have ca0 : ca "BadText" = x0 := by first | rfl | (show (if _ then _ else _) = _; simp) | decide
  have hTT : ∀ t ∈ ([Tab.g t4, Tab.s t8 (("kinds" : PySem.Str) ++ ".<locals>." ++ "<lambda>")] : List Tab), ∃ p ∈ ([(c4, t4), (c8, t8)] : List (Addr × Addr)), p.2 = t.a := fun t ht => by
    rcases List.mem_cons.mp ht with rfl | ht
    · exact ⟨(c4, t4), .head _, rfl⟩
    rcases List.mem_cons.mp ht with rfl | ht
    · exact ⟨(c8, t8), .tail _ (.head _), rfl⟩
    exact nomatch ht
  refine law_at (fd := PySem.W.fnOf "law" "law" (defArgs st_law) (defBody st_law) (defScope st_law) .none kV19 dc19 pm19 an19 cd19 ct19) [(c4, t4), (c8, t8)] [Tab.g t4, Tab.s t8 (("kinds" : PySem.Str) ++ ".<locals>." ++ "<lambda>")] hTT ca m_law ?T (fun s u => .of_eq rfl) hlaw ?W
  case T =>
    intro p hp
    simp only [List.mem_cons, List.not_mem_nil, or_false] at hp
    rcases hp with rfl | rfl
    · exact ⟨own4 _ (PySem.W.mg_of X G a4) _ _ _ _ _ _ _ _ l4 rfl rfl g4 h4, m4, PySem.W.codeHd_of_K X n4⟩
    · exact ⟨own8 _ (PySem.W.mg_of X G a8) _ _ _ _ _ _ _ _ l8 rfl rfl g8 h8, m8, PySem.W.codeHd_of_K X n8⟩
  case W =>
    intro base kb nbs tb
    have iT4 : InT [Tab.g t4, Tab.s t8 (("kinds" : PySem.Str) ++ ".<locals>." ++ "<lambda>")] (Tab.g t4) := ⟨.head _, fun u hu e => by
      rcases List.mem_cons.mp hu with rfl | hu
      · rfl
      rcases List.mem_cons.mp hu with rfl | hu
      · exact absurd e (Ne.symm dj4_8)
      exact nomatch hu⟩
    have iT8 : InT [Tab.g t4, Tab.s t8 (("kinds" : PySem.Str) ++ ".<locals>." ++ "<lambda>")] (Tab.s t8 (("kinds" : PySem.Str) ++ ".<locals>." ++ "<lambda>")) := ⟨.tail _ (.head _), fun u hu e => by
      rcases List.mem_cons.mp hu with rfl | hu
      · exact absurd e (dj4_8)
      rcases List.mem_cons.mp hu with rfl | hu
      · rfl
      exact nomatch hu⟩
    have xcBadText : Xcl K mg ⟨K, ca, [Tab.g t4, Tab.s t8 (("kinds" : PySem.Str) ++ ".<locals>." ++ "<lambda>")]⟩ "BadText" := xcl_mk ca0 (PySem.W.mg_of X G xa0) xb0 xk0 xd0 xe0
    have c_law_draws : Cal l.prog w K mg base ⟨K, ca, [Tab.g t4, Tab.s t8 (("kinds" : PySem.Str) ++ ".<locals>." ++ "<lambda>")]⟩ "_law_draws" 1 .s 2 m_law_draws := cal_of (ok_law_draws F0 nb) F0 B0 (PySem.W.mg_of X G a0)
    have c_law_size : Cal l.prog w K mg base ⟨K, ca, [Tab.g t4, Tab.s t8 (("kinds" : PySem.Str) ++ ".<locals>." ++ "<lambda>")]⟩ "_law_size" 1 .s 3 m_law_size := cal_of (ok_law_size F1 nb) F1 B1 (PySem.W.mg_of X G a1)
    have c_law_letter : Cal l.prog w K mg base ⟨K, ca, [Tab.g t4, Tab.s t8 (("kinds" : PySem.Str) ++ ".<locals>." ++ "<lambda>")]⟩ "_law_letter" 1 .s 1 m_law_letter := cal_of (ok_law_letter F2 nb) F2 B2 (PySem.W.mg_of X G a2)
    have c_law_text : Cal l.prog w K mg base ⟨K, ca, [Tab.g t4, Tab.s t8 (("kinds" : PySem.Str) ++ ".<locals>." ++ "<lambda>")]⟩ "_law_text" 2 .s 2 m_law_text := cal_of (ok_law_text F3 nb c_law_draws c_law_size c_law_letter) F3 B3 (PySem.W.mg_of X G a3)
    have c_is_text : Cal l.prog w K mg base ⟨K, ca, [Tab.g t4, Tab.s t8 (("kinds" : PySem.Str) ++ ".<locals>." ++ "<lambda>")]⟩ "is_text" 1 .s 1 m_is_text := ⟨f4, _, _, ok_is_text l4 d4 (tb (c4, t4) (by simp)) iT4 nb, PySem.W.mg_of X G a4, k4, B4⟩
    have c_check_text : Cal l.prog w K mg base ⟨K, ca, [Tab.g t4, Tab.s t8 (("kinds" : PySem.Str) ++ ".<locals>." ++ "<lambda>")]⟩ "check_text" 2 .s 1 m_check_text := cal_of (ok_check_text F5 xcBadText c_is_text) F5 B5 (PySem.W.mg_of X G a5)
    have c_ends_by_word : Cal l.prog w K mg base ⟨K, ca, [Tab.g t4, Tab.s t8 (("kinds" : PySem.Str) ++ ".<locals>." ++ "<lambda>")]⟩ "ends_by_word" 1 .ql 1 m_ends_by_word := cal_of (ok_ends_by_word F6 nb) F6 B6 (PySem.W.mg_of X G a6)
    have c_lengths_by_ends : Cal l.prog w K mg base ⟨K, ca, [Tab.g t4, Tab.s t8 (("kinds" : PySem.Str) ++ ".<locals>." ++ "<lambda>")]⟩ "lengths_by_ends" 2 .qt 1 m_lengths_by_ends := cal_of (ok_lengths_by_ends F7 nb c_ends_by_word) F7 B7 (PySem.W.mg_of X G a7)
    have c_kinds : Cal l.prog w K mg base ⟨K, ca, [Tab.g t4, Tab.s t8 (("kinds" : PySem.Str) ++ ".<locals>." ++ "<lambda>")]⟩ "kinds" 4 (.l .s) 1 m_kinds := ⟨f8, _, _, ok_kinds l8 d8 (tb (c8, t8) (by simp)) iT8 nb c_check_text c_lengths_by_ends, PySem.W.mg_of X G a8, k8, B8⟩
    have c_law_cell : Cal l.prog w K mg base ⟨K, ca, [Tab.g t4, Tab.s t8 (("kinds" : PySem.Str) ++ ".<locals>." ++ "<lambda>")]⟩ "_law_cell" 1 .s 2 m_law_cell := cal_of (ok_law_cell F9 nb) F9 B9 (PySem.W.mg_of X G a9)
    have c_law_shared_out : Cal l.prog w K mg base ⟨K, ca, [Tab.g t4, Tab.s t8 (("kinds" : PySem.Str) ++ ".<locals>." ++ "<lambda>")]⟩ "_law_shared_out" 1 .s 2 m_law_shared_out := cal_of (ok_law_shared_out F10 nb) F10 B10 (PySem.W.mg_of X G a10)
    have c_law_counts : Cal l.prog w K mg base ⟨K, ca, [Tab.g t4, Tab.s t8 (("kinds" : PySem.Str) ++ ".<locals>." ++ "<lambda>")]⟩ "_law_counts" 1 (.l .s) 1 m_law_counts := cal_of (ok_law_counts F11 nb) F11 B11 (PySem.W.mg_of X G a11)
    have c_law_is_int : Cal l.prog w K mg base ⟨K, ca, [Tab.g t4, Tab.s t8 (("kinds" : PySem.Str) ++ ".<locals>." ++ "<lambda>")]⟩ "_law_is_int" 1 .s 1 m_law_is_int := cal_of (ok_law_is_int F12 nb) F12 B12 (PySem.W.mg_of X G a12)
    have c_law_is_kind : Cal l.prog w K mg base ⟨K, ca, [Tab.g t4, Tab.s t8 (("kinds" : PySem.Str) ++ ".<locals>." ++ "<lambda>")]⟩ "_law_is_kind" 2 .s 1 m_law_is_kind := cal_of (ok_law_is_kind F13 nb c_law_is_int) F13 B13 (PySem.W.mg_of X G a13)
    have c_law_ends_of : Cal l.prog w K mg base ⟨K, ca, [Tab.g t4, Tab.s t8 (("kinds" : PySem.Str) ++ ".<locals>." ++ "<lambda>")]⟩ "_law_ends_of" 1 .s 2 m_law_ends_of := cal_of (ok_law_ends_of F14 nb) F14 B14 (PySem.W.mg_of X G a14)
    have c_law_is_whole : Cal l.prog w K mg base ⟨K, ca, [Tab.g t4, Tab.s t8 (("kinds" : PySem.Str) ++ ".<locals>." ++ "<lambda>")]⟩ "_law_is_whole" 2 .s 2 m_law_is_whole := cal_of (ok_law_is_whole F15 nb c_law_ends_of) F15 B15 (PySem.W.mg_of X G a15)
    have c_law_nested : Cal l.prog w K mg base ⟨K, ca, [Tab.g t4, Tab.s t8 (("kinds" : PySem.Str) ++ ".<locals>." ++ "<lambda>")]⟩ "_law_nested" 1 .s 2 m_law_nested := cal_of (ok_law_nested F16 nb) F16 B16 (PySem.W.mg_of X G a16)
    have c_law_nest : Cal l.prog w K mg base ⟨K, ca, [Tab.g t4, Tab.s t8 (("kinds" : PySem.Str) ++ ".<locals>." ++ "<lambda>")]⟩ "_law_nest" 3 .s 2 m_law_nest := cal_of (ok_law_nest F17 nb c_law_shared_out c_law_counts c_law_is_kind c_law_is_whole c_law_nested) F17 B17 (PySem.W.mg_of X G a17)
    have c_law_same : Cal l.prog w K mg base ⟨K, ca, [Tab.g t4, Tab.s t8 (("kinds" : PySem.Str) ++ ".<locals>." ++ "<lambda>")]⟩ "_law_same" 10 .s 2 (m_law_same 8) := cal_of (ok_law_same F18 B18 (PySem.W.mg_of X G a18) nb c_law_is_int 8) F18 B18 (PySem.W.mg_of X G a18)
    exact ok_law F19 nb c_law_draws c_law_text c_kinds c_law_cell c_law_nest c_law_same
end K05
set_option linter.all false
/-! # grouping by keys; ends of words (plain) -/
namespace KD
section grp
variable {α β : Type} [DecidableEq α]
noncomputable def addK (ks : List α) (a : α) : List α := if a ∈ ks then ks else ks ++ [a]
noncomputable def ky (L : List α) : List α := L.foldl addK []
theorem ky_snoc {L : List α} {a : α} : ky (L ++ [a]) = addK (ky L) a := by unfold ky; rw [List.foldl_append]; rfl
theorem mem_addK {ks : List α} {a x : α} : x ∈ addK ks a ↔ x ∈ ks ∨ x = a := by
  unfold addK
  split
  · rename_i h
    exact ⟨.inl, fun z => z.elim id fun e => e ▸ h⟩
  · rw [List.mem_append, List.mem_singleton]
theorem nd_addK {ks : List α} {a : α} (h : ks.Nodup) : (addK ks a).Nodup := by
  unfold addK
  split
  · exact h
  · rename_i n
    refine List.nodup_append.mpr ⟨h, by simp, fun x m y m2 z => ?_⟩
    rw [List.mem_singleton.mp m2] at z
    exact n (z ▸ m)
theorem snoc_ind {α : Type} {P : List α → Prop} (h0 : P []) (h : ∀ L a, P L → P (L ++ [a])) (L : List α) : P L := by
  have : ∀ L : List α, P L.reverse := by
    intro L
    induction L with
    | nil => exact h0
    | cons a L ih => rw [List.reverse_cons]; exact h _ _ ih
  have q := this L.reverse
  rwa [List.reverse_reverse] at q
theorem mem_ky {L : List α} {x : α} : x ∈ ky L ↔ x ∈ L := by
  induction L using snoc_ind with
  | h0 => exact Iff.rfl
  | h L a ih => rw [ky_snoc, mem_addK, ih, List.mem_append, List.mem_singleton]
theorem nd_ky {L : List α} : (ky L).Nodup := by
  induction L using snoc_ind with
  | h0 => exact List.nodup_nil
  | h L a ih => rw [ky_snoc]; exact nd_addK ih
theorem ky_len {L : List α} : (ky L).length ≤ L.length := by
  induction L using snoc_ind with
  | h0 => exact Nat.le_refl _
  | h L a ih =>
    rw [ky_snoc, List.length_append]
    unfold addK
    split
    · omega
    · rw [List.length_append]; simp; omega
noncomputable def vl (L : List (α × β)) (a : α) : List β := (L.filter fun p => decide (p.1 = a)).map (·.2)
theorem vl_snoc {L : List (α × β)} {a x : α} {b : β} : vl (L ++ [(a, b)]) x = if a = x then vl L x ++ [b] else vl L x := by
  unfold vl
  rw [List.filter_append, List.map_append]
  by_cases h : a = x
  · rw [if_pos h]; simp [h]
  · rw [if_neg h]; simp [h]
theorem mem_vl {L : List (α × β)} {a : α} {b : β} : b ∈ vl L a ↔ (a, b) ∈ L := by
  unfold vl
  rw [List.mem_map]
  constructor
  · rintro ⟨p, m, rfl⟩
    obtain ⟨m1, m2⟩ := List.mem_filter.mp m
    have : p.1 = a := by simpa using m2
    rw [← this]; exact m1
  · intro m
    exact ⟨(a, b), List.mem_filter.mpr ⟨m, by simp⟩, rfl⟩
theorem vl_nil_of {L : List (α × β)} {a : α} (h : a ∉ L.map (·.1)) : vl L a = [] := by
  cases q : vl L a with
  | nil => rfl
  | cons b r =>
    have : b ∈ vl L a := by rw [q]; exact List.mem_cons_self
    exact absurd (List.mem_map.mpr ⟨_, mem_vl.mp this, rfl⟩) h
theorem vl_len {L : List (α × β)} {a : α} : (vl L a).length ≤ L.length := by
  unfold vl; rw [List.length_map]; exact List.length_filter_le _ _
end grp
/-! ### least and greatest -/
noncomputable def mnL : List Nat → Nat
  | [] => 0
  | [a] => a
  | a :: b :: r => min a (mnL (b :: r))
noncomputable def mxL : List Nat → Nat
  | [] => 0
  | a :: r => max a (mxL r)
theorem mxL_snoc {L : List Nat} {a : Nat} : mxL (L ++ [a]) = max (mxL L) a := by
  induction L with
  | nil => simp [mxL]
  | cons b r ih => rw [List.cons_append]; unfold mxL; rw [ih]; omega
theorem mnL_snoc {L : List Nat} {a : Nat} (h : L ≠ []) : mnL (L ++ [a]) = min (mnL L) a := by
  induction L with
  | nil => exact absurd rfl h
  | cons b r ih =>
    cases r with
    | nil => rfl
    | cons c r =>
      have := ih (by simp)
      show min b (mnL ((c :: r) ++ [a])) = min (min b (mnL (c :: r))) a
      rw [this]; omega
theorem mnL_mem {L : List Nat} (h : L ≠ []) : mnL L ∈ L := by
  induction L with
  | nil => exact absurd rfl h
  | cons b r ih =>
    cases r with
    | nil => exact List.mem_cons_self
    | cons c r =>
      have := ih (by simp)
      show min b (mnL (c :: r)) ∈ _
      by_cases q : b ≤ mnL (c :: r)
      · rw [Nat.min_eq_left q]; exact List.mem_cons_self
      · rw [Nat.min_eq_right (by omega)]; exact List.mem_cons_of_mem _ this
theorem mnL_le {L : List Nat} {x : Nat} (h : x ∈ L) : mnL L ≤ x := by
  induction L with
  | nil => cases h
  | cons b r ih =>
    cases r with
    | nil => rw [List.mem_singleton.mp h]; exact Nat.le_refl _
    | cons c r =>
      show min b (mnL (c :: r)) ≤ x
      rcases List.mem_cons.mp h with e | m
      · rw [e]; omega
      · have := ih m; omega
theorem mxL_ge {L : List Nat} {x : Nat} (h : x ∈ L) : x ≤ mxL L := by
  induction L with
  | nil => cases h
  | cons b r ih =>
    unfold mxL
    rcases List.mem_cons.mp h with e | m
    · rw [e]; omega
    · have := ih m; omega
theorem mxL_mem {L : List Nat} (h : L ≠ []) : mxL L ∈ L := by
  induction L with
  | nil => exact absurd rfl h
  | cons b r ih =>
    cases r with
    | nil => unfold mxL mxL; simp
    | cons c r =>
      have := ih (by simp)
      unfold mxL
      by_cases q : mxL (c :: r) ≤ b
      · rw [Nat.max_eq_left q]; exact List.mem_cons_self
      · rw [Nat.max_eq_right (by omega)]; exact List.mem_cons_of_mem _ this
/-! ### ends -/
noncomputable def wd (t : List Nat) (s k : Nat) : List Nat := (t.drop s).take k
theorem wd_len {t : List Nat} {s k : Nat} (h : s + k ≤ t.length) : (wd t s k).length = k := by
  unfold wd; rw [List.length_take, List.length_drop]; omega
theorem wd_wd {t : List Nat} {s k a b : Nat} (h : a + b ≤ k) : wd (wd t s k) a b = wd t (s + a) b := by
  unfold wd
  rw [List.drop_take, List.take_take, List.drop_drop]
  congr 1
  omega
/-- the words that occur -/
noncomputable def Occ (t w : List Nat) : Prop := ∃ s k, 1 ≤ k ∧ s + k ≤ t.length ∧ w = wd t s k
noncomputable def endB (t w : List Nat) (p : Nat) : Bool := decide (w.length ≤ p + 1) && (wd t (p + 1 - w.length) w.length == w)
noncomputable def en (t w : List Nat) : List Nat := (List.range t.length).filter (endB t w)
theorem endB_iff {t w : List Nat} {p : Nat} : endB t w p = true ↔ w.length ≤ p + 1 ∧ wd t (p + 1 - w.length) w.length = w := by
  unfold endB; rw [Bool.and_eq_true, decide_eq_true_iff, beq_iff_eq]
theorem mem_en {t w : List Nat} {p : Nat} : p ∈ en t w ↔ p < t.length ∧ w.length ≤ p + 1 ∧ wd t (p + 1 - w.length) w.length = w := by
  unfold en; rw [List.mem_filter, List.mem_range, endB_iff]
theorem en_asc {t w : List Nat} : (en t w).Pairwise (· < ·) := List.Pairwise.filter _ List.pairwise_lt_range
theorem en_of {t : List Nat} {p k : Nat} (hp : p < t.length) (hk : k ≤ p + 1) : p ∈ en t (wd t (p + 1 - k) k) := by
  have l := wd_len (t := t) (s := p + 1 - k) (k := k) (by omega)
  rw [mem_en, l]
  exact ⟨hp, hk, rfl⟩
theorem en_ne {t w : List Nat} (h : Occ t w) : en t w ≠ [] := by
  obtain ⟨s, k, h1, h2, rfl⟩ := h
  have := en_of (t := t) (p := s + k - 1) (k := k) (by omega) (by omega)
  rw [show s + k - 1 + 1 - k = s by omega] at this
  intro z
  rw [z] at this; cases this
/-- longer words that end at p end at fewer places -/
theorem en_mono {t : List Nat} {p a b q : Nat} (hp : p < t.length) (ha : a ≤ b) (hb : b ≤ p + 1) (h : q ∈ en t (wd t (p + 1 - b) b)) : q ∈ en t (wd t (p + 1 - a) a) := by
  have lb := wd_len (t := t) (s := p + 1 - b) (k := b) (by omega)
  have la := wd_len (t := t) (s := p + 1 - a) (k := a) (by omega)
  rw [mem_en, lb] at h
  rw [mem_en, la]
  obtain ⟨h1, h2, h3⟩ := h
  refine ⟨h1, by omega, ?_⟩
  have e : wd (wd t (q + 1 - b) b) (b - a) a = wd (wd t (p + 1 - b) b) (b - a) a := by rw [h3]
  rw [wd_wd (by omega), wd_wd (by omega)] at e
  rw [show q + 1 - b + (b - a) = q + 1 - a by omega, show p + 1 - b + (b - a) = p + 1 - a by omega] at e
  exact e
theorem asc_ext {A B : List Nat} (ha : A.Pairwise (· < ·)) (hb : B.Pairwise (· < ·)) (h : ∀ x, x ∈ A ↔ x ∈ B) : A = B := by
  induction A generalizing B with
  | nil => cases B with
    | nil => rfl
    | cons b B => exact absurd ((h b).mpr List.mem_cons_self) (by simp)
  | cons a A ih =>
    cases B with
    | nil => exact absurd ((h a).mp List.mem_cons_self) (by simp)
    | cons b B =>
      rw [List.pairwise_cons] at ha hb
      have e : a = b := by
        have m1 := (h a).mp List.mem_cons_self
        have m2 := (h b).mpr List.mem_cons_self
        rcases List.mem_cons.mp m1 with z | z
        · exact z
        · rcases List.mem_cons.mp m2 with y | y
          · exact y.symm
          · have := hb.1 a z
            have := ha.1 b y
            omega
      subst e
      rw [ih ha.2 hb.2 fun x => ?_]
      constructor
      · intro m
        rcases List.mem_cons.mp ((h x).mp (List.mem_cons_of_mem _ m)) with z | z
        · have := ha.1 x m; omega
        · exact z
      · intro m
        rcases List.mem_cons.mp ((h x).mpr (List.mem_cons_of_mem _ m)) with z | z
        · have := hb.1 x m; omega
        · exact z
/-- between two lengths with the same ends all lengths have them -/
theorem en_between {t : List Nat} {p a b k : Nat} {E : List Nat} (hp : p < t.length) (ha : en t (wd t (p + 1 - a) a) = E) (hb : en t (wd t (p + 1 - b) b) = E) (h1 : a ≤ k) (h2 : k ≤ b) (h3 : b ≤ p + 1) : en t (wd t (p + 1 - k) k) = E := by
  refine asc_ext en_asc (ha ▸ en_asc) fun x => ⟨fun m => ?_, fun m => ?_⟩
  · rw [← ha]; exact en_mono hp h1 (by omega) m
  · rw [← hb] at m; exact en_mono hp h2 h3 m
/-- a word, by one of its ends and its length -/
theorem word_at {t w : List Nat} {p : Nat} (h : p ∈ en t w) : w = wd t (p + 1 - w.length) w.length := (mem_en.mp h).2.2.symm
/-! ### the words in the order in which they are met, each with its end -/
noncomputable def pairs (t : List Nat) : List (List Nat × Nat) := (List.range' 1 t.length).flatMap fun stop => (List.range stop).map fun start => (wd t start (stop - start), stop - 1)
noncomputable def keys (t : List Nat) : List (List Nat) := ky ((pairs t).map (·.1))
theorem mem_pairs {t w : List Nat} {e : Nat} : (w, e) ∈ pairs t ↔ ∃ start stop, start < stop ∧ stop ≤ t.length ∧ w = wd t start (stop - start) ∧ e = stop - 1 := by
  unfold pairs
  rw [List.mem_flatMap]
  constructor
  · rintro ⟨stop, m, m2⟩
    obtain ⟨start, m3, e1⟩ := List.mem_map.mp m2
    rw [List.mem_range'_1] at m
    cases e1
    exact ⟨start, stop, List.mem_range.mp m3, by omega, rfl, rfl⟩
  · rintro ⟨start, stop, h1, h2, rfl, rfl⟩
    exact ⟨stop, by rw [List.mem_range'_1]; omega, List.mem_map.mpr ⟨start, List.mem_range.mpr h1, rfl⟩⟩
theorem mem_keys {t w : List Nat} : w ∈ keys t ↔ Occ t w := by
  unfold keys
  rw [mem_ky, List.mem_map]
  constructor
  · rintro ⟨⟨w', e⟩, m, rfl⟩
    obtain ⟨start, stop, h1, h2, e1, _⟩ := mem_pairs.mp m
    exact ⟨start, stop - start, by omega, by omega, e1⟩
  · rintro ⟨s, k, h1, h2, rfl⟩
    exact ⟨(wd t s k, s + k - 1), mem_pairs.mpr ⟨s, s + k, by omega, by omega, by rw [Nat.add_sub_cancel_left], rfl⟩, rfl⟩
theorem asc_flat {f : Nat → List Nat} : ∀ n lo, (∀ i, lo ≤ i → i < lo + n → ∀ x ∈ f i, x + 1 = i) → (∀ i, lo ≤ i → i < lo + n → (f i).length ≤ 1) → ((List.range' lo n).flatMap f).Pairwise (· < ·)
  | 0, _, _, _ => by simp
  | n + 1, lo, hf, h1 => by
    rw [List.range'_succ, List.flatMap_cons, List.pairwise_append]
    refine ⟨?_, asc_flat n (lo + 1) (fun i a b => hf i (by omega) (by omega)) (fun i a b => h1 i (by omega) (by omega)), fun x mx y my => ?_⟩
    · cases q : f lo with
      | nil => exact .nil
      | cons a r =>
        have := h1 lo (by omega) (by omega)
        rw [q] at this
        cases r with
        | nil => simp
        | cons b r => simp at this
    · obtain ⟨j, mj, mj2⟩ := List.mem_flatMap.mp my
      rw [List.mem_range'_1] at mj
      have := hf _ (by omega) (by omega) x mx
      have := hf _ (by omega) (by omega) y mj2
      omega
theorem vl_flatMap {α β γ : Type} [DecidableEq α] (f : γ → List (α × β)) (a : α) : ∀ L : List γ, vl (L.flatMap f) a = L.flatMap fun i => vl (f i) a
  | [] => rfl
  | c :: L => by
    rw [List.flatMap_cons, List.flatMap_cons, ← vl_flatMap f a L]
    unfold vl
    rw [List.filter_append, List.map_append]
theorem filter_le_one {α : Type} {p : α → Bool} : ∀ {L : List α}, L.Nodup → (∀ x ∈ L, ∀ y ∈ L, p x = true → p y = true → x = y) → (L.filter p).length ≤ 1
  | [], _, _ => Nat.zero_le _
  | a :: L, nd, h => by
    rw [List.nodup_cons] at nd
    by_cases q : p a = true
    · rw [List.filter_cons_of_pos q]
      have : L.filter p = [] := by
        rw [List.filter_eq_nil_iff]
        intro x m z
        exact nd.1 ((h a List.mem_cons_self x (List.mem_cons_of_mem _ m) q z) ▸ m)
      rw [this]; simp
    · rw [List.filter_cons_of_neg q]
      exact filter_le_one nd.2 fun x m y m2 => h x (List.mem_cons_of_mem _ m) y (List.mem_cons_of_mem _ m2)
theorem vl_pairs {t w : List Nat} (h : 1 ≤ w.length) : vl (pairs t) w = en t w := by
  refine asc_ext ?_ en_asc fun x => ?_
  · unfold pairs
    rw [vl_flatMap]
    refine asc_flat _ _ (fun i i1 i2 x m => ?_) (fun i i1 i2 => ?_)
    · obtain ⟨start, m2, e⟩ := List.mem_map.mp (mem_vl.mp m)
      have := List.mem_range.mp m2
      cases e
      omega
    · unfold vl
      rw [List.length_map, List.filter_map, List.length_map]
      refine filter_le_one List.nodup_range fun a ma b mb ha hb => ?_
      have ha : wd t a (i - a) = w := by simpa using ha
      have hb : wd t b (i - b) = w := by simpa using hb
      have := List.mem_range.mp ma
      have := List.mem_range.mp mb
      have l1 := wd_len (t := t) (s := a) (k := i - a) (by omega)
      have l2 := wd_len (t := t) (s := b) (k := i - b) (by omega)
      rw [ha] at l1
      rw [hb] at l2
      omega
  · rw [mem_vl, mem_pairs, mem_en]
    constructor
    · rintro ⟨start, stop, h1, h2, e, rfl⟩
      have l := wd_len (t := t) (s := start) (k := stop - start) (by omega)
      rw [← e] at l
      refine ⟨by omega, by omega, ?_⟩
      rw [l, show stop - 1 + 1 - (stop - start) = start by omega]
      exact e.symm
    · rintro ⟨h1, h2, h3⟩
      exact ⟨x + 1 - w.length, x + 1, by omega, by omega, by rw [show x + 1 - (x + 1 - w.length) = w.length by omega]; exact h3.symm, by omega⟩
/-! ### kinds: (ends, least length, greatest length) -/
noncomputable def lens (t : List Nat) : List (List Nat × Nat) := (keys t).map fun w => (en t w, w.length)
noncomputable def kdE (t : List Nat) : List (List Nat) := ky ((lens t).map (·.1))
structure Kd where
  e : List Nat
  lo : Nat
  hi : Nat
deriving DecidableEq
noncomputable def kdOf (t E : List Nat) : Kd := ⟨E, mnL (vl (lens t) E), mxL (vl (lens t) E)⟩
noncomputable def kdL (t : List Nat) : List Kd := (kdE t).map (kdOf t)
theorem mem_lens {t E : List Nat} {k : Nat} : (E, k) ∈ lens t ↔ ∃ w, Occ t w ∧ en t w = E ∧ w.length = k := by
  unfold lens
  rw [List.mem_map]
  constructor
  · rintro ⟨w, m, e⟩
    cases e
    exact ⟨w, mem_keys.mp m, rfl, rfl⟩
  · rintro ⟨w, m, rfl, rfl⟩
    exact ⟨w, mem_keys.mpr m, rfl⟩
theorem mem_kdE {t E : List Nat} : E ∈ kdE t ↔ ∃ w, Occ t w ∧ en t w = E := by
  unfold kdE
  rw [mem_ky, List.mem_map]
  constructor
  · rintro ⟨⟨E', k⟩, m, rfl⟩
    obtain ⟨w, h1, h2, _⟩ := mem_lens.mp m
    exact ⟨w, h1, h2⟩
  · rintro ⟨w, h1, h2⟩
    exact ⟨(E, w.length), mem_lens.mpr ⟨w, h1, h2, rfl⟩, rfl⟩
/-- what a kind is -/
structure IsKd (t : List Nat) (k : Kd) : Prop where
  ne : k.e ≠ []
  lt : ∀ p ∈ k.e, p < t.length ∧ k.hi ≤ p + 1
  pos : 1 ≤ k.lo
  le : k.lo ≤ k.hi
  asc : k.e.Pairwise (· < ·)
  ends : ∀ p ∈ k.e, ∀ j, k.lo ≤ j → j ≤ k.hi → en t (wd t (p + 1 - j) j) = k.e
  all : ∀ w, Occ t w → en t w = k.e → k.lo ≤ w.length ∧ w.length ≤ k.hi
theorem kd_is {t : List Nat} {k : Kd} (h : k ∈ kdL t) : IsKd t k := by
  unfold kdL at h
  obtain ⟨E, m, rfl⟩ := List.mem_map.mp h
  obtain ⟨w0, o0, e0⟩ := mem_kdE.mp m
  have ne : vl (lens t) E ≠ [] := by
    intro z
    have : w0.length ∈ vl (lens t) E := mem_vl.mpr (mem_lens.mpr ⟨w0, o0, e0, rfl⟩)
    rw [z] at this; cases this
  obtain ⟨wl, ol, el, ll⟩ := mem_lens.mp (mem_vl.mp (mnL_mem ne))
  obtain ⟨wh, oh, eh, lh⟩ := mem_lens.mp (mem_vl.mp (mxL_mem ne))
  have al : ∀ w, Occ t w → en t w = E → mnL (vl (lens t) E) ≤ w.length ∧ w.length ≤ mxL (vl (lens t) E) := fun w o e => by
    have mm : w.length ∈ vl (lens t) E := mem_vl.mpr (mem_lens.mpr ⟨w, o, e, rfl⟩)
    exact ⟨mnL_le mm, mxL_ge mm⟩
  have p1 : 1 ≤ wl.length := by
    obtain ⟨s, k, h1, h2, rfl⟩ := ol
    rw [wd_len h2]; exact h1
  have bd : ∀ p ∈ E, p < t.length ∧ wh.length ≤ p + 1 := fun p mp => by
    rw [← eh] at mp
    have := mem_en.mp mp
    exact ⟨this.1, this.2.1⟩
  refine ⟨?_, ?_, ?_, ?_, ?_, ?_, al⟩
  · show E ≠ []
    rw [← e0]; exact en_ne o0
  · show ∀ p ∈ E, p < t.length ∧ mxL _ ≤ p + 1
    rw [← lh]; exact bd
  · show 1 ≤ mnL _
    rw [← ll]; exact p1
  · exact mnL_le (mxL_mem ne)
  · show E.Pairwise (· < ·)
    rw [← e0]; exact en_asc
  · intro p mp j h1 h2
    have mp : p ∈ E := mp
    have h1 : mnL (vl (lens t) E) ≤ j := h1
    have h2 : j ≤ mxL (vl (lens t) E) := h2
    show en t (wd t (p + 1 - j) j) = E
    have al : en t (wd t (p + 1 - wl.length) wl.length) = E := by rw [← word_at (by rw [el]; exact mp)]; exact el
    have ah : en t (wd t (p + 1 - wh.length) wh.length) = E := by rw [← word_at (by rw [eh]; exact mp)]; exact eh
    exact en_between (bd p mp).1 al ah (by omega) (by omega) (bd p mp).2
theorem kd_has {t w : List Nat} (h : Occ t w) : ∃ k ∈ kdL t, k.e = en t w := by
  exact ⟨kdOf t (en t w), List.mem_map.mpr ⟨_, mem_kdE.mpr ⟨w, h, rfl⟩, rfl⟩, rfl⟩
theorem kd_nd {t : List Nat} : ((kdL t).map Kd.e).Nodup := by
  unfold kdL
  rw [List.map_map]
  have : Kd.e ∘ kdOf t = id := rfl
  rw [this, List.map_id]
  exact nd_ky
theorem kdOf_e {t : List Nat} {k : Kd} (h : k ∈ kdL t) : k = kdOf t k.e := by
  obtain ⟨E, m, rfl⟩ := List.mem_map.mp h
  rfl
theorem kd_uniq {t : List Nat} {k k' : Kd} (h : k ∈ kdL t) (h' : k' ∈ kdL t) (e : k.e = k'.e) : k = k' := by
  rw [kdOf_e h, kdOf_e h', e]
/-- the first end -/
noncomputable def Kd.p (k : Kd) : Nat := k.e.headD 0
theorem IsKd.hd {t : List Nat} {k : Kd} (h : IsKd t k) : k.p ∈ k.e := by
  have := h.ne
  unfold Kd.p
  cases q : k.e with
  | nil => exact absurd q this
  | cons a r => exact List.mem_cons_self
theorem keys_le {t : List Nat} : (keys t).length ≤ (pairs t).length := by
  unfold keys
  exact Nat.le_trans ky_len (by rw [List.length_map]; exact Nat.le_refl _)
theorem flat_len {α β : Type} {f : α → List β} {m : Nat} : ∀ {L : List α}, (∀ a ∈ L, (f a).length ≤ m) → (L.flatMap f).length ≤ L.length * m
  | [], _ => by simp
  | a :: L, h => by
    rw [List.flatMap_cons, List.length_append, List.length_cons, Nat.succ_mul]
    have := flat_len (L := L) fun x m => h x (List.mem_cons_of_mem _ m)
    have := h a List.mem_cons_self
    omega
theorem pairs_len {t : List Nat} : (pairs t).length ≤ t.length * t.length := by
  unfold pairs
  have := flat_len (f := fun stop => (List.range stop).map fun start => (wd t start (stop - start), stop - 1)) (m := t.length) (L := List.range' 1 t.length) fun i m => by
    rw [List.length_map, List.length_range]
    rw [List.mem_range'_1] at m
    omega
  rw [List.length_range'] at this
  exact this
end KD
set_option linter.all false
set_option maxRecDepth 100000
namespace PN
open PD PM

noncomputable def z8e13ffc9 : List Nat := [112, 117, 116]
noncomputable def z12cba3ee : List Nat := [99, 111, 112, 121]
noncomputable def c1_sources_of : Env → R D := (mLc (iArgs gR1 (mCons (m2 dIx (mV 2) (mC (.int 2))) mNil)) [3] (gSet 3) mYes (m2 dAdd (m2 dIx (mV 2) (mC (.int 1))) (mV 3)))
end PN
set_option linter.all false
set_option maxRecDepth 100000
set_option maxHeartbeats 1000000
namespace PN
open PD PM
/-! ### phrases -/
inductive Ph where
  | put (c : Nat) | copy (s n : Nat)
deriving DecidableEq
noncomputable def Ph.d : Ph → D
  | .put c => .tup [.str z8e13ffc9, .str [c]]
  | .copy s n => .tup [.str z12cba3ee, .int (s : Nat), .int (n : Nat)]
noncomputable def Ph.len : Ph → Nat
  | .put _ => 1
  | .copy _ n => n
noncomputable def tot (ps : List Ph) : Nat := (ps.map Ph.len).sum
@[simp] theorem tot_nil : tot [] = 0 := rfl
@[simp] theorem tot_cons {p : Ph} {ps : List Ph} : tot (p :: ps) = p.len + tot ps := rfl
@[simp] theorem tot_app {ps qs : List Ph} : tot (ps ++ qs) = tot ps + tot qs := by
  induction ps with
  | nil => simp
  | cons p ps ih => rw [List.cons_append, tot_cons, tot_cons, ih]; omega
noncomputable def PhOk (size : Nat) : Ph → Prop
  | .put c => 97 ≤ c ∧ c ≤ 122
  | .copy s n => 1 ≤ n ∧ s + n ≤ size
structure Val (ps : List Ph) : Prop where
  ne : ps ≠ []
  most : tot ps ≤ 128
  ok : ∀ p ∈ ps, PhOk (tot ps) p
theorem PhOk.pos {size : Nat} {p : Ph} (h : PhOk size p) : 1 ≤ p.len := by
  cases p with
  | put c => exact Nat.le_refl 1
  | copy s n => exact h.1
theorem len_le {size : Nat} : ∀ {ps : List Ph}, (∀ p ∈ ps, PhOk size p) → ps.length ≤ tot ps
  | [], _ => Nat.le_refl _
  | p :: ps, h => by
    have h1 := (h p List.mem_cons_self).pos
    have h2 := len_le fun q m => h q (List.mem_cons_of_mem _ m)
    rw [tot_cons, List.length_cons]
    omega
theorem Val.len {ps : List Ph} (h : Val ps) : ps.length ≤ 128 := Nat.le_trans (len_le h.ok) h.most
end PN
set_option linter.all false
set_option maxRecDepth 100000
namespace PD
section
variable {α : Type} {N B C : Env → Prop} {K : D → Prop} {ρ : Env} {d : D}
/-- over the items, by what has been gone through -/
theorem loop_pre {T : D → Env → Option Env} {b : Env → R Fl} (I : List α → Env → Prop) (emb : α → D) (xs : List α) (ρ : Env) (h : I [] ρ)
    (hs : ∀ (pre : List α) (a : α) (post : List α) (ρ : Env), xs = pre ++ a :: post → I pre ρ → Ot (T (emb a) ρ) fun ρ1 => Oc (b ρ1) (I (pre ++ [a])) noD noE (I (pre ++ [a])) noX) : ∃ ρ', sLoop T b (xs.map emb) ρ = .ok (.nx ρ') ∧ I xs ρ' := by
  obtain ⟨ρ', e, h'⟩ := loop_I (T := T) (b := b) (fun j ρ => I (xs.take j) ρ) (xs.map emb) ρ (by rw [List.take_zero]; exact h) fun j d ρ hj hi => by
    rw [List.getElem?_map] at hj
    cases q : xs[j]? with
    | none => rw [q] at hj; cases hj
    | some a =>
      rw [q] at hj
      cases hj
      obtain ⟨hl, he⟩ := List.getElem?_eq_some_iff.mp q
      have e2 : xs.take (j + 1) = xs.take j ++ [a] := by rw [List.take_add_one, q]; rfl
      rw [e2]
      exact hs (xs.take j) a (xs.drop (j + 1)) ρ (by rw [← he, ← List.drop_eq_getElem_cons hl, List.take_append_drop]) hi
  rw [List.length_map, List.take_length] at h'
  exact ⟨ρ', e, h'⟩
end
end PD
namespace PD
section
variable {ρ ρ' : Env} {d x y : D} {i j : Nat} {xs ys : List D}
noncomputable def kExt (i : Nat) (ρ : Env) : Option (List D) → R D → R Fl := fun o r => match o with
  | some xs => liftE r ρ fun d => match d with
    | .lst ys => if xs.length + ys.length ≤ LN then .ok (.nx (ρ.set i (some (.lst (xs ++ ys))))) else .stuck
    | _ => .stuck
  | none => .stuck
theorem r_sExt {f : Env → R D} : sExt i f ρ = kExt i ρ (getL ρ i) (f ρ) := Eq.trans rfl rfl
theorem r_kExt (h : xs.length + ys.length ≤ 1000000) : kExt i ρ (some xs) (.ok (.lst ys)) = .ok (.nx (ρ.set i (some (.lst (xs ++ ys))))) := if_pos h
noncomputable def kPop (j i : Nat) (ρ : Env) : Option (List D) → R Fl := fun o => match o with
  | some xs => match xs.getLast? with
    | some d => .ok (.nx ((ρ.set i (some (.lst xs.dropLast))).set j (some d)))
    | none => .stuck
  | none => .stuck
theorem r_sPop : sPop j i ρ = kPop j i ρ (getL ρ i) := Eq.trans rfl rfl
theorem r_kPop : kPop j i ρ (some (xs ++ [d])) = .ok (.nx ((ρ.set i (some (.lst xs))).set j (some d))) := by
  show (match (xs ++ [d]).getLast? with | some d => _ | none => _) = _
  rw [List.getLast?_append]
  show R.ok (Fl.nx ((ρ.set i (some (D.lst (xs ++ [d]).dropLast))).set j (some d))) = _
  rw [List.dropLast_concat]
noncomputable def kSI (i : Nat) (ρ : Env) : R D → Option (List D) → R D → R Fl := fun r o k => liftE r ρ fun d => match o with
  | some xs => liftE k ρ fun k => match k with
    | .int j => match L2.ixN xs.length j with
      | some m => .ok (.nx (ρ.set i (some (.lst (xs.set m d)))))
      | none => .stuck
    | _ => .stuck
  | none => .stuck
theorem r_sSI {fe fk : Env → R D} : sSetIx i fe fk ρ = kSI i ρ (fe ρ) (getL ρ i) (fk ρ) := Eq.trans rfl rfl
theorem r_kSI {k : Nat} (h : k < xs.length) : kSI i ρ (.ok d) (some xs) (.ok (.int (k : Nat))) = .ok (.nx (ρ.set i (some (.lst (xs.set k d))))) := by
  show (match L2.ixN xs.length (k : Int) with | some m => _ | none => _) = _
  rw [ixN_nat h]
theorem r_kSIl : kSI i ρ (.ok d) (some (xs ++ [x])) (.ok (.int (-1))) = .ok (.nx (ρ.set i (some (.lst (xs ++ [d]))))) := by
  have e : L2.ixN (xs ++ [x]).length (-1) = some xs.length := by
    unfold L2.ixN
    rw [List.length_append]
    simp
    omega
  show (match L2.ixN (xs ++ [x]).length (-1) with | some m => _ | none => _) = _
  rw [e]
  show R.ok (Fl.nx (ρ.set i (some (D.lst ((xs ++ [x]).set xs.length d))))) = _
  rw [List.set_append_right _ _ (Nat.le_refl _), Nat.sub_self]
  rfl
theorem r_ixl : dIx (.lst (xs ++ [x])) (.int (-1)) = some x := by
  have := r_last (xs := xs ++ [x]) (k := xs.length) (by simp)
  rw [this]
  simp
noncomputable def kAug (i : Nat) (g : D → D → Option D) (ρ : Env) : Option (Option D) → R D → R Fl := fun o r => match o with
  | some (some x) => liftE r ρ fun y => match g x y with
    | some d => .ok (.nx (ρ.set i (some d)))
    | none => .stuck
  | _ => .stuck
noncomputable def kOS (i : Nat) (ρ : Env) : Option D → R Fl := fun o => match o with
  | some d => .ok (.nx (ρ.set i (some d)))
  | none => .stuck
theorem r_sAug {g : D → D → Option D} {f : Env → R D} : sAug i g f ρ = kAug i g ρ (ρ[i]?) (f ρ) := Eq.trans rfl rfl
theorem r_kAug {g : D → D → Option D} : kAug i g ρ (some (some x)) (.ok y) = kOS i ρ (g x y) := Eq.trans rfl rfl
theorem r_kOS : kOS i ρ (some d) = .ok (.nx (ρ.set i (some d))) := Eq.trans rfl rfl
noncomputable def kPar (i j : Nat) (ρ : Env) : R D → R D → R Fl := fun a b => liftE a ρ fun a => liftE b ρ fun b => .ok (.nx ((ρ.set i (some a)).set j (some b)))
theorem r_sPar {f g : Env → R D} : sPar i j f g ρ = kPar i j ρ (f ρ) (g ρ) := Eq.trans rfl rfl
theorem r_kPar : kPar i j ρ (.ok x) (.ok y) = .ok (.nx ((ρ.set i (some x)).set j (some y))) := Eq.trans rfl rfl
noncomputable def kTo : Option Env → R Fl := fun o => match o with
  | some ρ' => .ok (.nx ρ')
  | none => .stuck
noncomputable def kAsg (T : D → Env → Option Env) (ρ : Env) : R D → R Fl := fun r => liftE r ρ fun d => kTo (T d ρ)
theorem r_sAsg {f : Env → R D} {T : D → Env → Option Env} : sAsg f T ρ = kAsg T ρ (f ρ) := by
  unfold sAsg kAsg kTo; rfl
theorem r_kAsg {T : D → Env → Option Env} : kAsg T ρ (.ok d) = kTo (T d ρ) := Eq.trans rfl rfl
theorem r_kTo : kTo (some ρ') = .ok (.nx ρ') := Eq.trans rfl rfl
theorem r_gTup {Ts : List D → Env → Option Env} : gTup Ts (.tup xs) ρ = Ts xs ρ := Eq.trans rfl rfl
theorem r_gsNil : gsNil [] ρ = some ρ := Eq.trans rfl rfl
noncomputable def kGs (Ts : List D → Env → Option Env) (xs : List D) : Option Env → Option Env := fun o => o.bind fun ρ' => Ts xs ρ'
theorem r_gsCons {T : D → Env → Option Env} {Ts : List D → Env → Option Env} : gsCons T Ts (d :: xs) ρ = kGs Ts xs (T d ρ) := by
  show (T d ρ).bind _ = (T d ρ).bind _
  rfl
theorem r_kGs {Ts : List D → Env → Option Env} : kGs Ts xs (some ρ') = Ts xs ρ' := Eq.trans rfl rfl
theorem r_tru0 : dTru (.lst []) = some false := Eq.trans rfl rfl
theorem r_truc : dTru (.lst (x :: xs)) = some true := Eq.trans rfl rfl
theorem r_trus : dTru (.lst (xs ++ [x])) = some true := by
  show some (!(xs ++ [x]).isEmpty) = _
  cases xs <;> rfl
theorem r_trub {b : Bool} : dTru (.bl b) = some b := Eq.trans rfl rfl
theorem r_trun : dTru .non = some false := Eq.trans rfl rfl
/-! fields, __init__ -/
noncomputable def kFI (i : Nat) (f : PySem.Str) (ρ : Env) : R D → Option (Option D) → R Fl := fun r o => liftE r ρ fun d => match o with
  | some (some (.obj c ks vs)) => if ks.contains f = false ∧ ks.length < 900 then .ok (.nx (ρ.set i (some (.obj c (ks ++ [f]) (vs ++ [d]))))) else .stuck
  | _ => .stuck
theorem r_sFI {f : PySem.Str} {fe : Env → R D} : sFldI i f fe ρ = kFI i f ρ (fe ρ) (ρ[i]?) := Eq.trans rfl rfl
theorem r_kFI {f c : PySem.Str} {ks : List PySem.Str} (h : ks.contains f = false ∧ ks.length < 900) : kFI i f ρ (.ok d) (some (some (.obj c ks xs))) = .ok (.nx (ρ.set i (some (.obj c (ks ++ [f]) (xs ++ [d]))))) := if_pos h
noncomputable def kInit (ks : List PySem.Str) : R Fl → R (List D) := fun r => match r with
  | .ok (.nx ρ) => initOf ks ρ
  | .ok (.ex c fs _) => .err c fs
  | _ => .stuck
theorem r_kInit {ks : List PySem.Str} : kInit ks (.ok (.nx ρ)) = initOf ks ρ := Eq.trans rfl rfl
theorem r_kInitX {ks : List PySem.Str} {c : PySem.Str} {fs : List (PySem.Str × D)} : kInit ks (.ok (.ex c fs ρ)) = .err c fs := Eq.trans rfl rfl
end
end PD
set_option Elab.async false
set_option linter.all false
set_option maxRecDepth 100000
set_option maxHeartbeats 2000000
/-! # operators of own classes: -a, a + b (one class), a * int -/
namespace PD
open PySem PySem.Spec PyProof.Rows L2
/-- c * int -/
structure MulC (K : PySem.W.Frag) (c : Str) : Prop where
  ex : ∀ C, PySem.W.nsIn K mainGlobals c = some (some (.ref C)) → PySem.W.selfFirst K C = true ∧ PySem.W.findIn K (.ref C) "__rmul__" = some none ∧ (∃ fo, PySem.W.findIn K (.type "int") "__mul__" = some fo) ∧ (∃ ro, PySem.W.findIn K (.type "int") "__rmul__" = some ro) ∧ PySem.W.subIn K (.type "int") (.ref C) = some false
section
variable {X : Cx} {L : LE} {fl : List Sh} {W : WX} {pos : Pos}
end
end PD
set_option Elab.async false
set_option linter.all false
set_option maxRecDepth 100000
set_option maxHeartbeats 2000000
/-! # a class whose `__iter__` is `return iter(self.f)`, f a tuple: walked -/
namespace PD
open PySem PySem.Spec PyProof.Rows L2
noncomputable def TitO (t it : Addr) : HO := .ext fun h => h.IsTupleIter it t 0
/-- what `__iter__` does, from any state -/
noncomputable def ItRun (P : Program) (w : World) (K : PySem.W.Frag) (mg : Str → Option Value) (base : Heap) (f : Str) (g : Addr) (fd : FuncData) : Prop :=
  ∀ (A : Around) (outer : List PySem.Env) (s : Shared) (H : Hp) (a C dx : Addr) (fs : List (Str × V)) (t : Addr) (xs : List V), Room 1 A → Env0 P w K mg base A outer s H → BindsTo s fd ⟨[.ref a], []⟩ [("self", .ref a)] → H a = some (.ins C dx fs) → Cls K C → NoAttr K C f → fs.lookup f = some (.ref t) → SqT K H t xs →
    codeAny (model P w) A (.call (.ref g) ⟨[.ref a], []⟩) (CR (L2.CX P w) outer P w H s (fun v H' => ∃ it, v = .ref it ∧ H it = none ∧ s.heap.objs.size ≤ it ∧ H' = upd H it (TitO t it)) (fun _ _ _ => False)) s
/-- the class c is walked by its field f -/
structure ItrC (P : Program) (w : World) (K : PySem.W.Frag) (mg : Str → Option Value) (base : Heap) (c f : Str) : Prop where
  ex : ∀ C, PySem.W.nsIn K mainGlobals c = some (some (.ref C)) → ∃ g fd, Cls K C ∧ NoAttr K C f ∧ PySem.W.findIn K (.ref C) "__iter__" = some (some (.ref g)) ∧ PySem.W.isFn K (.ref g) = true ∧ ItRun P w K mg base f g fd ∧ Binds K fd ["self"] []
section
variable {P : Program} {w : World} {K : PySem.W.Frag} {mg : Str → Option Value} {base : Heap}
end
section
variable {X : Cx} {L : LE} {fl : List Sh} {W : WX} {pos : Pos} {tg : Expr}
end
end PD
set_option linter.all false
/-! # kinds nest: laminar lists, intervals that share out a range (plain) -/
namespace KD
noncomputable def Lam (A B : List Nat) : Prop := (∀ x ∈ A, x ∉ B) ∨ (∀ x ∈ A, x ∈ B) ∨ (∀ x ∈ B, x ∈ A)
theorem ne_len {α : Type} [DecidableEq α] {a : α} : ∀ {L : List α}, L.Nodup → L.length ≤ (L.filter fun x => decide (x ≠ a)).length + 1
  | [], _ => Nat.zero_le _
  | x :: L, nd => by
    rw [List.nodup_cons] at nd
    by_cases h : x = a
    · subst h
      rw [List.filter_cons_of_neg (by simp)]
      have : L.filter (fun y => decide (y ≠ x)) = L := List.filter_eq_self.mpr fun y m => by
        rw [decide_eq_true_iff]
        exact fun z => nd.1 (z ▸ m)
      rw [this]; simp
    · rw [List.filter_cons_of_pos (by simpa using h), List.length_cons, List.length_cons]
      have := ne_len (a := a) nd.2
      omega
theorem map_nd {α β : Type} {f : α → β} {L : List α} (nd : L.Nodup) (h : ∀ a ∈ L, ∀ b ∈ L, f a = f b → a = b) : (L.map f).Nodup := by
  refine List.pairwise_map.mpr ?_
  refine List.Pairwise.imp_of_mem ?_ nd
  intro a b ma mb ne e
  exact ne (h a ma b mb e)
noncomputable def wo (n : Nat) (A : List Nat) : List Nat := A.filter fun x => decide (x ≠ n)
theorem mem_wo {n x : Nat} {A : List Nat} : x ∈ wo n A ↔ x ∈ A ∧ x ≠ n := by
  unfold wo; rw [List.mem_filter, decide_eq_true_iff]
theorem lam_bound : ∀ (n : Nat) (L : List (List Nat)), L.Nodup → (∀ A ∈ L, A ≠ [] ∧ A.Pairwise (· < ·) ∧ ∀ x ∈ A, x < n) → (∀ A ∈ L, ∀ B ∈ L, Lam A B) → L.length ≤ 2 * n - 1
  | 0, L, _, h, _ => by
    cases L with
    | nil => exact Nat.le_refl _
    | cons A L =>
      obtain ⟨h1, _, h3⟩ := h A List.mem_cons_self
      cases A with
      | nil => exact absurd rfl h1
      | cons x A => exact absurd (h3 x List.mem_cons_self) (by omega)
  | n + 1, L, nd, h, lam => by
    obtain ⟨L1, hL1⟩ : ∃ L1, L1 = L.filter fun A => decide (A ≠ [n]) := ⟨_, rfl⟩
    have l1 : L.length ≤ L1.length + 1 := by rw [hL1]; exact ne_len nd
    have nd1 : L1.Nodup := by rw [hL1]; exact List.Pairwise.filter _ nd
    have m1 : ∀ A ∈ L1, A ∈ L ∧ A ≠ [n] := fun A m => by
      rw [hL1, List.mem_filter, decide_eq_true_iff] at m
      exact m
    have fne : ∀ A ∈ L1, wo n A ≠ [] := fun A m z => by
      obtain ⟨mA, nA⟩ := m1 A m
      obtain ⟨h1, h2, h3⟩ := h A mA
      have all : ∀ x ∈ A, x = n := fun x mx => by
        by_cases c : x = n
        · exact c
        · have : x ∈ wo n A := mem_wo.mpr ⟨mx, c⟩
          rw [z] at this; cases this
      cases A with
      | nil => exact h1 rfl
      | cons a A =>
        have ea := all a List.mem_cons_self
        cases A with
        | nil => exact nA (by rw [ea])
        | cons b A =>
          have eb := all b (by simp)
          have := (List.pairwise_cons.mp h2).1 b List.mem_cons_self
          omega
    have fok : ∀ A ∈ L1, wo n A ≠ [] ∧ (wo n A).Pairwise (· < ·) ∧ ∀ x ∈ wo n A, x < n := fun A m => by
      obtain ⟨mA, nA⟩ := m1 A m
      obtain ⟨h1, h2, h3⟩ := h A mA
      refine ⟨fne A m, List.Pairwise.filter _ h2, fun x mx => ?_⟩
      obtain ⟨a, b⟩ := mem_wo.mp mx
      have := h3 x a
      omega
    have flam : ∀ A ∈ L1, ∀ B ∈ L1, Lam (wo n A) (wo n B) := fun A mA B mB => by
      rcases lam A (m1 A mA).1 B (m1 B mB).1 with z | z | z
      · exact .inl fun x mx my => z x (mem_wo.mp mx).1 (mem_wo.mp my).1
      · exact .inr (.inl fun x mx => mem_wo.mpr ⟨z x (mem_wo.mp mx).1, (mem_wo.mp mx).2⟩)
      · exact .inr (.inr fun x mx => mem_wo.mpr ⟨z x (mem_wo.mp mx).1, (mem_wo.mp mx).2⟩)
    have feq : ∀ A ∈ L1, ∀ B ∈ L1, wo n A = wo n B → (n ∈ A ↔ n ∈ B) → A = B := fun A mA B mB e c => by
      refine asc_ext (h A (m1 A mA).1).2.1 (h B (m1 B mB).1).2.1 fun x => ?_
      by_cases z : x = n
      · subst z; exact c
      · constructor
        · intro m
          have : x ∈ wo n A := mem_wo.mpr ⟨m, z⟩
          rw [e] at this
          exact (mem_wo.mp this).1
        · intro m
          have : x ∈ wo n B := mem_wo.mpr ⟨m, z⟩
          rw [← e] at this
          exact (mem_wo.mp this).1
    by_cases hc : ∃ A B, A ∈ L1 ∧ B ∈ L1 ∧ wo n A = wo n B ∧ n ∉ A ∧ n ∈ B
    · obtain ⟨A0, B0, mA0, mB0, e0, na0, nb0⟩ := hc
      -- sets with n that collide are B0
      have half : ∀ A B A' B', A ∈ L1 → B ∈ L1 → A' ∈ L1 → B' ∈ L1 → wo n A = wo n B → wo n A' = wo n B' → n ∉ A' → n ∈ B → n ∈ B' → (∀ x ∈ B, x ∈ B') → B = B' := fun A B A' B' mA mB mA' mB' e e' na' nb nb' sub => by
        refine feq B mB B' mB' ?_ ⟨fun _ => nb', fun _ => nb⟩
        have sA' : ∀ x ∈ A', x ∈ wo n B' := fun x mx => by
          rw [← e']
          exact mem_wo.mpr ⟨mx, fun z => na' (z ▸ mx)⟩
        have sub' : ∀ x ∈ wo n B, x ∈ A' := fun x mx => by
          have : x ∈ wo n B' := mem_wo.mpr ⟨sub x (mem_wo.mp mx).1, (mem_wo.mp mx).2⟩
          rw [← e'] at this
          exact (mem_wo.mp this).1
        refine asc_ext (fok B mB).2.1 (fok B' mB').2.1 fun x => ⟨fun mx => mem_wo.mpr ⟨sub x (mem_wo.mp mx).1, (mem_wo.mp mx).2⟩, fun mx => ?_⟩
        rcases lam A' (m1 A' mA').1 B (m1 B mB).1 with z | z | z
        · have ne := (fok B mB).1
          cases q : wo n B with
          | nil => exact absurd q ne
          | cons y r =>
            have my : y ∈ wo n B := by rw [q]; exact List.mem_cons_self
            exact absurd (mem_wo.mp my).1 (z y (sub' y my))
        · rw [← e'] at mx
          obtain ⟨a, b⟩ := mem_wo.mp mx
          exact mem_wo.mpr ⟨z x a, b⟩
        · exact absurd (z n nb) na'
      have uniq : ∀ A B, A ∈ L1 → B ∈ L1 → wo n A = wo n B → n ∉ A → n ∈ B → B = B0 := fun A B mA mB e na nb => by
        rcases lam B (m1 B mB).1 B0 (m1 B0 mB0).1 with z | z | z
        · exact absurd nb0 (z n nb)
        · exact half A B A0 B0 mA mB mA0 mB0 e e0 na0 nb nb0 z
        · exact (half A0 B0 A B mA0 mB0 mA mB e0 e na nb0 nb z).symm
      obtain ⟨L2, hL2⟩ : ∃ L2, L2 = L1.filter fun A => decide (A ≠ B0) := ⟨_, rfl⟩
      have l2 : L1.length ≤ L2.length + 1 := by rw [hL2]; exact ne_len nd1
      have nd2 : L2.Nodup := by rw [hL2]; exact List.Pairwise.filter _ nd1
      have m2 : ∀ A ∈ L2, A ∈ L1 ∧ A ≠ B0 := fun A m => by
        rw [hL2, List.mem_filter, decide_eq_true_iff] at m
        exact m
      have inj : ∀ A ∈ L2, ∀ B ∈ L2, wo n A = wo n B → A = B := fun A mA B mB e => by
        by_cases cA : n ∈ A
        · by_cases cB : n ∈ B
          · exact feq A (m2 A mA).1 B (m2 B mB).1 e ⟨fun _ => cB, fun _ => cA⟩
          · exact absurd (uniq B A (m2 B mB).1 (m2 A mA).1 e.symm cB cA) (m2 A mA).2
        · by_cases cB : n ∈ B
          · exact absurd (uniq A B (m2 A mA).1 (m2 B mB).1 e cA cB) (m2 B mB).2
          · exact feq A (m2 A mA).1 B (m2 B mB).1 e ⟨fun z => absurd z cA, fun z => absurd z cB⟩
      have ih := lam_bound n (L2.map (wo n)) (map_nd nd2 inj) (fun A m => by
        obtain ⟨B, mB, rfl⟩ := List.mem_map.mp m
        exact fok B (m2 B mB).1) (fun A mA B mB => by
        obtain ⟨A', mA', rfl⟩ := List.mem_map.mp mA
        obtain ⟨B', mB', rfl⟩ := List.mem_map.mp mB
        exact flam A' (m2 A' mA').1 B' (m2 B' mB').1)
      rw [List.length_map] at ih
      have n0 : n ≠ 0 := by
        obtain ⟨a, _, c⟩ := fok B0 mB0
        cases q : wo n B0 with
        | nil => exact absurd q a
        | cons y r =>
          have := c y (by rw [q]; exact List.mem_cons_self)
          omega
      omega
    · have inj : ∀ A ∈ L1, ∀ B ∈ L1, wo n A = wo n B → A = B := fun A mA B mB e => by
        by_cases cA : n ∈ A
        · by_cases cB : n ∈ B
          · exact feq A mA B mB e ⟨fun _ => cB, fun _ => cA⟩
          · exact absurd ⟨B, A, mB, mA, e.symm, cB, cA⟩ hc
        · by_cases cB : n ∈ B
          · exact absurd ⟨A, B, mA, mB, e, cA, cB⟩ hc
          · exact feq A mA B mB e ⟨fun z => absurd z cA, fun z => absurd z cB⟩
      have ih := lam_bound n (L1.map (wo n)) (map_nd nd1 inj) (fun A m => by
        obtain ⟨B, mB, rfl⟩ := List.mem_map.mp m
        exact fok B mB) (fun A mA B mB => by
        obtain ⟨A', mA', rfl⟩ := List.mem_map.mp mA
        obtain ⟨B', mB', rfl⟩ := List.mem_map.mp mB
        exact flam A' mA' B' mB')
      rw [List.length_map] at ih
      omega
/-! ### of two kinds -/
theorem sub_len {α : Type} [DecidableEq α] : ∀ {A B : List α}, A.Nodup → (∀ a ∈ A, a ∈ B) → A.length ≤ B.length
  | [], B, _, _ => Nat.zero_le _
  | a :: A, B, nd, h => by
    rw [List.nodup_cons] at nd
    have ma := h a List.mem_cons_self
    have := sub_len (A := A) (B := B.erase a) nd.2 fun x m => (List.mem_erase_of_ne (fun z : x = a => nd.1 (z ▸ m))).mpr (h x (List.mem_cons_of_mem _ m))
    rw [List.length_erase_of_mem ma] at this
    have := List.length_pos_of_mem ma
    rw [List.length_cons]
    omega
theorem asc_nd {A : List Nat} (h : A.Pairwise (· < ·)) : A.Nodup := h.imp fun h => Nat.ne_of_lt h
/-- less, or the same -/
theorem sub_lt {A B : List Nat} (ha : A.Pairwise (· < ·)) (hb : B.Pairwise (· < ·)) (s : ∀ x ∈ A, x ∈ B) (ne : A ≠ B) : A.length < B.length := by
  by_cases c : ∃ x ∈ B, x ∉ A
  · obtain ⟨x, mx, nx⟩ := c
    have := sub_len (A := x :: A) (B := B) (List.nodup_cons.mpr ⟨nx, asc_nd ha⟩) fun y m => by
      rcases List.mem_cons.mp m with z | z
      · exact z ▸ mx
      · exact s y z
    rw [List.length_cons] at this
    omega
  · refine absurd (asc_ext ha hb fun x => ⟨s x, fun m => ?_⟩) ne
    by_cases q : x ∈ A
    · exact q
    · exact absurd ⟨x, m, q⟩ c
/-- of two kinds at one place one is the longer one -/
theorem kd_two {t : List Nat} {k k' : Kd} (h : IsKd t k) (h' : IsKd t k') {p : Nat} (m : p ∈ k.e) (m' : p ∈ k'.e) (ne : k.e ≠ k'.e) : (k.hi < k'.lo ∧ ∀ x ∈ k'.e, x ∈ k.e) ∨ (k'.hi < k.lo ∧ ∀ x ∈ k.e, x ∈ k'.e) := by
  have half : ∀ {k k' : Kd}, IsKd t k → IsKd t k' → p ∈ k.e → p ∈ k'.e → k.hi < k'.lo → ∀ x ∈ k'.e, x ∈ k.e := fun {k k'} h h' m m' l x mx => by
    have a := h.ends p m k.hi h.le (Nat.le_refl _)
    have b := h'.ends p m' k'.lo (Nat.le_refl _) h'.le
    have c := (h'.lt p m').2
    have d := h'.le
    rw [← a]
    rw [← b] at mx
    exact en_mono (h.lt p m).1 (by omega) (by omega) mx
  by_cases c : k.hi < k'.lo
  · exact .inl ⟨c, half h h' m m' c⟩
  · by_cases c' : k'.hi < k.lo
    · exact .inr ⟨c', half h' h m' m c'⟩
    · refine absurd ?_ ne
      have l := h.le
      have l' := h'.le
      by_cases d : k.lo ≤ k'.lo
      · rw [← h.ends p m k'.lo d (by omega), ← h'.ends p m' k'.lo (Nat.le_refl _) l']
      · rw [← h.ends p m k.lo (Nat.le_refl _) l, ← h'.ends p m' k.lo (by omega) (by omega)]
theorem kd_lam {t : List Nat} {k k' : Kd} (h : IsKd t k) (h' : IsKd t k') : Lam k.e k'.e := by
  by_cases c : ∃ p ∈ k.e, p ∈ k'.e
  · obtain ⟨p, m, m'⟩ := c
    by_cases e : k.e = k'.e
    · exact .inr (.inl fun x mx => e ▸ mx)
    · rcases kd_two h h' m m' e with z | z
      · exact .inr (.inr z.2)
      · exact .inr (.inl z.2)
  · exact .inl fun x mx my => c ⟨x, mx, my⟩
/-- how many kinds there are -/
theorem kd_count {t : List Nat} (h1 : 1 ≤ t.length) : (kdL t).length ≤ max 1 (2 * t.length - 2) := by
  have nd := kd_nd (t := t)
  have ok : ∀ A ∈ (kdL t).map Kd.e, A ≠ [] ∧ A.Pairwise (· < ·) ∧ ∀ x ∈ A, x < t.length := fun A m => by
    obtain ⟨k, mk, rfl⟩ := List.mem_map.mp m
    have h := kd_is mk
    exact ⟨h.ne, h.asc, fun x mx => (h.lt x mx).1⟩
  have lam : ∀ A ∈ (kdL t).map Kd.e, ∀ B ∈ (kdL t).map Kd.e, Lam A B := fun A mA B mB => by
    obtain ⟨k, mk, rfl⟩ := List.mem_map.mp mA
    obtain ⟨k', mk', rfl⟩ := List.mem_map.mp mB
    exact kd_lam (kd_is mk) (kd_is mk')
  by_cases c : List.range t.length ∈ (kdL t).map Kd.e
  · -- one letter alone
    obtain ⟨k, mk, e⟩ := List.mem_map.mp c
    have h := kd_is mk
    have in0 : ∀ p, p < t.length → p ∈ k.e := fun p hp => by rw [e]; exact List.mem_range.mpr hp
    have lo1 : k.lo = 1 := by
      have := (h.lt 0 (in0 0 h1)).2
      have := h.le
      have := h.pos
      omega
    -- each word is told by its length
    have one : ∀ p, p < t.length → wd t p 1 = wd t 0 1 := fun p hp => by
      have a := h.ends 0 (in0 0 h1) 1 (by omega) (by have := h.le; omega)
      have b : p ∈ en t (wd t (0 + 1 - 1) 1) := by rw [a]; exact in0 p hp
      have := (mem_en.mp b).2.2
      rw [wd_len (by omega)] at this
      simpa using this
    have at_ : ∀ p, p < t.length → t[p]? = t[0]? := fun p hp => by
      have q := one p hp
      unfold wd at q
      have := congrArg (fun l : List Nat => l[0]?) q
      simp only [List.getElem?_take, List.getElem?_drop] at this
      simpa using this
    have wds : ∀ s j, s + j ≤ t.length → wd t s j = wd t 0 j := fun s j hs => by
      apply List.ext_getElem?
      intro i
      unfold wd
      rw [List.getElem?_take, List.getElem?_take, List.getElem?_drop, List.getElem?_drop]
      by_cases hi : i < j
      · rw [if_pos hi, if_pos hi, at_ (s + i) (by omega), Nat.zero_add, at_ i (by omega)]
      · rw [if_neg hi, if_neg hi]
    have nd2 : ((kdL t).map Kd.lo).Nodup := by
      refine map_nd ((List.pairwise_map.mp nd).imp fun h e => h (congrArg _ e)) fun a ma b mb e => ?_
      refine kd_uniq ma mb ?_
      have ia := kd_is ma
      have ib := kd_is mb
      have xa := ia.ends a.p ia.hd a.lo (Nat.le_refl _) ia.le
      have xb := ib.ends b.p ib.hd b.lo (Nat.le_refl _) ib.le
      have ya := ia.lt a.p ia.hd
      have yb := ib.lt b.p ib.hd
      have za := ia.le
      have zb := ib.le
      rw [← xa, ← xb, wds _ _ (by omega), wds (b.p + 1 - b.lo) _ (by omega), e]
    have := sub_len (B := List.range' 1 t.length) nd2 fun x m => by
      obtain ⟨k, mk, rfl⟩ := List.mem_map.mp m
      have h := kd_is mk
      have a := h.lt k.p h.hd
      have b := h.le
      have := h.pos
      rw [List.mem_range'_1]
      omega
    rw [List.length_map, List.length_range'] at this
    omega
  · have := lam_bound t.length (List.range t.length :: (kdL t).map Kd.e) (List.nodup_cons.mpr ⟨c, nd⟩) (fun A m => by
      rcases List.mem_cons.mp m with rfl | m
      · refine ⟨?_, List.pairwise_lt_range, fun x mx => List.mem_range.mp mx⟩
        intro z
        have h0 := congrArg List.length z
        rw [List.length_range] at h0
        have h0 : t.length = 0 := h0
        omega
      · exact ok A m) (fun A mA B mB => by
      rcases List.mem_cons.mp mA with rfl | mA
      · rcases List.mem_cons.mp mB with rfl | mB
        · exact .inr (.inl fun _ m => m)
        · exact .inr (.inr fun x mx => List.mem_range.mpr ((ok B mB).2.2 x mx))
      · rcases List.mem_cons.mp mB with rfl | mB
        · exact .inr (.inl fun x mx => List.mem_range.mpr ((ok A mA).2.2 x mx))
        · exact lam A mA B mB)
    rw [List.length_cons, List.length_map] at this
    omega
/-! ### intervals that share out a range -/
noncomputable def Run : Nat → List (Nat × Nat) → Nat → Prop
  | r, [], m => r = m
  | r, x :: S, m => x.1 = r + 1 ∧ Run x.2 S m
theorem run_ok : ∀ (S : List (Nat × Nat)) (r m : Nat), r ≤ m → S.Pairwise (fun x y => x.2 < y.1) → (∀ x ∈ S, r < x.1 ∧ x.1 ≤ x.2 ∧ x.2 ≤ m) → (∀ j, r < j → j ≤ m → ∃ x ∈ S, x.1 ≤ j ∧ j ≤ x.2) → Run r S m
  | [], r, m, h, _, _, c => by
    show r = m
    by_cases q : r < m
    · obtain ⟨x, mx, _⟩ := c (r + 1) (by omega) (by omega)
      cases mx
    · omega
  | x :: S, r, m, h, pw, b, c => by
    rw [List.pairwise_cons] at pw
    have bx := b x List.mem_cons_self
    have e : x.1 = r + 1 := by
      obtain ⟨y, my, y1, y2⟩ := c (r + 1) (by omega) (by omega)
      rcases List.mem_cons.mp my with rfl | my
      · omega
      · have := pw.1 y my
        omega
    refine ⟨e, run_ok S x.2 m bx.2.2 pw.2 (fun y my => ?_) (fun j j1 j2 => ?_)⟩
    · have := b y (List.mem_cons_of_mem _ my)
      exact ⟨pw.1 y my, this.2⟩
    · obtain ⟨y, my, y1, y2⟩ := c j (by omega) j2
      rcases List.mem_cons.mp my with rfl | my
      · omega
      · exact ⟨y, my, y1, y2⟩
end KD
set_option linter.all false
set_option maxRecDepth 100000
namespace K03
open PD PM PF

noncomputable def c1_law_counts : Env → R D := (mLc (iArgs gR1 (mCons (m2 dAdd (m2 dSub (mN dLen (mCons (mV 0) mNil)) (mV 2)) (mC (.int 1))) mNil)) [3] (gSet 3) mYes (mSl dSl (mV 0) (mSo (mV 3)) (mSo (m2 dAdd (mV 3) (mV 2)))))
noncomputable def l1_law_counts : Env → R Fl := (sApp 1 (mN dLenSet (mCons c1_law_counts mNil)))
noncomputable def b_law_counts : Env → R Fl := (sSeq (sSet 1 (mN dLst mNil)) (sSeq (sFor (iArgs gR2 (mCons (mC (.int 1)) (mCons (m2 dAdd (mN dLen (mCons (mV 0) mNil)) (mC (.int 1))) mNil))) (gSet 2) l1_law_counts) (sRet (mV 1))))
noncomputable def m_law_counts : List D → R D := mFn 4 false b_law_counts
noncomputable def c1_law_moved_on : Env → R D := (mLc (iOf gS (mV 0)) [3] (gSet 3) mYes (mCall 1 m_law_letter (mCons (m2 dAdd (mM dFind (mV 2) (mCons (mV 3) mNil)) (mV 1)) mNil)))
noncomputable def b_law_moved_on : Env → R Fl := (sSeq (sSet 2 (mC (.str zc3fcd3d7))) (sRet (mM dJoin (mC (.str [])) (mCons c1_law_moved_on mNil))))
noncomputable def m_law_moved_on : List D → R D := mFn 4 false b_law_moved_on
noncomputable def i1_law_rises_then_falls : Env → R Fl := (sIf (mB (m2 dLt (m2 dIx (mV 0) (mV 2)) (m2 dIx (mV 0) (m2 dSub (mV 2) (mC (.int 1)))))) (sSet 1 (mC (.bl true))) sNx)
noncomputable def i2_law_rises_then_falls : Env → R Fl := (sIf (mAnd (mTru (mV 1)) (mB (m2 dNe (m2 dIx (mV 0) (mV 2)) (m2 dSub (m2 dIx (mV 0) (m2 dSub (mV 2) (mC (.int 1)))) (mC (.int 1)))))) (sRet (mC (.bl false))) sNx)
noncomputable def l1_law_rises_then_falls : Env → R Fl := (sSeq i1_law_rises_then_falls i2_law_rises_then_falls)
noncomputable def b_law_rises_then_falls : Env → R Fl := (sSeq (sSet 1 (mC (.bl false))) (sSeq (sFor (iArgs gR2 (mCons (mC (.int 1)) (mCons (mN dLen (mCons (mV 0) mNil)) mNil))) (gSet 2) l1_law_rises_then_falls) (sRet (mAndV (m2 dGt (mN dLen (mCons (mV 0) mNil)) (mC (.int 0))) (m2 dEq (m2 dIx (mV 0) (m2 dSub (mN dLen (mCons (mV 0) mNil)) (mC (.int 1)))) (mC (.int 1)))))))
noncomputable def m_law_rises_then_falls : List D → R D := mFn 3 false b_law_rises_then_falls
noncomputable def i1_law : Env → R Fl := (sIf (mB (m2 dEq (m2 dIx (mV 1) (mC (.int 0))) (mC (.int 15)))) (sSet 2 (mC (.int 60))) sNx)
noncomputable def i2_law : Env → R Fl := (sIf (mB (m2 dEq (m2 dIx (mV 1) (mC (.int 0))) (mC (.int 14)))) (sSet 3 (mSl dSl (m2 dMul (mV 3) (mC (.int 128))) mNo (mSo (m2 dAdd (mC (.int 103)) (m2 dIx (mV 1) (mC (.int 1))))))) sNx)
noncomputable def i3_law : Env → R Fl := (sIf (mB (m2 dLt (mN dLen (mCons (mV 3) mNil)) (mC (.int 103)))) (sSet 3 (m2 dAdd (mV 3) (mCall 2 m_law_moved_on (mCons (mV 3) (mCons (m2 dAdd (mC (.int 1)) (m2 dDiv (m2 dIx (mV 1) (mC (.int 1))) (mC (.int 2)))) mNil))))) sNx)
noncomputable def l1_law : Env → R Fl := i3_law
noncomputable def i4_law : Env → R Fl := (sIf (mB (m2 dEq (m2 dIx (mV 1) (mC (.int 0))) (mC (.int 13)))) (sSeq (sFor (iArgs gR1 (mCons (mC (.int 7)) mNil)) (gSet 6) l1_law) (sSet 3 (mSl dSl (mV 3) mNo (mSo (m2 dAdd (mC (.int 103)) (m2 dIx (mV 1) (mC (.int 1)))))))) sNx)
noncomputable def i5_law : Env → R Fl := (sIf (mOr (mNot (mB (mCallL 2 (m_law_same 8) (mCons (mV 7) (mCons (mV 4) mNil))))) (mNot (mB (mCallL 1 m_law_rises_then_falls (mCons (mV 7) mNil))))) (sRet (mC (.bl false))) sNx)
noncomputable def l2_law : Env → R Fl := (sSeq (sSet 7 (mCall 1 m_counts (mCons (mV 5) mNil))) (sSeq i5_law (sApp 7 (mC (.int 1)))))
noncomputable def b_law : Env → R Fl := (sSeq (sSet 1 (mCall 2 m_law_draws (mCons (mCall 2 m_law_cell (mCons (mV 0) (mCons (mC (.int 1)) mNil))) (mCons (mN dLst (mCons (mC (.int 16)) (mCons (mC (.int 26)) mNil))) mNil)))) (sSeq (sSet 2 (mC (.int 40))) (sSeq i1_law (sSeq (sSet 3 (mCall 2 m_law_text (mCons (mCall 2 m_law_cell (mCons (mV 0) (mCons (mC (.int 0)) mNil))) (mCons (mV 2) mNil)))) (sSeq i2_law (sSeq i4_law (sSeq (sSet 4 (mCall 1 m_law_counts (mCons (mV 3) mNil))) (sSeq (sFor (iOf gL (mN dLst (mCons (mV 3) (mCons (m1 dRevS (mV 3)) (mCons (mCall 2 m_law_moved_on (mCons (mV 3) (mCons (m2 dIx (mV 1) (mC (.int 1))) mNil))) (mCons (mV 3) mNil)))))) (gSet 5) l2_law) (sRet (mC (.bl true)))))))))))
noncomputable def m_law : List D → R D := mFn 8 false b_law
end K03
set_option linter.all false
set_option maxRecDepth 100000
set_option maxHeartbeats 1000000
namespace K03
open PD PM PF
theorem word_at {s : List Nat} {m i j k : Nat} (h : wordAt s m i = wordAt s m j) (hk : k < m) : s[i + k]? = s[j + k]? := by
  have := congrArg (fun w => w[k]?) h
  simp only [wordAt_get, if_pos hk] at this
  exact this
end K03
set_option linter.all false
set_option maxRecDepth 100000
set_option maxHeartbeats 1000000
namespace K03
open PD PM PF
/-- a letter moved on, and back -/
noncomputable def mv (b c : Nat) : Nat := 97 + (c - 97 + b) % 26
noncomputable def bk (b c : Nat) : Nat := 97 + (c - 97 + (26 - b % 26)) % 26
theorem slices_ok {s : List Nat} {m : Nat} {o1 : Option D} (hs : s.length ≤ 1000) (h : m ≤ s.length) :
    lcGo (gSet 3) mYes (mSl dSl (mV 0) (mSo (mV 3)) (mSo (m2 dAdd (mV 3) (mV 2)))) [some (.str s), o1, some (.int m), none] (rngL 0 (s.length + 1 - m)) = .ok ((wordsOf s m).map D.str) := by
  rw [rngL0, List.map_map]
  have := lc_fm (T := gSet 3) (ft := mYes) (fe := mSl dSl (mV 0) (mSo (mV 3)) (mSo (m2 dAdd (mV 3) (mV 2)))) (ρ := [some (.str s), o1, some (.int m), none]) (fun i : Nat => D.int i) (fun _ => true) (fun i : Nat => D.str (wordAt s m i)) (xs := List.range (s.length + 1 - m)) fun i mi => ⟨_, rfl, rfl, fun _ => by
    have c : dSl (.str s) (some (i : Int)) (some ((i : Int) + m)) = some (.str (wordAt s m i)) := by
      rw [dSl_s (by rw [LNe]; omega), cut_both (by omega) (by omega), Int.toNat_natCast, show ((i : Int) + m).toNat - i = m by omega]
      rfl
    simp [c]⟩
  refine Eq.trans this ?_
  rw [List.filter_eq_self.mpr (fun _ _ => rfl)]
  unfold wordsOf
  rw [List.map_map]
  rfl
theorem lenSet_ok {zs : List (List Nat)} (h : zs.length ≤ 4000) : dLenSet [.lst (zs.map D.str)] = some (.int ((ded [] zs).length : Nat)) := by
  have e : strsOf (zs.map D.str) = some zs := by
    have := strsOf_map (f := fun z : List Nat => z) (xs := zs)
    rw [List.map_id'] at this
    exact this
  show (match strsOf (zs.map D.str) with | some zs => _ | none => _) = _
  rw [e]
  exact if_pos h
theorem law_counts_ok {s : List Nat} (hs : s.length ≤ 1000) : m_law_counts [.str s] = .ok (.lst ((cnts s).map .int)) := by
  have l := dLen_s (s := s) (by rw [LNe]; omega)
  have g := gR2_ok (i := 1) (j := (s.length : Int) + 1) (by rw [LRe]; omega) (by rw [LRe]; omega) (by rw [LRe]; omega) (by rw [LRe]; omega)
  rw [show ((s.length : Int) + 1 - 1).toNat = s.length by omega] at g
  obtain ⟨ρ', e, o2, o3, rfl⟩ := loop_inv (T := gSet 2) (b := l1_law_counts) (fun j ρ => ∃ o2 o3, ρ = [some (.str s), some (.lst (((cnts s).take j).map .int)), o2, o3]) (rngL 1 s.length) 0 [some (.str s), some (.lst []), none, none] ⟨none, none, rfl⟩ (by
    rintro j d ρ hj ⟨o2, o3, rfl⟩
    obtain ⟨hjl, rfl⟩ := rngL_get hj
    rw [Nat.zero_add]
    have r := slices_ok (s := s) (m := j + 1) (o1 := some (.lst (((cnts s).take j).map .int))) hs (by omega)
    have wl := words_len (s := s) (m := j + 1)
    have k := kLn_ok (xs := (wordsOf s (j + 1)).map D.str) (by rw [List.length_map, LNe]; omega)
    have ls := lenSet_ok (zs := wordsOf s (j + 1)) (by omega)
    have g1 := gR1_ok (j := (s.length : Int) - ((1 : Int) + j) + 1) (by rw [LRe]; omega) (by rw [LRe]; omega)
    rw [show ((s.length : Int) - ((1 : Int) + j) + 1).toNat = s.length + 1 - (j + 1) by omega] at g1
    rw [show ((j + 1 : Nat) : Int) = 1 + (j : Int) by omega] at r
    have tk : (cnts s).take (j + 1) = (cnts s).take j ++ [(cnt s (j + 1) : Int)] := by
      rw [List.take_add_one]
      unfold cnts
      simp [List.getElem?_range hjl]
    have tl : (((cnts s).take j).map D.int).length < LN := by rw [List.length_map, List.length_take, LNe]; omega
    have ce : (ded [] (wordsOf s (j + 1))).length = cnt s (j + 1) := rfl
    rw [ce] at ls
    rw [tk, List.map_append]
    generalize ((cnts s).take j).map D.int = ac at *
    generalize (wordsOf s (j + 1)).map D.str = ws at *
    refine ⟨[some (.str s), some (.lst ac), some (.int (1 + j)), o3], [some (.str s), some (.lst (ac ++ [D.int (cnt s (j + 1) : Nat)])), some (.int (1 + j)), o3], rfl, ?_, some (.int (1 + j)), o3, rfl⟩
    simp only [l1_law_counts, c1_law_counts]
    rw [Nat.add_sub_add_right] at r g1
    simp [l, g1, r, k, ls, kApp_ok tl])
  simp only [m_law_counts, mFn_eq, b_law_counts]
  rw [Nat.zero_add, rngL_length, List.take_of_length_le (by unfold cnts; rw [List.length_map, List.length_range]; omega)] at e
  have dl : dLst [] = some (.lst []) := dLst_ok (Nat.zero_le _)
  simp [l, g, e, dl]
end K03
open PD PM in
local macro_rules
  | `(tactic| exists $es,*) => `(tactic| simp (disch := (first | assumption | omega | (simp only [LNe, LRe, rngL_length, List.length_map, List.length_append, List.length_take, List.length_drop, List.length_range, List.length_range', List.length_cons, List.length_nil, List.length_reverse, List.length_replicate, List.length_set, Int.toNat_natCast, Nat.reduceAdd, Nat.reduceLeDiff]; first | done | omega) | decide)) only [o_nx, o_rt, o_bk, o_ct, o_ex, ot_some, List.map_cons, List.map_nil, List.length_cons, List.length_nil, Nat.reduceAdd, Nat.reduceSub, Nat.reduceMul, Nat.reduceLT, Int.reduceAdd, Int.reduceSub, Int.reduceMul, Int.reduceNeg, Int.reduceToNat, Int.toNat_natCast, Nat.zero_add, List.replicate, List.cons_append, List.nil_append, List.set_cons_zero, List.set_cons_succ, List.getElem?_cons_zero, List.getElem?_cons_succ, Option.map_some, mFn_eq, kCl1, kCl2, kCl3, kCl4, ite_true, ite_false, Bool.not_true, Bool.not_false, reduceIte, isAtom_bl, isAtom_i, isAtom_s, isAtom_n, List.getElem?_nil, Bool.false_eq_true, eq_self, not_true_eq_false, not_false_eq_true, decide_true, decide_false, Bool.true_eq_false, kAtL_ok, reduceCtorEq, oR_some, oR_none, okb, mV_0, mV_s, mC_eq, k1_ok, m1_eq, k2_ok, m2_eq, kN_ok, mN_eq, iArgs_eq, kO_ok, iOf_eq, mB_eq, mTru_eq, mSo_eq, mNo_eq, mNil_eq, kC_ok, mCons_eq, dBool_bl, dInt?_int, kIf_t, kIf_f, mIf_eq, kAnd_t, kAnd_f, mAnd_eq, kOr_t, kOr_f, mOr_eq, kNot_ok, mNot_eq, kAndV_t, kAndV_f, mAndV_eq, kOrV_t, kOrV_f, mOrV_eq, kCh0_ok, kCh_t, kCh_f, mChain_eq, kAt_ok, mAt_eq, kSl_ok, mSl_eq, kM_ok, mM_eq, mCall_eq, noF_ok, noF_err, kClA_ok, mCallA_eq, kG_ok, kG_err, kClL_ok, mCallL_eq, kOb_ok, kOb_err, kMk_ok1, kMk_ok2, mMake_eq, kMkL_ok1, kMkL_ok2, mMakeL_eq, mMeth_eq, mMeth0_eq, gSq_l, gSq_t, gSq_s, gEn_l, dIsC_o, kS_nx, kS_rt, kS_bk, kS_ct, kS_ex, sSeq_eq, sNx_eq, sBk_eq, sCt_eq, sRaise_eq, sRetN_eq, kSet_ok, kSet_err, sSet_eq, kDrop_ok, kDrop_err, sDrop_eq, kRet_ok, kRet_err, sRet_eq, kIfS_t, kIfS_f, sIf_eq, kFor_ok, sFor_eq, getL_0, getL_s, sApp_eq, gSet_eq, kLc_ok, mLc_eq, wipeD_1, mYes_eq, kF_rt, kF_nx, kF_ex, dAdd_i, dSub_i, dNeg_i, dLt_i, dLe_i, dGt_i, dGe_i, dEq_b, dNot_b, dAbs_i, dMin2_i, dMax2_i, dInt1_i, dInt1_b, dLen_l, dLen_t, dLen_c, gL_l, gT_t, gS_s, dSl_l, dSlL_l, dFind_s, dAllS_s, dIsi_non, dIsi_bl, dIsi_int, dIsi_str, dIsi_lst, dIsi_tup, isN_non, isN_int, isN_str, isN_lst, isN_tup, isN_bl, notN_non, notN_int, notN_str, notN_lst, notN_tup, dIx_lit, dIx_litT, isi_1, isi_2, isi_3, isi_4, isi_5, isb_1, isb_2, isb_3, isb_4, isb_5, iss_1, iss_2, iss_3, iss_4, iss_5, isl_1, isl_2, isl_3, isl_4, isl_5, ist_1, ist_2, ist_3, ist_4, ist_5, isn_1, isn_2, isn_3, isn_4, isn_5, kT2_rt, endN_rt, endN_nx, clrI_s, clrI_n, mAtL_eq, kAtL_err, kC_err, kC_err1, kN_err, kCl_err, dListOf_l, dListOf_t, dTupOf_l, dTupOf_t, dRevL_l, r_kIf_p, r_kIf_n, r_kIfS_p, r_kIfS_n, r_kAnd_p, r_kAnd_n, r_kOr_p, r_kOr_n, r_kAndV_p, r_kAndV_n, r_kOrV_p, r_kOrV_n, r_kNot, r_dNot, r_kCh_p, r_kCh_n, r_not_t, r_bnot, r_eq_i, r_ne_i, r_eq_s, r_ne_s, r_mul, r_div, r_ixn, r_ixtn, r_ixsn, r_ixc, r_len_s, r_add_s, r_add_l, r_cat_l, r_lst, r_tup, r_R1, r_R1n, r_R2, r_sl_s, r_app, r_kLn, r_sExt, r_kExt, r_sPop, r_kPop, r_sSI, r_kSI, r_kSIl, r_ixl, r_sAug, r_kAug, r_kOS, r_sPar, r_kPar, r_sAsg, r_kAsg, r_kTo, r_gTup, r_gsNil, r_gsCons, r_kGs, r_tru0, r_truc, r_trus, r_trub, r_trun, r_sFI, r_kFI, r_kInit, r_kInitX, $[$es:term],*])
set_option linter.all false
set_option maxRecDepth 100000
set_option maxHeartbeats 1000000
namespace PN
open PD PM
theorem pc_ne : (z8e13ffc9 = z12cba3ee) = False := by simp [z8e13ffc9, z12cba3ee]
theorem cp_ne : (z12cba3ee = z8e13ffc9) = False := by simp [z8e13ffc9, z12cba3ee]
/-! ### sources and letters -/
noncomputable def oD : Option Nat → D
  | none => .non
  | some k => .int (k : Nat)
noncomputable def src1 : Ph → List (Option Nat)
  | .put _ => [none]
  | .copy s n => (List.range n).map fun i => some (s + i)
noncomputable def srcs (ps : List Ph) : List (Option Nat) := (ps.map src1).flatten
theorem src1_len {p : Ph} : (src1 p).length = p.len := by
  cases p with
  | put c => rfl
  | copy s n => unfold src1 Ph.len; rw [List.length_map, List.length_range]
section
variable {s : D} {ps : List Ph}
theorem step_ok (st n : Nat) (hn : n ≤ 1000) {o1 o3 : Option D} : c1_sources_of [some s, o1, some (Ph.copy st n).d, o3] = .ok (.lst ((src1 (.copy st n)).map oD)) := by
  have e : lcGo (gSet 3) mYes (m2 dAdd (m2 dIx (mV 2) (mC (.int 1))) (mV 3)) [some s, o1, some (Ph.copy st n).d, none] (rngL 0 n) = .ok ((src1 (.copy st n)).map oD) := by
    rw [rngL0, List.map_map]
    have := lc_fm (T := gSet 3) (ft := mYes) (fe := m2 dAdd (m2 dIx (mV 2) (mC (.int 1))) (mV 3)) (ρ := [some s, o1, some (Ph.copy st n).d, none]) (fun i : Nat => D.int i) (fun _ => true) (fun i : Nat => D.int (st + i : Nat)) (xs := List.range n) fun i mi => ⟨_, rfl, rfl, fun _ => by
      exists Ph.d
      rfl⟩
    refine Eq.trans this ?_
    rw [List.filter_eq_self.mpr (fun _ _ => rfl)]
    unfold src1
    rw [List.map_map]
    rfl
  have l : ((src1 (.copy st n)).map oD).length ≤ 1000000 := by rw [List.length_map, src1_len]; show n ≤ 1000000; omega
  generalize (src1 (.copy st n)).map oD = ys at *
  simp only [Ph.d] at e ⊢
  exists c1_sources_of, e
end
/-! ### the check, the press -/
theorem intsOf_map {ns : List Int} : intsOf (ns.map D.int) = some ns := by
  induction ns with
  | nil => rfl
  | cons n ns ih =>
    show (intsOf (ns.map D.int)).map (n :: ·) = _
    rw [ih]; rfl
theorem dSumL_ok {ns : List Int} : dSumL [.lst (ns.map D.int)] = some (.int ns.sum) := by
  show (match intsOf (ns.map D.int) with | some ns => _ | none => _) = _
  rw [intsOf_map]
end PN
set_option linter.all false
set_option maxRecDepth 100000
set_option maxHeartbeats 1000000
namespace PN
open PD PM
/-! ### lists compared by == -/
theorem toPs_map {α : Type} {f : α → D} : ∀ {xs : List α}, toPs (xs.map f) = xs.map fun a => toP (f a)
  | [] => rfl
  | x :: xs => by
    have ih := toPs_map (f := f) (xs := xs)
    rw [List.map_cons, List.map_cons, ← ih]
    exact toPs.eq_2 ..
theorem eqv_map {α : Type} [DecidableEq α] {f : α → PySem.PyData} : ∀ {xs ys : List α}, (∀ a ∈ xs, ∀ b ∈ ys, PySem.PyData.eqv (f a) (f b) = decide (a = b)) → PySem.PyData.eqvAll (xs.map f) (ys.map f) = decide (xs = ys)
  | [], [], _ => rfl
  | [], y :: ys, _ => rfl
  | x :: xs, [], _ => rfl
  | x :: xs, y :: ys, h => by
    have ih := eqv_map (f := f) (xs := xs) (ys := ys) fun a ma b mb => h a (List.mem_cons_of_mem _ ma) b (List.mem_cons_of_mem _ mb)
    have h0 := h x List.mem_cons_self y List.mem_cons_self
    rw [List.map_cons, List.map_cons]
    unfold PySem.PyData.eqvAll
    rw [h0, ih]
    by_cases a : x = y
    · by_cases b : xs = ys
      · simp [a, b]
      · simp [a, b]
    · simp [a]
/-- an atom that == can compare -/
structure FlatP (d : PySem.PyData) : Prop where
  c : d.canLay0 = true
  z : d.depth = 0
/-! ### _law_same on two lists -/
end PN
set_option linter.all false
set_option maxRecDepth 100000
set_option maxHeartbeats 2000000
/-! # sorting, in plain words -/
namespace PD
open PySem PySem.W
theorem toP_int {i : Int} : toP (.int i) = .int i := by unfold toP; rfl
theorem toP_tup {xs : List D} : toP (.tup xs) = .tuple (toPs xs) := by unfold toP; rfl
theorem toPs_2 {x y : D} : toPs [x, y] = [toP x, toP y] := by unfold toPs; unfold toPs; unfold toPs; rfl
theorem mKeys_map {α : Type} {fk : Env → R D} {ρ : Env} (e k : α → D) : ∀ {xs : List α}, (∀ x ∈ xs, fk (some (e x) :: ρ) = .ok (k x)) → mKeys fk ρ (xs.map e) = .ok (xs.map k)
  | [], _ => rfl
  | x :: xs, h => by
    rw [List.map_cons, List.map_cons]
    unfold mKeys
    rw [h x (List.mem_cons_self ..)]
    dsimp only
    rw [mKeys_map e k fun y m => h y (List.mem_cons_of_mem _ m)]
    rfl
theorem sortBy_map {α : Type} (e k : α → D) (r : α → α → Bool) {xs : List α} (h : ∀ a ∈ xs, ∀ b ∈ xs, (!dataLt (toP (k b)) (toP (k a))) = r a b) : sortBy (xs.map e) (xs.map k) = (xs.mergeSort r).map e := by
  have z : (xs.map e).zip ((xs.map k).map toP) = xs.map fun x => (e x, toP (k x)) := by
    rw [List.map_map, List.zip_map]
    have : ∀ ys : List α, (ys.zip ys).map (Prod.map e (toP ∘ k)) = ys.map fun x => (e x, toP (k x)) := fun ys => by
      induction ys with
      | nil => rfl
      | cons y ys ih => rw [List.zip_cons_cons, List.map_cons, List.map_cons, ih]; rfl
    exact this xs
  unfold sortBy
  rw [z, ← sort_maps (r := r) (s := dataLe false Prod.snd) (fun x => (e x, toP (k x))) (fun a ma b mb => by
    rw [dataLe_eq]
    exact (h a ma b mb).symm), List.map_map]
  rfl
end PD
set_option linter.all false
set_option maxRecDepth 100000
namespace PH
open PD PM PN

noncomputable def i1_law_ends : Env → R Fl := (sIf (mB (m2 dEq (m2 dIx (mV 3) (mC (.int 0))) (mC (.str z8e13ffc9)))) (sSet 2 (m2 dAdd (mV 2) (mC (.int 1)))) (sSet 2 (m2 dAdd (mV 2) (m2 dIx (mV 3) (mC (.int 2))))))
noncomputable def l1_law_ends : Env → R Fl := (sSeq i1_law_ends (sApp 1 (mV 2)))
noncomputable def b_law_ends : Env → R Fl := (sSeq (sSet 1 (mN dLst mNil)) (sSeq (sSet 2 (m1 dNeg (mC (.int 1)))) (sSeq (sFor (iOf gSq (mV 0)) (gSet 3) l1_law_ends) (sRet (mV 1)))))
noncomputable def m_law_ends : List D → R D := mFn 4 false b_law_ends
end PH
set_option linter.all false
set_option maxRecDepth 100000
set_option maxHeartbeats 2000000
namespace PH
open PD PM PN
/-! ### ways to letters -/
noncomputable def nxt (S : List (Option Nat)) (p : Nat) : Option Nat := (S[p]?).join
noncomputable def way (S : List (Option Nat)) : Nat → Nat → Option Nat
  | 0, _ => none
  | f + 1, p => match nxt S p with
    | none => some p
    | some q => way S f q
end PH
set_option linter.all false
set_option maxRecDepth 100000
set_option maxHeartbeats 2000000
namespace PH
open PD PM PN
/-! ### rings taken out -/
noncomputable def cps : List Ph → Nat
  | [] => 0
  | .put _ :: ps => cps ps
  | .copy _ _ :: ps => cps ps + 1
end PH
set_option linter.all false
set_option maxRecDepth 100000
set_option maxHeartbeats 2000000
namespace PH
open PD PM PN
/-- phrases of which every position has a way to a letter -/
structure Good (ps : List Ph) (z : Nat) : Prop where
  tt : tot ps = z
  ok : ∀ p ∈ ps, PhOk z p
  wy : ∀ p, p < z → way (srcs ps) (z + 1) p ≠ none
end PH
set_option linter.all false
set_option maxRecDepth 100000
set_option maxHeartbeats 2000000
namespace PH
open PD PM PN
/-- the last positions -/
theorem ends_ok {z : Nat} {ps : List Ph} (hok : ∀ p ∈ ps, PhOk z p) (ht : tot ps ≤ 900) (hne : ps ≠ []) : ∃ es : List Nat, m_law_ends [.lst (ps.map Ph.d)] = .ok (.lst (es.map fun e : Nat => D.int e)) ∧ es.Pairwise (· < ·) ∧ (∀ e ∈ es, e < tot ps) ∧ es.length = ps.length := by
  have lps := len_le hok
  obtain ⟨ρ', e, es, o3, rfl, h1, h2, h3⟩ := loop_pre (T := gSet 3) (b := l1_law_ends) (fun pre ρ => ∃ (es : List Nat) (o3 : Option D), ρ = [some (.lst (ps.map Ph.d)), some (.lst (es.map fun e : Nat => D.int e)), some (.int ((tot pre : Int) - 1)), o3] ∧ es.Pairwise (· < ·) ∧ (∀ e ∈ es, e < tot pre) ∧ es.length = pre.length) Ph.d ps
    [some (.lst (ps.map Ph.d)), some (.lst []), some (.int (-1)), none] ⟨[], none, rfl, .nil, nofun, rfl⟩ (by
    rintro pre a post ρ hp ⟨es, o3, rfl, q1, q2, q3⟩
    have hl : tot pre + a.len ≤ 900 := by rw [hp, tot_app, tot_cons] at ht; omega
    have al := (hok a (by rw [hp]; simp)).pos
    have tq : tot (pre ++ [a]) = tot pre + a.len := by rw [tot_app]; rfl
    have pl : pre.length ≤ tot pre := len_le (size := z) fun p m => hok p (by rw [hp]; exact List.mem_append_left _ m)
    rw [show gSet 3 a.d [some (.lst (ps.map Ph.d)), some (.lst (es.map fun e : Nat => D.int e)), some (.int ((tot pre : Int) - 1)), o3] = some [some (.lst (ps.map Ph.d)), some (.lst (es.map fun e : Nat => D.int e)), some (.int ((tot pre : Int) - 1)), some a.d] from rfl, ot_some]
    have tl : (es.map fun e : Nat => D.int e).length < 1000000 := by rw [List.length_map]; omega
    have fin : ∃ (es' : List Nat) (p3 : Option D), ([some (.lst (ps.map Ph.d)), some (.lst ((es.map fun e : Nat => D.int e) ++ [.int ((tot pre : Int) - 1 + a.len)])), some (.int ((tot pre : Int) - 1 + a.len)), some a.d] : Env) = [some (.lst (ps.map Ph.d)), some (.lst (es'.map fun e : Nat => D.int e)), some (.int ((tot (pre ++ [a]) : Int) - 1)), p3] ∧ es'.Pairwise (· < ·) ∧ (∀ e ∈ es', e < tot (pre ++ [a])) ∧ es'.length = (pre ++ [a]).length := by
      refine ⟨es ++ [tot pre + a.len - 1], some a.d, ?_, ?_, ?_, ?_⟩
      · rw [List.map_append, tq, show (((tot pre + a.len : Nat)) : Int) - 1 = (tot pre : Int) - 1 + a.len by omega]
        simp only [List.map_cons, List.map_nil]
        rw [show (((tot pre + a.len - 1 : Nat)) : Int) = (tot pre : Int) - 1 + a.len by omega]
      · exact List.pairwise_append.mpr ⟨q1, by simp, fun x mx y my => by rw [List.mem_singleton.mp my]; have := q2 x mx; omega⟩
      · intro x mx
        rw [tq]
        rcases List.mem_append.mp mx with mx | mx
        · have := q2 x mx; omega
        · rw [List.mem_singleton.mp mx]; omega
      · rw [List.length_append, List.length_append, q3]; rfl
    clear hok hp
    generalize ps.map Ph.d = pd at *
    generalize (es.map fun e : Nat => D.int e) = ed at *
    cases a with
    | put c =>
      simp only [Ph.len, Ph.d, show ((1 : Nat) : Int) = 1 from rfl] at *
      exists l1_law_ends, i1_law_ends, pc_ne, cp_ne
      exact fin
    | copy s n =>
      simp only [Ph.len, Ph.d] at *
      exists l1_law_ends, i1_law_ends, pc_ne, cp_ne
      exact fin)
  refine ⟨es, ?_, h1, h2, h3⟩
  have gs : gSq (.lst (ps.map Ph.d)) = some (ps.map Ph.d) := rfl
  have dl : dLst [] = some (.lst []) := dLst_ok (Nat.zero_le _)
  generalize (es.map fun e : Nat => D.int e) = ed at *
  generalize ps.map Ph.d = pd at *
  exists m_law_ends, b_law_ends, dl, gs, e
end PH
set_option linter.all false
set_option maxRecDepth 100000
set_option maxHeartbeats 4000000
namespace PH
open PD PM PN
theorem sumN {ls : List Nat} : dSumL [.lst (ls.map fun x : Nat => D.int x)] = some (.int (ls.sum : Nat)) := by
  have e : (ls.map fun x : Nat => D.int x) = (ls.map fun x : Nat => (x : Int)).map D.int := by rw [List.map_map]; rfl
  have s : (ls.map fun x : Nat => (x : Int)).sum = (ls.sum : Nat) := by
    induction ls with
    | nil => rfl
    | cons a l ih =>
      rw [List.map_cons, List.sum_cons, List.sum_cons, Int.natCast_add, ih (by rw [List.map_map]; rfl)]
  rw [e, dSumL_ok, s]
end PH
set_option linter.all false
set_option maxRecDepth 100000
set_option maxHeartbeats 4000000
/-! # ends_by_word, lengths_by_ends, kinds -/
namespace KD
open PD PM PY
noncomputable def iD (n : Nat) : D := .int n
/-! ### dicts -/
section dict
variable {α κ : Type} [DecidableEq α] [DecidableEq κ] {f : α → κ} {g : α → D}
theorem dget_map (hf : ∀ a b, f a = f b → a = b) {a : α} : ∀ {K : List α}, dgetV (K.map f) (K.map g) (f a) = if a ∈ K then some (g a) else none
  | [] => by simp [dgetV]
  | x :: K => by
    have ih := dget_map hf (a := a) (K := K)
    unfold dgetV at ih ⊢
    rw [List.map_cons, List.map_cons, List.zip_cons_cons, List.find?_cons]
    by_cases h : x = a
    · subst h; simp
    · have e : decide (f x = f a) = false := decide_eq_false fun z => h (hf _ _ z)
      rw [e]
      show Option.map _ (List.find? _ _) = _
      rw [ih]
      have : (a ∈ x :: K) ↔ a ∈ K := by simp [show ¬ a = x from fun z => h z.symm]
      simp only [this]
theorem mem_mapf (hf : ∀ a b, f a = f b → a = b) {a : α} {K : List α} : f a ∈ K.map f ↔ a ∈ K := by
  rw [List.mem_map]
  exact ⟨fun ⟨x, m, e⟩ => hf _ _ e ▸ m, fun m => ⟨a, m, rfl⟩⟩
theorem dputK_map (hf : ∀ a b, f a = f b → a = b) {a : α} {K : List α} : dputK (K.map f) (f a) = (addK K a).map f := by
  unfold dputK addK
  by_cases h : a ∈ K
  · rw [if_pos h, if_pos ((mem_mapf hf).mpr h)]
  · rw [if_neg h, if_neg fun z => h ((mem_mapf hf).mp z), List.map_append]; rfl
theorem dputV_map (hf : ∀ a b, f a = f b → a = b) {a : α} {K : List α} {d : D} : dputV (K.map f) (K.map g) (f a) d = (addK K a).map fun x => if x = a then d else g x := by
  unfold dputV addK
  by_cases h : a ∈ K
  · rw [if_pos h, if_pos ((mem_mapf hf).mpr h), List.zip_map', List.map_map]
    refine List.map_congr_left fun x _ => ?_
    show (if f x = f a then d else g x) = _
    by_cases e : x = a
    · subst e; rw [if_pos rfl, if_pos rfl]
    · rw [if_neg e, if_neg fun z => e (hf _ _ z)]
  · rw [if_neg h, if_neg fun z => h ((mem_mapf hf).mp z), List.map_append]
    refine congr (congrArg _ (List.map_congr_left fun x m => ?_)) ?_
    · show g x = _
      rw [if_neg fun e : x = a => h (e ▸ m)]
    · show [d] = [if a = a then d else g a]
      rw [if_pos rfl]
end dict
theorem s_inj : ∀ a b : List Nat, DKey.s a = DKey.s b → a = b := fun a b h => DKey.s.inj h
theorem kIx_map {w : List Nat} : ∀ {K : List (List Nat)}, w ∈ K → ∃ m, kIx (K.map DKey.s) (.s w) = some m ∧ K[m]? = some w
  | [], h => by cases h
  | x :: K, h => by
    by_cases e : x = w
    · subst e
      exact ⟨0, by rw [List.map_cons]; unfold kIx; rw [if_pos rfl], rfl⟩
    · have h' : w ∈ K := by
        rcases List.mem_cons.mp h with z | z
        · exact absurd z.symm e
        · exact z
      obtain ⟨m, h1, h2⟩ := kIx_map h'
      exact ⟨m + 1, by rw [List.map_cons]; unfold kIx; rw [if_neg (fun z => e (s_inj _ _ z)), h1]; rfl, by rw [List.getElem?_cons_succ]; exact h2⟩
theorem kIx_no {w : List Nat} : ∀ {K : List (List Nat)}, w ∉ K → kIx (K.map DKey.s) (.s w) = none
  | [], _ => rfl
  | x :: K, h => by
    rw [List.map_cons]; unfold kIx
    rw [if_neg (fun z => h (by rw [s_inj _ _ z]; exact List.mem_cons_self)), kIx_no fun m => h (List.mem_cons_of_mem _ m)]; rfl
theorem set_nd {α β : Type} [DecidableEq α] {g : α → β} {a : α} {v : β} : ∀ {K : List α} {m : Nat}, K.Nodup → K[m]? = some a → (K.map g).set m v = K.map fun x => if x = a then v else g x
  | [], _, _, h => by cases h
  | x :: K, 0, nd, h => by
    cases h
    rw [List.map_cons, List.map_cons, List.set_cons_zero, if_pos rfl]
    congr 1
    refine List.map_congr_left fun y m => ?_
    rw [if_neg fun z : y = a => (List.nodup_cons.mp nd).1 (z ▸ m)]
  | x :: K, m + 1, nd, h => by
    rw [List.getElem?_cons_succ] at h
    have hm : a ∈ K := List.mem_of_getElem? h
    rw [List.map_cons, List.map_cons, List.set_cons_succ, set_nd (List.nodup_cons.mp nd).2 h, if_neg fun z : x = a => (List.nodup_cons.mp nd).1 (z ▸ hm)]
/-! ### ends_by_word -/
noncomputable def posD (L : List (List Nat × Nat)) (w : List Nat) : D := .lst ((vl L w).map iD)
noncomputable def eD (L : List (List Nat × Nat)) : D := .dic ((ky (L.map (·.1))).map DKey.s) ((ky (L.map (·.1))).map (posD L))
theorem in_ok {L : List (List Nat × Nat)} {w : List Nat} {o0 o2 o3 : Option D} : mDIn 1 (mV 4) [o0, some (eD L), o2, o3, some (.str w)] = .ok (.bl (decide (w ∈ ky (L.map (·.1))))) := by
  show R.ok (D.bl (dgetV ((ky (L.map (·.1))).map DKey.s) ((ky (L.map (·.1))).map (posD L)) (.s w)).isSome) = _
  rw [dget_map s_inj]
  by_cases h : w ∈ ky (L.map (·.1))
  · rw [if_pos h, decide_eq_true h]; rfl
  · rw [if_neg h, decide_eq_false h]; rfl
theorem eD_snoc {L : List (List Nat × Nat)} {w : List Nat} {e : Nat} : eD (L ++ [(w, e)]) = .dic ((addK (ky (L.map (·.1))) w).map DKey.s) ((addK (ky (L.map (·.1))) w).map fun x => if x = w then .lst ((vl L w).map iD ++ [iD e]) else posD L x) := by
  unfold eD
  rw [List.map_append]
  show D.dic ((ky (L.map (·.1) ++ [w])).map DKey.s) ((ky (L.map (·.1) ++ [w])).map _) = _
  rw [ky_snoc]
  congr 1
  refine List.map_congr_left fun x _ => ?_
  unfold posD
  rw [vl_snoc]
  by_cases h : w = x
  · rw [if_pos h, if_pos h.symm, List.map_append, h]; rfl
  · rw [if_neg h, if_neg fun z => h z.symm]
theorem step_ok {L : List (List Nat × Nat)} {w : List Nat} {stop : Nat} {o0 o3 : Option D} (hl : L.length < 1000000) (hp : 1 ≤ stop) : i1_ends_by_word [o0, some (eD L), some (iD stop), o3, some (.str w)] = .ok (.nx [o0, some (eD (L ++ [(w, stop - 1)])), some (iD stop), o3, some (.str w)]) := by
  have c := in_ok (L := L) (w := w) (o0 := o0) (o2 := some (iD stop)) (o3 := o3)
  have sb : m2 dSub (mV 2) (mC (.int 1)) [o0, some (eD L), some (iD stop), o3, some (.str w)] = .ok (iD (stop - 1)) := by
    have : ((stop : Nat) : Int) - 1 = ((stop - 1 : Nat) : Int) := by omega
    unfold iD
    generalize eD L = E at *
    exists this
  have k1 := ky_len (L := L.map (·.1))
  rw [List.length_map] at k1
  have k2 := vl_len (L := L) (a := w)
  by_cases h : w ∈ ky (L.map (·.1))
  · obtain ⟨m, h1, h2⟩ := kIx_map h
    have ap : sDLApp 1 (mV 4) (m2 dSub (mV 2) (mC (.int 1))) [o0, some (eD L), some (iD stop), o3, some (.str w)] = .ok (.nx [o0, some (eD (L ++ [(w, stop - 1)])), some (iD stop), o3, some (.str w)]) := by
      unfold sDLApp
      show (match kIx ((ky (L.map (·.1))).map DKey.s) (.s w) with | some m => _ | none => _) = _
      rw [h1]
      dsimp only
      have g : ((ky (L.map (·.1))).map (posD L))[m]? = some (posD L w) := by rw [List.getElem?_map, h2]; rfl
      rw [g]
      unfold posD
      dsimp only
      rw [sb]
      show (if ((vl L w).map iD).length < LN then _ else _) = _
      rw [if_pos (by rw [List.length_map, LNe]; omega)]
      show R.ok (Fl.nx [o0, some (.dic _ (((ky (L.map (·.1))).map (posD L)).set m _)), some (iD stop), o3, some (.str w)]) = _
      rw [eD_snoc, set_nd nd_ky h2]
      unfold addK
      rw [if_pos h]
    unfold i1_ends_by_word
    rw [sIf_eq]
    have c2 : mB (mDIn 1 (mV 4)) [o0, some (eD L), some (iD stop), o3, some (.str w)] = .ok (decide (w ∈ ky (L.map (·.1)))) := by
      unfold mB; rw [c]; rfl
    rw [c2, r_kIfS_p h]
    exact ap
  · have ap : sDLPut 1 (mV 4) (mN dLst (mCons (m2 dSub (mV 2) (mC (.int 1))) mNil)) [o0, some (eD L), some (iD stop), o3, some (.str w)] = .ok (.nx [o0, some (eD (L ++ [(w, stop - 1)])), some (iD stop), o3, some (.str w)]) := by
      have v : mN dLst (mCons (m2 dSub (mV 2) (mC (.int 1))) mNil) [o0, some (eD L), some (iD stop), o3, some (.str w)] = .ok (.lst [iD (stop - 1)]) := by
        unfold mN mCons
        rw [sb]; rfl
      unfold sDLPut
      rw [v]
      show (if ((ky (L.map (·.1))).map DKey.s).length < LN ∧ kIx ((ky (L.map (·.1))).map DKey.s) (.s w) = none then _ else _) = _
      rw [if_pos ⟨by rw [List.length_map, LNe]; omega, kIx_no h⟩]
      show R.ok (Fl.nx [o0, some (.dic _ _), some (iD stop), o3, some (.str w)]) = _
      rw [eD_snoc]
      unfold addK
      rw [if_neg h, List.map_append, List.map_append]
      have e1 : (ky (L.map (·.1))).map (posD L) = (ky (L.map (·.1))).map fun x => if x = w then .lst ((vl L w).map iD ++ [iD (stop - 1)]) else posD L x := List.map_congr_left fun x m => by
        rw [if_neg fun z : x = w => h (z ▸ m)]
      have e2 : vl L w = [] := vl_nil_of fun m => h (mem_ky.mpr m)
      rw [← e1]
      show _ = R.ok (Fl.nx [o0, some (.dic ((ky (L.map (·.1))).map DKey.s ++ [.s w]) ((ky (L.map (·.1))).map (posD L) ++ [if w = w then .lst ((vl L w).map iD ++ [iD (stop - 1)]) else posD L w])), some (iD stop), o3, some (.str w)])
      rw [if_pos rfl, e2]
      rfl
    unfold i1_ends_by_word
    rw [sIf_eq]
    have c2 : mB (mDIn 1 (mV 4)) [o0, some (eD L), some (iD stop), o3, some (.str w)] = .ok (decide (w ∈ ky (L.map (·.1)))) := by
      unfold mB; rw [c]; rfl
    rw [c2, r_kIfS_n h]
    exact ap
theorem sl_word {t : List Nat} {a b : Nat} (ht : t.length ≤ 1000) (h : a ≤ b) (hb : b ≤ t.length) : dSl (.str t) (some (a : Nat)) (some (b : Nat)) = some (.str (wd t a (b - a))) := by
  rw [dSl_s (by rw [LNe]; omega), cut_both (by omega) (by omega), Int.toNat_natCast, Int.toNat_natCast]; rfl
theorem inner_ok {t : List Nat} (ht : t.length ≤ 200) {L : List (List Nat × Nat)} {stop : Nat} (h1 : 1 ≤ stop) (h2 : stop ≤ t.length) (hl : L.length + stop < 1000000) {o3 o4 : Option D} : ∃ p3 p4, l2_ends_by_word [some (.str t), some (eD L), some (iD stop), o3, o4] = .ok (.nx [some (.str t), some (eD (L ++ (List.range stop).map fun start => (wd t start (stop - start), stop - 1))), some (iD stop), p3, p4]) := by
  obtain ⟨ρ', e, p3, p4, rfl⟩ := loop_pre (T := gSet 3) (b := l1_ends_by_word) (fun pre ρ => ∃ p3 p4, ρ = [some (.str t), some (eD (L ++ pre.map fun start => (wd t start (stop - start), stop - 1))), some (iD stop), p3, p4]) iD (List.range stop) [some (.str t), some (eD L), some (iD stop), o3, o4] ⟨o3, o4, by rw [List.map_nil, List.append_nil]⟩ (by
    rintro pre a post ρ hq ⟨p3, p4, rfl⟩
    have ha : a < stop := List.mem_range.mp (by rw [hq]; simp)
    have hpl : pre.length < stop := by
      have := congrArg List.length hq
      rw [List.length_range, List.length_append, List.length_cons] at this
      omega
    have sl : dSl (.str t) (some (a : Nat)) (some (stop : Nat)) = some (.str (wd t a (stop - a))) := sl_word (by omega) (by omega) (by omega)
    have st := step_ok (L := L ++ pre.map fun start => (wd t start (stop - start), stop - 1)) (w := wd t a (stop - a)) (stop := stop) (o0 := some (.str t)) (o3 := some (iD a)) (by rw [List.length_append, List.length_map]; omega) h1
    show Oc (l1_ends_by_word [some (.str t), some (eD (L ++ pre.map fun start => (wd t start (stop - start), stop - 1))), some (iD stop), some (iD a), p4]) _ _ _ _ _
    have run : l1_ends_by_word [some (.str t), some (eD (L ++ pre.map fun start => (wd t start (stop - start), stop - 1))), some (iD stop), some (iD a), p4] = .ok (.nx [some (.str t), some (eD (L ++ (pre ++ [a]).map fun start => (wd t start (stop - start), stop - 1))), some (iD stop), some (iD a), some (.str (wd t a (stop - a)))]) := by
      have ea : L ++ (pre ++ [a]).map (fun start => (wd t start (stop - start), stop - 1)) = (L ++ pre.map fun start => (wd t start (stop - start), stop - 1)) ++ [(wd t a (stop - a), stop - 1)] := by
        rw [List.map_append, List.append_assoc]; rfl
      rw [ea]
      generalize eD (L ++ pre.map fun start => (wd t start (stop - start), stop - 1)) = E at *
      generalize eD ((L ++ pre.map fun start => (wd t start (stop - start), stop - 1)) ++ [(wd t a (stop - a), stop - 1)]) = E' at *
      unfold iD at *
      generalize wd t a (stop - a) = w at *
      exists l1_ends_by_word, sl, st
    rw [run]
    exact ⟨_, _, rfl⟩)
  refine ⟨p3, p4, ?_⟩
  have g : gR1 [iD stop] = some ((List.range stop).map iD) := by
    unfold iD
    rw [r_R1n (by omega), List.range_eq_range']
    exact congrArg some (rng_nat (lo := 0))
  generalize eD L = E at *
  generalize eD (L ++ (List.range stop).map fun start => (wd t start (stop - start), stop - 1)) = E' at *
  generalize (List.range stop).map iD = R at *
  generalize iD stop = S at *
  exists l2_ends_by_word, g, e
theorem ends_ok {t : List Nat} (ht : t.length ≤ 200) : m_ends_by_word [.str t] = .ok (eD (pairs t)) := by
  have pl : ∀ pre : List Nat, (∀ x ∈ pre, x ≤ t.length) → (pre.flatMap fun stop => (List.range stop).map fun start => (wd t start (stop - start), stop - 1)).length ≤ pre.length * t.length := fun pre h => flat_len fun i m => by
    rw [List.length_map, List.length_range]; exact h i m
  obtain ⟨ρ', e, p2, p3, p4, rfl⟩ := loop_pre (T := gSet 2) (b := l2_ends_by_word) (fun pre ρ => ∃ p2 p3 p4, ρ = [some (.str t), some (eD (pre.flatMap fun stop => (List.range stop).map fun start => (wd t start (stop - start), stop - 1))), p2, p3, p4]) iD (List.range' 1 t.length) [some (.str t), some (eD []), none, none, none] ⟨none, none, none, rfl⟩ (by
    rintro pre a post ρ hq ⟨p2, p3, p4, rfl⟩
    have mem : ∀ x ∈ pre ++ a :: post, 1 ≤ x ∧ x ≤ t.length := fun x m => by
      rw [← hq, List.mem_range'_1] at m; omega
    have ha := mem a (by simp)
    have hpl : pre.length < t.length := by
      have := congrArg List.length hq
      rw [List.length_range', List.length_append, List.length_cons] at this
      omega
    have q := pl pre fun x m => (mem x (by simp [m])).2
    have q2 : pre.length * t.length ≤ 200 * 200 := Nat.mul_le_mul (by omega) ht
    obtain ⟨q3, q4, run⟩ := inner_ok ht (L := pre.flatMap fun stop => (List.range stop).map fun start => (wd t start (stop - start), stop - 1)) (stop := a) ha.1 ha.2 (by omega) (o3 := p3) (o4 := p4)
    show Oc (l2_ends_by_word [some (.str t), some (eD _), some (iD a), p3, p4]) _ _ _ _ _
    rw [run]
    refine ⟨some (iD a), q3, q4, ?_⟩
    rw [List.flatMap_append, List.flatMap_cons, List.flatMap_nil, List.append_nil])
  have g : gR2 [.int 1, .int ((t.length : Nat) + 1)] = some ((List.range' 1 t.length).map iD) := by
    rw [r_R2 (by omega) (by omega) (by omega) (by omega), show (((t.length : Nat) : Int) + 1 - 1).toNat = t.length by omega]
    exact congrArg some (rng_nat (lo := 1))
  have e : sLoop (gSet 2) l2_ends_by_word ((List.range' 1 t.length).map iD) [some (.str t), some (.dic [] []), none, none, none] = .ok (.nx [some (.str t), some (eD (pairs t)), p2, p3, p4]) := e
  generalize eD (pairs t) = E at *
  generalize (List.range' 1 t.length).map iD = R at *
  exists m_ends_by_word, b_ends_by_word, g, e
/-! ### lengths_by_ends -/
noncomputable def ekey (E : List Nat) : List DKey := E.map fun i : Nat => .i i
theorem ek_inj : ∀ a b : List Nat, ekey a = ekey b → a = b
  | [], [], _ => rfl
  | [], _ :: _, h => by cases h
  | _ :: _, [], h => by cases h
  | a :: as, b :: bs, h => by
    unfold ekey at h
    rw [List.map_cons, List.map_cons] at h
    injection h with h1 h2
    injection h1 with h1
    rw [ek_inj as bs h2]
    congr 1
    omega
theorem keysOf_ints : ∀ {E : List Nat}, keysOf (E.map iD) = some (ekey E)
  | [] => rfl
  | a :: E => by
    have ih := keysOf_ints (E := E)
    rw [List.map_cons]
    unfold keysOf
    rw [ih]; rfl
noncomputable def twoD (a b : Nat) : D := .tup [iD a, iD b]
noncomputable def lenD (M : List (List Nat × Nat)) (E : List Nat) : D := twoD (mnL (vl M E)) (mxL (vl M E))
noncomputable def lD (M : List (List Nat × Nat)) : D := .dct ((ky (M.map (·.1))).map ekey) ((ky (M.map (·.1))).map (lenD M))
theorem lD_snoc {M : List (List Nat × Nat)} {E : List Nat} {k : Nat} : lD (M ++ [(E, k)]) = .dct ((addK (ky (M.map (·.1))) E).map ekey) ((addK (ky (M.map (·.1))) E).map fun x => if x = E then twoD (mnL (vl M E ++ [k])) (mxL (vl M E ++ [k])) else lenD M x) := by
  unfold lD
  rw [List.map_append]
  show D.dct ((ky (M.map (·.1) ++ [E])).map ekey) ((ky (M.map (·.1) ++ [E])).map _) = _
  rw [ky_snoc]
  congr 1
  refine List.map_congr_left fun x _ => ?_
  unfold lenD
  rw [vl_snoc]
  by_cases h : E = x
  · rw [if_pos h, if_pos h.symm, h]
  · rw [if_neg h, if_neg fun z => h z.symm]
theorem atoms {E : List Nat} : allAt (E.map iD) = true := by
  have := allAt_ints (xs := E.map fun i : Nat => (i : Int))
  rw [List.map_map] at this
  exact this
theorem lstep_ok {M : List (List Nat × Nat)} {w E : List Nat} {o0 o4 o5 o6 o7 : Option D} (hl : M.length < 1000000) (hw : w.length ≤ 1000) (hE : E.length ≤ 1000) : ∃ p5 p6 p7, l1_lengths_by_ends [o0, some (lD M), some (.str w), some (.lst (E.map iD)), o4, o5, o6, o7] = .ok (.nx [o0, some (lD (M ++ [(E, w.length)])), some (.str w), some (.lst (E.map iD)), some (.tup (E.map iD)), p5, p6, p7]) := by
  have k1 := ky_len (L := M.map (·.1))
  rw [List.length_map] at k1
  have tp : dTupOfN [.lst (E.map iD)] = some (.tup (E.map iD)) := if_pos atoms
  obtain ⟨a, b, ga, em, ex⟩ : ∃ a b, (dgetV ((ky (M.map (·.1))).map ekey) ((ky (M.map (·.1))).map (lenD M)) (ekey E)).getD (twoD w.length w.length) = twoD a b ∧ mnL (vl M E ++ [w.length]) = (if w.length < a then w.length else a) ∧ mxL (vl M E ++ [w.length]) = (if b < w.length then w.length else b) := by
    rw [dget_map ek_inj]
    by_cases h : E ∈ ky (M.map (·.1))
    · rw [if_pos h]
      have ne : vl M E ≠ [] := by
        intro z
        obtain ⟨p, m, e⟩ := List.mem_map.mp (mem_ky.mp h)
        have : p.2 ∈ vl M E := mem_vl.mpr (by rw [← e]; exact m)
        rw [z] at this; cases this
      refine ⟨mnL (vl M E), mxL (vl M E), rfl, ?_, ?_⟩
      · rw [mnL_snoc ne]; split <;> omega
      · rw [mxL_snoc]; split <;> omega
    · rw [if_neg h, vl_nil_of fun m => h (mem_ky.mpr m)]
      refine ⟨w.length, w.length, rfl, ?_, ?_⟩
      · rw [if_neg (by omega)]; rfl
      · rw [if_neg (by omega)]; unfold mxL; simp [mxL]
  have get : mTGet2 1 4 (mN dTup (mCons (mV 5) (mCons (mV 5) mNil))) [o0, some (lD M), some (.str w), some (.lst (E.map iD)), some (.tup (E.map iD)), some (iD w.length), o6, o7] = .ok (twoD a b) := by
    unfold mTGet2
    have q2 : getTK [o0, some (lD M), some (.str w), some (.lst (E.map iD)), some (.tup (E.map iD)), some (iD w.length), o6, o7] 4 = some (ekey E) := keysOf_ints
    rw [q2]
    have q1 : getQT [o0, some (lD M), some (.str w), some (.lst (E.map iD)), some (.tup (E.map iD)), some (iD w.length), o6, o7] 1 = some ((ky (M.map (·.1))).map ekey, (ky (M.map (·.1))).map (lenD M)) := rfl
    rw [q1]
    dsimp only
    have z : mN dTup (mCons (mV 5) (mCons (mV 5) mNil)) [o0, some (lD M), some (.str w), some (.lst (E.map iD)), some (.tup (E.map iD)), some (iD w.length), o6, o7] = .ok (twoD w.length w.length) := rfl
    rw [z, bind_ok, ga]
  have put : sTPut 1 4 (mN dTup (mCons (mN dMin2 (mCons (mV 6) (mCons (mV 5) mNil))) (mCons (mN dMax2 (mCons (mV 7) (mCons (mV 5) mNil))) mNil))) [o0, some (lD M), some (.str w), some (.lst (E.map iD)), some (.tup (E.map iD)), some (iD w.length), some (iD a), some (iD b)] = .ok (.nx [o0, some (lD (M ++ [(E, w.length)])), some (.str w), some (.lst (E.map iD)), some (.tup (E.map iD)), some (iD w.length), some (iD a), some (iD b)]) := by
    have v : mN dTup (mCons (mN dMin2 (mCons (mV 6) (mCons (mV 5) mNil))) (mCons (mN dMax2 (mCons (mV 7) (mCons (mV 5) mNil))) mNil)) [o0, some (lD M), some (.str w), some (.lst (E.map iD)), some (.tup (E.map iD)), some (iD w.length), some (iD a), some (iD b)] = .ok (twoD (mnL (vl M E ++ [w.length])) (mxL (vl M E ++ [w.length]))) := by
      rw [em, ex]
      have e1 : dMin2 [iD a, iD w.length] = some (iD (if w.length < a then w.length else a)) := by
        show some (D.int (if ((w.length : Nat) : Int) < (a : Nat) then _ else _)) = _
        unfold iD
        by_cases c : w.length < a
        · rw [if_pos (by omega), if_pos c]
        · rw [if_neg (by omega), if_neg c]
      have e2 : dMax2 [iD b, iD w.length] = some (iD (if b < w.length then w.length else b)) := by
        show some (D.int (if ((w.length : Nat) : Int) > (b : Nat) then _ else _)) = _
        unfold iD
        by_cases c : b < w.length
        · rw [if_pos (by omega), if_pos c]
        · rw [if_neg (by omega), if_neg c]
      generalize lD M = Z at *
      generalize (E.map iD) = G at *
      unfold twoD
      generalize iD (if w.length < a then w.length else a) = A at *
      generalize iD (if b < w.length then w.length else b) = B at *
      generalize iD w.length = N at *
      generalize iD a = a' at *
      generalize iD b = b' at *
      exists e1, e2
    unfold sTPut
    rw [v]
    have q2 : getTK [o0, some (lD M), some (.str w), some (.lst (E.map iD)), some (.tup (E.map iD)), some (iD w.length), some (iD a), some (iD b)] 4 = some (ekey E) := keysOf_ints
    show (match getQT _ 1, getTK _ 4 with | some (ks, vs), some kk => _ | _, _ => _) = _
    rw [q2]
    have q1 : getQT [o0, some (lD M), some (.str w), some (.lst (E.map iD)), some (.tup (E.map iD)), some (iD w.length), some (iD a), some (iD b)] 1 = some ((ky (M.map (·.1))).map ekey, (ky (M.map (·.1))).map (lenD M)) := rfl
    rw [q1]
    dsimp only
    rw [if_pos (by rw [List.length_map, LNe]; omega), dputK_map ek_inj, dputV_map ek_inj, lD_snoc]
    rfl
  refine ⟨some (iD w.length), some (iD a), some (iD b), ?_⟩
  have tt : gTup (gsCons (gSet 6) (gsCons (gSet 7) gsNil)) (twoD a b) [o0, some (lD M), some (.str w), some (.lst (E.map iD)), some (.tup (E.map iD)), some (iD w.length), o6, o7] = some [o0, some (lD M), some (.str w), some (.lst (E.map iD)), some (.tup (E.map iD)), some (iD w.length), some (iD a), some (iD b)] := rfl
  have ln : dLen [.str w] = some (iD w.length) := r_len_s (by omega)
  generalize lD M = Z at *
  generalize lD (M ++ [(E, w.length)]) = Z' at *
  generalize (E.map iD) = G at *
  generalize iD w.length = N at *
  exists l1_lengths_by_ends, tp, ln, get, tt, put
theorem zipW_map {α β γ δ : Type} {h : β → γ → δ} {f : α → β} {g : α → γ} : ∀ {K : List α}, List.zipWith h (K.map f) (K.map g) = K.map fun x => h (f x) (g x)
  | [] => rfl
  | x :: K => by rw [List.map_cons, List.map_cons, List.zipWith_cons_cons, zipW_map, List.map_cons]
theorem occ_len {t w : List Nat} (h : Occ t w) : 1 ≤ w.length ∧ w.length ≤ t.length := by
  obtain ⟨s, k, h1, h2, rfl⟩ := h
  rw [wd_len h2]; omega
theorem en_len {t w : List Nat} : (en t w).length ≤ t.length := by
  have := List.length_filter_le (endB t w) (List.range t.length)
  rw [List.length_range] at this
  exact this
theorem lengths_ok {t : List Nat} (ht : t.length ≤ 200) : m_lengths_by_ends [.str t] = .ok (lD (lens t)) := by
  have kl : (keys t).length ≤ 40000 := by
    have := keys_le (t := t)
    have := pairs_len (t := t)
    have : t.length * t.length ≤ 200 * 200 := Nat.mul_le_mul ht ht
    omega
  obtain ⟨ρ', e, p2, p3, p4, p5, p6, p7, rfl⟩ := loop_pre (T := gTup (gsCons (gSet 2) (gsCons (gSet 3) gsNil))) (b := l1_lengths_by_ends) (fun pre ρ => ∃ p2 p3 p4 p5 p6 p7, ρ = [some (.str t), some (lD (pre.map fun w => (en t w, w.length))), p2, p3, p4, p5, p6, p7]) (fun w => D.tup [.str w, posD (pairs t) w]) (keys t) [some (.str t), some (lD []), none, none, none, none, none, none] ⟨none, none, none, none, none, none, rfl⟩ (by
    rintro pre w post ρ hq ⟨p2, p3, p4, p5, p6, p7, rfl⟩
    have ow : Occ t w := mem_keys.mp (by rw [hq]; simp)
    have hpl : pre.length < (keys t).length := by
      have := congrArg List.length hq
      rw [List.length_append, List.length_cons] at this
      omega
    have pe : posD (pairs t) w = .lst ((en t w).map iD) := by unfold posD; rw [vl_pairs (occ_len ow).1]
    rw [pe]
    show Oc (l1_lengths_by_ends [some (.str t), some (lD (pre.map fun w => (en t w, w.length))), some (.str w), some (.lst ((en t w).map iD)), p4, p5, p6, p7]) _ _ _ _ _
    obtain ⟨q5, q6, q7, run⟩ := lstep_ok (M := pre.map fun w => (en t w, w.length)) (w := w) (E := en t w) (o0 := some (.str t)) (o4 := p4) (o5 := p5) (o6 := p6) (o7 := p7) (by rw [List.length_map]; omega) (by have := (occ_len ow).2; omega) (by have := en_len (t := t) (w := w); omega)
    rw [run]
    refine ⟨some (.str w), some (.lst ((en t w).map iD)), some (.tup ((en t w).map iD)), q5, q6, q7, ?_⟩
    rw [List.map_append]
    rfl)
  have g : gItems (eD (pairs t)) = some ((keys t).map fun w => D.tup [.str w, posD (pairs t) w]) := by
    show some (List.zipWith (fun k d => D.tup [k.d, d]) ((ky ((pairs t).map (·.1))).map DKey.s) ((ky ((pairs t).map (·.1))).map (posD (pairs t)))) = _
    rw [zipW_map]; rfl
  have en := ends_ok ht
  have e : sLoop (gTup (gsCons (gSet 2) (gsCons (gSet 3) gsNil))) l1_lengths_by_ends ((keys t).map fun w => D.tup [.str w, posD (pairs t) w]) [some (.str t), some (.dct [] []), none, none, none, none, none, none] = .ok (.nx [some (.str t), some (lD (lens t)), p2, p3, p4, p5, p6, p7]) := e
  generalize lD (lens t) = E at *
  generalize eD (pairs t) = E' at *
  generalize (keys t).map _ = R at *
  exists m_lengths_by_ends, b_lengths_by_ends, en, g, e
end KD
set_option linter.all false
set_option maxRecDepth 100000
set_option maxHeartbeats 4000000
/-! # kinds -/
namespace KD
open PD PM PY
theorem lt_ii {a b i j : Int} : PySem.W.dataLt (toP (.tup [.int a, .int i])) (toP (.tup [.int b, .int j])) = decide (a < b ∨ (a = b ∧ i < j)) := by
  rw [toP_tup, toP_tup, toPs_2, toPs_2, toP_int, toP_int, toP_int, toP_int, PySem.W.dataLt_pair (by simp [PySem.W.alike]) (by simp [PySem.W.alike]), PySem.W.dataLt_int, PySem.W.dataLt_int]
  by_cases h1 : a = b <;> by_cases h2 : i = j <;> simp [PySem.PyData.eqv, h1, h2]
/-! ### in order -/
noncomputable def klt (a b : Kd) : Bool := decide (a.p < b.p ∨ (a.p = b.p ∧ a.lo < b.lo))
noncomputable def kle (a b : Kd) : Bool := !klt b a
noncomputable def kdS (t : List Nat) : List Kd := (kdL t).mergeSort kle
theorem kdS_perm (t : List Nat) : (kdS t).Perm (kdL t) := List.mergeSort_perm ..
theorem mem_kdS {t : List Nat} {k : Kd} : k ∈ kdS t ↔ k ∈ kdL t := (kdS_perm t).mem_iff
theorem kdL_nd {t : List Nat} : (kdL t).Nodup := by
  exact (List.pairwise_map.mp (kd_nd (t := t))).imp fun h e => h (congrArg _ e)
theorem kdS_nd {t : List Nat} : (kdS t).Nodup := (kdS_perm t).nodup_iff.mpr kdL_nd
/-! ### the mirror -/
noncomputable def kdD (k : Kd) : D := .tup [.tup (k.e.map iD), iD k.lo, iD k.hi]
noncomputable def pkD (k : Kd) : D := .tup [.int (k.p : Nat), .int (k.lo : Nat)]
theorem okK_kd {xs : List Kd} : okK (xs.map pkD) = true := by
  unfold okK
  rw [Bool.and_eq_true, Bool.and_eq_true, Bool.or_eq_true, List.all_eq_true, List.all_eq_true, List.all_eq_true, List.all_eq_true]
  refine ⟨⟨fun d m => ?_, fun d m => List.all_eq_true.mpr fun e m' => ?_⟩, .inl fun d m => ?_⟩
  · obtain ⟨x, _, rfl⟩ := List.mem_map.mp m
    refine okP_of (n := 1) (fun y my => ?_) (by omega)
    simp only [List.mem_cons, List.mem_nil_iff, or_false] at my
    rcases my with rfl | rfl <;> trivial
  · obtain ⟨x, _, rfl⟩ := List.mem_map.mp m
    obtain ⟨y, _, rfl⟩ := List.mem_map.mp m'
    unfold pkD
    rw [toP_tup, toP_tup, toPs_2, toPs_2, toP_int, toP_int, toP_int, toP_int]
    simp [PySem.W.alike, PySem.W.alikeAll]
  · obtain ⟨x, _, rfl⟩ := List.mem_map.mp m
    rfl
theorem kdL_len {t : List Nat} (ht : t.length ≤ 200) : (kdL t).length ≤ 40000 := by
  unfold kdL kdE
  rw [List.length_map]
  have := ky_len (L := (lens t).map (·.1))
  have ll : (lens t).length = (keys t).length := by unfold lens; rw [List.length_map]
  rw [List.length_map, ll] at this
  have := keys_le (t := t)
  have := pairs_len (t := t)
  have : t.length * t.length ≤ 200 * 200 := Nat.mul_le_mul ht ht
  omega
theorem kd_bd {t : List Nat} {k : Kd} (h : IsKd t k) : k.e.length ≤ t.length ∧ k.lo ≤ t.length ∧ k.hi ≤ t.length := by
  have a := h.lt k.p h.hd
  have b := h.le
  have c := h.ends k.p h.hd k.lo (Nat.le_refl _) h.le
  have := en_len (t := t) (w := wd t (k.p + 1 - k.lo) k.lo)
  rw [c] at this
  omega
theorem kinds_ok {t : List Nat} (ht : IsText t) : m_kinds [.str t] = .ok (.lst ((kdS t).map kdD)) := by
  have tl := ht.1.2
  have kl := kdL_len (t := t) (by omega)
  obtain ⟨ρ', e, p2, p3, p4, rfl⟩ := loop_pre (T := gTup (gsCons (gSet 2) (gsCons (gTup (gsCons (gSet 3) (gsCons (gSet 4) gsNil))) gsNil))) (b := l1_kinds) (fun pre ρ => ∃ p2 p3 p4, ρ = [some (.str t), some (.lst (pre.map fun E => kdD (kdOf t E))), p2, p3, p4]) (fun E => D.tup [.tup (E.map iD), lenD (lens t) E]) (kdE t) [some (.str t), some (.lst []), none, none, none] ⟨none, none, none, rfl⟩ (by
    rintro pre E post ρ hq ⟨p2, p3, p4, rfl⟩
    have hpl : pre.length < (kdL t).length := by
      have := congrArg List.length hq
      rw [List.length_append, List.length_cons] at this
      unfold kdL
      rw [List.length_map]
      omega
    have al : (pre.map fun E => kdD (kdOf t E)).length < 1000000 := by rw [List.length_map]; omega
    show Oc (l1_kinds [some (.str t), some (.lst (pre.map fun E => kdD (kdOf t E))), some (.tup (E.map iD)), some (iD (mnL (vl (lens t) E))), some (iD (mxL (vl (lens t) E)))]) _ _ _ _ _
    have run : l1_kinds [some (.str t), some (.lst (pre.map fun E => kdD (kdOf t E))), some (.tup (E.map iD)), some (iD (mnL (vl (lens t) E))), some (iD (mxL (vl (lens t) E)))] = .ok (.nx [some (.str t), some (.lst ((pre ++ [E]).map fun E => kdD (kdOf t E))), some (.tup (E.map iD)), some (iD (mnL (vl (lens t) E))), some (iD (mxL (vl (lens t) E)))]) := by
      rw [List.map_append]
      show _ = R.ok (Fl.nx [some (.str t), some (.lst ((pre.map fun E => kdD (kdOf t E)) ++ [.tup [.tup (E.map iD), iD (mnL (vl (lens t) E)), iD (mxL (vl (lens t) E))]])), some (.tup (E.map iD)), some (iD (mnL (vl (lens t) E))), some (iD (mxL (vl (lens t) E)))])
      generalize (pre.map fun E => kdD (kdOf t E)) = xs at *
      generalize E.map iD = ED at *
      generalize iD (mnL (vl (lens t) E)) = a at *
      generalize iD (mxL (vl (lens t) E)) = b at *
      exists l1_kinds, al
    rw [run]
    exact ⟨_, _, _, rfl⟩)
  have c := PM.check_ok ht
  have lo := lengths_ok (t := t) (by omega)
  have g : gItemsT (lD (lens t)) = some ((kdE t).map fun E => D.tup [.tup (E.map iD), lenD (lens t) E]) := by
    show some (List.zipWith (fun k d => D.tup [.tup (k.map DKey.d), d]) ((ky ((lens t).map (·.1))).map ekey) ((ky ((lens t).map (·.1))).map (lenD (lens t)))) = _
    rw [zipW_map]
    refine congrArg some (List.map_congr_left fun E _ => ?_)
    unfold ekey
    rw [List.map_map]
    rfl
  have e2 : (kdE t).map (fun E => kdD (kdOf t E)) = (kdL t).map kdD := by unfold kdL; rw [List.map_map]; rfl
  rw [e2] at e
  have srt : mSortK [] (mV 1) (mN dTup (mCons (m2 dIx (m2 dIx (mV 0) (mC (.int 0))) (mC (.int 0))) (mCons (m2 dIx (mV 0) (mC (.int 1))) mNil))) [some (.str t), some (.lst ((kdL t).map kdD)), p2, p3, p4] = .ok (.lst ((kdS t).map kdD)) := by
    have hk : mKeys (mN dTup (mCons (m2 dIx (m2 dIx (mV 0) (mC (.int 0))) (mC (.int 0))) (mCons (m2 dIx (mV 0) (mC (.int 1))) mNil))) [some (.str t), some (.lst ((kdL t).map kdD)), p2, p3, p4] ((kdL t).map kdD) = .ok ((kdL t).map pkD) := by
      refine mKeys_map kdD pkD fun k m => ?_
      have ik := kd_is m
      have ix : dIx (.tup (k.e.map iD)) (.int 0) = some (.int (k.p : Nat)) := by
        have := ik.ne
        unfold Kd.p
        cases q : k.e with
        | nil => exact absurd q this
        | cons a r => exact r_ixtn (k := 0)
      have i1 : dIx (kdD k) (.int 0) = some (.tup (k.e.map iD)) := r_ixtn (k := 0)
      have i2 : dIx (kdD k) (.int 1) = some (.int (k.lo : Nat)) := r_ixtn (k := 1)
      unfold pkD
      generalize (kdL t).map kdD = Z at *
      generalize kdD k = kk at *
      exists i1, ix, i2
    unfold mSortK
    have h0 : mV 1 [some (.str t), some (.lst ((kdL t).map kdD)), p2, p3, p4] = .ok (.lst ((kdL t).map kdD)) := rfl
    rw [h0, bind_ok]
    dsimp only
    have e2 : hidL [] [some (.str t), some (.lst ((kdL t).map kdD)), p2, p3, p4] = [some (.str t), some (.lst ((kdL t).map kdD)), p2, p3, p4] := rfl
    rw [e2, hk, bind_ok, if_pos okK_kd, sortBy_map kdD pkD kle fun a _ b _ => by
      unfold pkD kle klt
      rw [lt_ii]
      congr 1
      by_cases c : b.p < a.p ∨ (b.p = a.p ∧ b.lo < a.lo)
      · rw [decide_eq_true c, decide_eq_true (by omega)]
      · rw [decide_eq_false c, decide_eq_false (by omega)]]
    rfl
  have d0 : dLst [] = some (.lst []) := rfl
  generalize lD (lens t) = E at *
  generalize (kdL t).map kdD = Z at *
  generalize (kdS t).map kdD = Z' at *
  generalize (kdE t).map _ = R at *
  exists m_kinds, b_kinds, c, d0, lo, g, e, srt
/-! ### the law's own ends -/
noncomputable def stB (t w : List Nat) (s : Nat) : Bool := decide (wd t s w.length = w)
noncomputable def sts (t w : List Nat) : List Nat := (List.range (t.length + 1 - w.length)).filter (stB t w)
theorem mem_sts {t w : List Nat} {s : Nat} (hw : 1 ≤ w.length) : s ∈ sts t w ↔ s + w.length ≤ t.length ∧ wd t s w.length = w := by
  unfold sts stB
  rw [List.mem_filter, List.mem_range, decide_eq_true_iff]
  constructor <;> rintro ⟨a, b⟩ <;> exact ⟨by omega, b⟩
theorem sts_asc {t w : List Nat} : (sts t w).Pairwise (· < ·) := List.Pairwise.filter _ List.pairwise_lt_range
theorem en_sts {t w : List Nat} (hw : 1 ≤ w.length) : en t w = (sts t w).map fun s => s + w.length - 1 := by
  refine asc_ext en_asc (List.pairwise_map.mpr (sts_asc.imp fun h => by omega)) fun x => ?_
  rw [mem_en, List.mem_map]
  constructor
  · rintro ⟨h1, h2, h3⟩
    exact ⟨x + 1 - w.length, (mem_sts hw).mpr ⟨by omega, h3⟩, by omega⟩
  · rintro ⟨s, m, rfl⟩
    obtain ⟨a, b⟩ := (mem_sts hw).mp m
    exact ⟨by omega, by omega, by rw [show s + w.length - 1 + 1 - w.length = s by omega]; exact b⟩
theorem rng_iD {n : Nat} : rngL 0 n = (List.range n).map iD := by
  rw [List.range_eq_range']; exact rng_nat (lo := 0)
theorem ends_of_ok {t w : List Nat} (ht : t.length ≤ 1000) (hw : 1 ≤ w.length) (hw2 : w.length ≤ 1000) : m_law_ends_of [.str t, .str w] = .ok (.tup ((en t w).map iD)) := by
  have g : gR1 [.int ((t.length : Nat) - (w.length : Nat) + 1)] = some ((List.range (t.length + 1 - w.length)).map iD) := by
    rw [r_R1 (by omega) (by omega), show (((t.length : Nat) : Int) - (w.length : Nat) + 1).toNat = t.length + 1 - w.length by omega, rng_iD]
  have lc := lc_fm (T := gSet 3) (ft := mB (m2 dEq (mSl dSl (mV 0) (mSo (mV 3)) (mSo (m2 dAdd (mV 3) (mV 2)))) (mV 1))) (fe := m2 dSub (m2 dAdd (mV 3) (mV 2)) (mC (.int 1))) (ρ := [some (.str t), some (.str w), some (.int (w.length : Nat)), none]) iD (stB t w) (fun s => iD (s + w.length - 1)) (xs := List.range (t.length + 1 - w.length)) fun s m => by
    have hs := List.mem_range.mp m
    have c : dSl (.str t) (some (s : Int)) (some ((s : Int) + (w.length : Nat))) = some (.str (wd t s w.length)) := by
      rw [show (s : Int) + (w.length : Nat) = ((s + w.length : Nat) : Int) by omega, sl_word ht (by omega) (by omega), Nat.add_sub_cancel_left]
    have e1 : ((s : Nat) : Int) + (w.length : Nat) - 1 = ((s + w.length - 1 : Nat) : Int) := by omega
    refine ⟨_, rfl, ?_, fun _ => ?_⟩
    · show mB (m2 dEq (mSl dSl (mV 0) (mSo (mV 3)) (mSo (m2 dAdd (mV 3) (mV 2)))) (mV 1)) [some (.str t), some (.str w), some (.int (w.length : Nat)), some (.int (s : Nat))] = _
      unfold stB
      exists c
    · show m2 dSub (m2 dAdd (mV 3) (mV 2)) (mC (.int 1)) [some (.str t), some (.str w), some (.int (w.length : Nat)), some (.int (s : Nat))] = _
      unfold iD
      exists e1
  have e2 : ((List.range (t.length + 1 - w.length)).filter (stB t w)).map (fun s => iD (s + w.length - 1)) = (en t w).map iD := by
    rw [en_sts hw, List.map_map]; rfl
  rw [e2] at lc
  have kl : kLn (.ok ((en t w).map iD)) = .ok (.lst ((en t w).map iD)) := kLn_ok (by rw [List.length_map, LNe]; have := en_len (t := t) (w := w); omega)
  have tp : dTupOf [.lst ((en t w).map iD)] = some (.tup ((en t w).map iD)) := rfl
  have l1 : dLen [.str t] = some (.int (t.length : Nat)) := r_len_s (by omega)
  have l2 : dLen [.str w] = some (.int (w.length : Nat)) := r_len_s (by omega)
  generalize (en t w).map iD = Z at *
  generalize (List.range (t.length + 1 - w.length)).map iD = R at *
  generalize ((w.length : Nat) : Int) = wl at *
  generalize ((t.length : Nat) : Int) = tl at *
  exists m_law_ends_of, b_law_ends_of, c1_law_ends_of, l1, l2, g, lc, kl, tp
end KD
set_option linter.all false
set_option maxRecDepth 100000
set_option maxHeartbeats 4000000
/-! # tuples of whole numbers compared -/
namespace KD
open PD PM PY
theorem ot_nx {o : Option Env} {b : Env → R Fl} {ρ1 ρ2 : Env} {N B C : Env → Prop} {K : D → Prop} {X : PySem.Str → List (PySem.Str × D) → Prop} (e : o = some ρ1) (hb : b ρ1 = .ok (.nx ρ2)) (h : N ρ2) : Ot o fun ρ1 => Oc (b ρ1) N K B C X := by
  rw [e, ot_some, hb, o_nx]; exact h
noncomputable def tE (E : List Nat) : D := .tup (E.map iD)
theorem okP_tE {E : List Nat} : okP (tE E) = true := okP_of (n := 1) (fun x m => by
  obtain ⟨i, _, rfl⟩ := List.mem_map.mp m
  exact trivial) (by omega)
theorem eqv_iD {a b : Nat} : PySem.PyData.eqv (toP (iD a)) (toP (iD b)) = decide (a = b) := by
  unfold iD
  rw [toP_int, toP_int]
  unfold PySem.PyData.eqv
  by_cases h : a = b
  · subst h; simp
  · rw [decide_eq_false h]
    simp
    omega
theorem eqv_tE {A B : List Nat} : PySem.PyData.eqv (toP (tE A)) (toP (tE B)) = decide (A = B) := by
  unfold tE
  rw [toP_tup, toP_tup, PN.toPs_map, PN.toPs_map]
  unfold PySem.PyData.eqv
  exact PN.eqv_map fun a _ b _ => eqv_iD
theorem dNe_tE {A B : List Nat} : dNe (tE A) (tE B) = some (.bl (decide (¬ A = B))) := by
  unfold dNe
  have : dEqB (tE A) (tE B) = some (decide (A = B)) := by
    show (if okP (tE A) = true ∧ okP (tE B) = true then some (PySem.PyData.eqv (toP (tE A)) (toP (tE B))) else none) = _
    rw [if_pos ⟨okP_tE, okP_tE⟩, eqv_tE]
  rw [this]
  show some (D.bl (!decide (A = B))) = _
  rw [r_bnot]
theorem ix_tE {E : List Nat} {k : Nat} (h : k < E.length) : dIx (tE E) (.int (k : Nat)) = some (iD (E.getD k 0)) := by
  unfold tE
  rw [r_ixtn, List.getElem?_map, List.getElem?_eq_getElem h, List.getD_eq_getElem?_getD, List.getElem?_eq_getElem h]; rfl
theorem kdD_eq {k : Kd} : kdD k = .tup [tE k.e, iD k.lo, iD k.hi] := rfl
theorem kd_0 {k : Kd} : dIx (kdD k) (.int 0) = some (tE k.e) := r_ixtn (k := 0)
theorem kd_1 {k : Kd} : dIx (kdD k) (.int 1) = some (iD k.lo) := r_ixtn (k := 1)
theorem kd_2 {k : Kd} : dIx (kdD k) (.int 2) = some (iD k.hi) := r_ixtn (k := 2)
theorem hd_tE {t : List Nat} {k : Kd} (h : IsKd t k) : dIx (tE k.e) (.int 0) = some (iD k.p) := by
  have := h.ne
  have q := ix_tE (E := k.e) (k := 0) (List.length_pos_iff.mpr this)
  have e : k.e.getD 0 0 = k.p := by unfold Kd.p; cases k.e <;> rfl
  rw [e] at q
  exact q
theorem same_kinds {t : List Nat} (ht : IsText t) : m_law_same 8 [.lst ((kdS t).map kdD), .lst ((kdS t).map kdD)] = .ok (.bl true) := by
  have tl := ht.1.2
  refine same_ok 8 _ (show okS (7 + 1) _ from ⟨?_, fun x m => ?_⟩)
  · rw [List.length_map, (kdS_perm t).length_eq]
    have := kdL_len (t := t) (by omega)
    omega
  · obtain ⟨k, mk, rfl⟩ := List.mem_map.mp m
    have ik := kd_is (mem_kdS.mp mk)
    refine (show okS (6 + 1) _ from ⟨by show 3 ≤ 1000000; omega, fun x m => ?_⟩)
    simp only [List.mem_cons, List.mem_nil_iff, or_false] at m
    rcases m with rfl | rfl | rfl
    · refine (show okS (5 + 1) _ from ⟨by rw [List.length_map]; have := (kd_bd ik).1; omega, fun y my => ?_⟩)
      obtain ⟨i, _, rfl⟩ := List.mem_map.mp my
      exact trivial
    · exact trivial
    · exact trivial
theorem kdS_ne {t : List Nat} (ht : IsText t) : kdS t ≠ [] := by
  have := ht.1.1
  obtain ⟨k, m, _⟩ := kd_has (t := t) (w := wd t 0 1) ⟨0, 1, by omega, by omega, rfl⟩
  intro z
  have := mem_kdS.mpr m
  rw [z] at this; cases this
end KD
set_option linter.all false
set_option maxRecDepth 100000
set_option maxHeartbeats 4000000
namespace PH
open PD PM PN
/-! ### lists of positions -/
noncomputable def natL (L : List Nat) : D := .lst (L.map fun i : Nat => D.int i)
/-- ascending positions below n -/
structure Asc (n : Nat) (L : List Nat) : Prop where
  up : L.Pairwise (· < ·)
  lt : ∀ x ∈ L, x < n
theorem Asc.sub {n : Nat} {L M : List Nat} (h : Asc n L) (s : M.Sublist L) : Asc n M := ⟨h.up.sublist s, fun x m => h.lt x (s.subset m)⟩
theorem fits1 {ds : List Int} {a : Int} (h : Fits ds [a]) : ∃ x0, ds = [x0] ∧ (0 ≤ x0 ∧ x0 < a) := by
  match ds, h with
  | [x0], ⟨h0, _⟩ => exact ⟨x0, rfl, h0⟩
theorem dInN {k : Nat} {L : List Nat} : dIn (.int (k : Nat)) (natL L) = some (.bl (decide (k ∈ L))) := by
  have a : allAt (L.map fun i : Nat => D.int i) = true := by
    unfold allAt
    rw [List.all_map, List.all_eq_true]
    exact fun _ _ => rfl
  have e : ((L.map fun i : Nat => D.int i).any fun y => eqA y (.int (k : Nat))) = decide (k ∈ L) := by
    rw [List.any_map, Bool.eq_iff_iff, List.any_eq_true, decide_eq_true_eq]
    constructor
    · rintro ⟨x, m, h⟩
      have : decide ((x : Int) = k) = true := h
      have := of_decide_eq_true this
      exact (show x = k by omega) ▸ m
    · intro m
      exact ⟨k, m, decide_eq_true rfl⟩
  show (if isAtom (.int (k : Nat)) = true ∧ allAt (L.map fun i : Nat => D.int i) = true then some ((L.map fun i : Nat => D.int i).any fun y => eqA y (.int (k : Nat))) else none).map D.bl = _
  rw [if_pos ⟨rfl, a⟩, e]
  rfl
/-! ### how many are below -/
end PH
set_option linter.all false
set_option maxRecDepth 100000
set_option maxHeartbeats 4000000
/-! # the law's look at kinds: each by itself, and two -/
namespace K05
open PD PM PY KD
theorem is_int_ok {i : Nat} : m_law_is_int [iD i] = .ok (.bl true) := by
  unfold iD
  exists m_law_is_int, b_law_is_int
theorem len_tE {E : List Nat} : dLen [tE E] = some (.int (E.length : Nat)) := by
  rw [show tE E = D.tup (E.map iD) from rfl, dLen_t, List.length_map]
theorem is_kind_ok {t : List Nat} (tl : t.length ≤ 200) {k : Kd} (h : IsKd t k) : m_law_is_kind [kdD k] = .ok (.bl true) := by
  have bd := kd_bd h
  have np := List.length_pos_iff.mpr h.ne
  have k0 := kd_0 (k := k)
  have k1 := kd_1 (k := k)
  have k2 := kd_2 (k := k)
  have t1 : dIsi "tuple" (kdD k) = some (.bl true) := by
    rw [kdD_eq]
    exact congrArg (fun b => some (D.bl b)) ist_5
  have t2 : dIsi "tuple" (tE k.e) = some (.bl true) := by
    unfold tE
    exact congrArg (fun b => some (D.bl b)) ist_5
  have l1 : dLen [kdD k] = some (.int 3) := by rw [kdD_eq, dLen_t]; rfl
  have l2 := len_tE (E := k.e)
  have nz : ¬ ((k.e.length : Nat) : Int) = 0 := by omega
  have i1 := is_int_ok (i := k.lo)
  have i2 := is_int_ok (i := k.hi)
  have lc := lc_fm (T := gSet 1) (ft := mNot (mB (mCall 1 m_law_is_int (mCons (mV 1) mNil)))) (fe := mV 1) (ρ := [some (kdD k), none]) iD (fun _ => false) iD (xs := k.e) fun x m => ⟨_, rfl, (by
    have ix := is_int_ok (i := x)
    show mNot (mB (mCall 1 m_law_is_int (mCons (mV 1) mNil))) [some (kdD k), some (iD x)] = _
    generalize iD x = ixx at *
    generalize kdD k = kk at *
    exists ix), fun z => absurd z Bool.false_ne_true⟩
  rw [show (k.e.filter fun _ => false) = [] from List.filter_eq_nil_iff.mpr (fun _ _ => Bool.false_ne_true), List.map_nil] at lc
  have lz : dLen [.lst []] = some (.int 0) := rfl
  have gs : gSq (tE k.e) = some (k.e.map iD) := rfl
  generalize k.e.map iD = Z at *
  generalize kdD k = kk at *
  generalize tE k.e = te at *
  generalize iD k.lo = a at *
  generalize iD k.hi = b at *
  generalize ((k.e.length : Nat) : Int) = n at *
  exists m_law_is_kind, b_law_is_kind, i1_law_is_kind, k0, k1, k2, t1, t2, l1, l2, nz, i2_law_is_kind, i1, i2, c1_law_is_kind, gs, lc, lz
/-! ### whole -/
theorem wd_cons {t : List Nat} {s k : Nat} (h : s < t.length) : wd t s (k + 1) = t[s] :: wd t (s + 1) k := by
  unfold wd
  rw [List.drop_eq_getElem_cons h, List.take_succ_cons]
/-- the letters before the longest words are not all alike -/
theorem not_alike {t : List Nat} {k : Kd} (h : IsKd t k) (b : ∀ p ∈ k.e, k.hi ≤ p) (c : Nat) (al : ∀ p ∈ k.e, t[p - k.hi]? = some c) : False := by
  have hd := h.hd
  have pb := h.lt k.p hd
  have l := h.le
  have po := h.pos
  have b0 := b k.p hd
  have base := h.ends k.p hd k.hi l (Nat.le_refl _)
  have oc : Occ t (wd t (k.p - k.hi) (k.hi + 1)) := ⟨k.p - k.hi, k.hi + 1, by omega, by omega, rfl⟩
  have len : (wd t (k.p - k.hi) (k.hi + 1)).length = k.hi + 1 := wd_len (by omega)
  have e : en t (wd t (k.p - k.hi) (k.hi + 1)) = k.e := by
    refine asc_ext en_asc h.asc fun x => ⟨fun m => ?_, fun m => ?_⟩
    · rw [← base]
      refine en_mono pb.1 (a := k.hi) (b := k.hi + 1) (by omega) (by omega) ?_
      rw [show k.p + 1 - (k.hi + 1) = k.p - k.hi by omega]
      exact m
    · have xb := h.lt x m
      have x0 := b x m
      rw [mem_en, len]
      refine ⟨xb.1, by omega, ?_⟩
      have mm := m
      rw [← base] at mm
      have e1 := (mem_en.mp mm).2.2
      rw [wd_len (by omega)] at e1
      have c1 := al x m
      have c2 := al k.p hd
      obtain ⟨_, d1⟩ := List.getElem?_eq_some_iff.mp c1
      obtain ⟨_, d2⟩ := List.getElem?_eq_some_iff.mp c2
      rw [show x + 1 - (k.hi + 1) = x - k.hi by omega, wd_cons (by omega), wd_cons (by omega), d1, d2, show x - k.hi + 1 = x + 1 - k.hi by omega, show k.p - k.hi + 1 = k.p + 1 - k.hi by omega, e1]
  have := (h.all _ oc e).2
  omega
theorem ded_one {ws : List (List Nat)} (h : (ded [] ws).length = 1) : ∃ z, ∀ w ∈ ws, w = z := by
  match q : ded [] ws, h with
  | [z], _ =>
    refine ⟨z, fun w m => ?_⟩
    have : w ∈ ded [] ws := mem_ded.mpr (.inr m)
    rw [q] at this
    exact List.mem_singleton.mp this
theorem whole_ok {t : List Nat} (tl : t.length ≤ 200) {k : Kd} (h : IsKd t k) : m_law_is_whole [.str t, kdD k] = .ok (.bl true) := by
  have bd := kd_bd h
  have pb := h.lt k.p h.hd
  have po := h.pos
  have le := h.le
  have k0 := kd_0 (k := k)
  have k1 : dIx (kdD k) (.int 1) = some (.int (k.lo : Nat)) := kd_1
  have k2 : dIx (kdD k) (.int 2) = some (.int (k.hi : Nat)) := kd_2
  have hd : dIx (tE k.e) (.int 0) = some (.int (k.p : Nat)) := hd_tE h
  have sl : ∀ j, 1 ≤ j → j ≤ k.p + 1 → dSl (.str t) (some (((k.p : Nat) : Int) + 1 - (j : Nat))) (some (((k.p : Nat) : Int) + 1)) = some (.str (wd t (k.p + 1 - j) j)) := fun j j1 j2 => by
    have := sl_word (t := t) (a := k.p + 1 - j) (b := k.p + 1) (by omega) (by omega) (by omega)
    rw [show k.p + 1 - (k.p + 1 - j) = j by omega] at this
    rw [show ((k.p : Nat) : Int) + 1 - (j : Nat) = ((k.p + 1 - j : Nat) : Int) by omega, show ((k.p : Nat) : Int) + 1 = ((k.p + 1 : Nat) : Int) by omega]
    exact this
  have s1 := sl k.hi (by omega) (by omega)
  have s2 := sl k.lo (by omega) (by omega)
  have eo : ∀ j, k.lo ≤ j → j ≤ k.hi → m_law_ends_of [.str t, .str (wd t (k.p + 1 - j) j)] = .ok (tE k.e) := fun j j1 j2 => by
    have := ends_of_ok (t := t) (w := wd t (k.p + 1 - j) j) (by omega) (by rw [wd_len (by omega)]; omega) (by rw [wd_len (by omega)]; omega)
    rw [h.ends k.p h.hd j (by omega) (by omega)] at this
    exact this
  have e1 := eo k.hi (by omega) (by omega)
  have e2 := eo k.lo (by omega) (by omega)
  have dq := dNe_tE (A := k.e) (B := k.e)
  rw [decide_eq_false (fun z => z rfl)] at dq
  have ln : dLen [.str t] = some (.int (t.length : Nat)) := r_len_s (by omega)
  have l2 := len_tE (E := k.e)
  have c1 : (1 : Int) ≤ (k.lo : Nat) := by omega
  have c2 : ((k.lo : Nat) : Int) ≤ (k.hi : Nat) := by omega
  have c3 : ((k.hi : Nat) : Int) ≤ (k.p : Nat) + 1 := by omega
  have c4 : ((k.p : Nat) : Int) + 1 ≤ (t.length : Nat) := by omega
  -- the letters before
  obtain ⟨B, hB⟩ : ∃ B, B = (k.e.filter fun p => decide (k.hi ≤ p)).map fun p => [t.getD (p - k.hi) 0] := ⟨_, rfl⟩
  have lc := lc_fm (T := gSet 6) (ft := mB (m2 dGe (mV 6) (m2 dIx (mV 1) (mC (.int 2))))) (fe := m2 dIx (mV 0) (m2 dSub (mV 6) (m2 dIx (mV 1) (mC (.int 2))))) (ρ := [some (.str t), some (kdD k), some (.int ((k.p : Nat) + 1)), some (.str (wd t (k.p + 1 - k.hi) k.hi)), some (.str (wd t (k.p + 1 - k.lo) k.lo)), none, none]) iD (fun p => decide (k.hi ≤ p)) (fun p => D.str [t.getD (p - k.hi) 0]) (xs := k.e) fun p m => ⟨_, rfl, (by
    show mB (m2 dGe (mV 6) (m2 dIx (mV 1) (mC (.int 2)))) [some (.str t), some (kdD k), some (.int ((k.p : Nat) + 1)), some (.str (wd t (k.p + 1 - k.hi) k.hi)), some (.str (wd t (k.p + 1 - k.lo) k.lo)), none, some (.int (p : Nat))] = _
    have b1 : decide (((k.hi : Nat) : Int) ≤ (p : Nat)) = decide (k.hi ≤ p) := by rw [decide_eq_decide]; omega
    rw [← b1]
    generalize kdD k = kk at *
    exists k2), fun q => by
    have hq : k.hi ≤ p := by simpa using q
    have pl := h.lt p m
    have ix : dIx (.str t) (.int (((p : Nat) : Int) - (k.hi : Nat))) = some (.str [t.getD (p - k.hi) 0]) := by
      rw [show ((p : Nat) : Int) - (k.hi : Nat) = ((p - k.hi : Nat) : Int) by omega, r_ixsn (by omega), List.getD_eq_getElem?_getD, List.getElem?_eq_getElem (by omega)]; rfl
    show m2 dIx (mV 0) (m2 dSub (mV 6) (m2 dIx (mV 1) (mC (.int 2)))) [some (.str t), some (kdD k), some (.int ((k.p : Nat) + 1)), some (.str (wd t (k.p + 1 - k.hi) k.hi)), some (.str (wd t (k.p + 1 - k.lo) k.lo)), none, some (.int (p : Nat))] = _
    generalize kdD k = kk at *
    exists k2, ix⟩
  have lcB : (k.e.filter fun p => decide (k.hi ≤ p)).map (fun p => D.str [t.getD (p - k.hi) 0]) = B.map D.str := by rw [hB, List.map_map]; rfl
  rw [lcB] at lc
  have Bl : B.length ≤ k.e.length := by rw [hB, List.length_map]; exact List.length_filter_le _ _
  have kl : kLn (.ok (B.map D.str)) = .ok (.lst (B.map D.str)) := kLn_ok (by rw [List.length_map, LNe]; omega)
  have lB : dLen [.lst (B.map D.str)] = some (.int (B.length : Nat)) := by rw [dLen_l, List.length_map]
  have ls := K03.lenSet_ok (zs := B) (by omega)
  have cond : ¬ (((B.length : Nat) : Int) = (k.e.length : Nat) ∧ (((ded [] B).length : Nat) : Int) = 1) := by
    rintro ⟨z1, z2⟩
    have full : ∀ p ∈ k.e, k.hi ≤ p := by
      have : (k.e.filter fun p => decide (k.hi ≤ p)).length = k.e.length := by
        have := congrArg List.length hB
        rw [List.length_map] at this
        omega
      have := List.length_filter_eq_length_iff.mp this
      intro p m
      simpa using this p m
    obtain ⟨z, hz⟩ := ded_one (ws := B) (by omega)
    have hb : ∀ p ∈ k.e, [t.getD (p - k.hi) 0] = z := fun p m => hz _ (by
      rw [hB]
      exact List.mem_map.mpr ⟨p, List.mem_filter.mpr ⟨m, by simpa using full p m⟩, rfl⟩)
    refine not_alike h full (t.getD (k.p - k.hi) 0) fun p m => ?_
    have e := (hb p m).trans (hb k.p h.hd).symm
    injection e with e _
    have pl := h.lt p m
    have := full p m
    rw [← e, List.getD_eq_getElem?_getD, List.getElem?_eq_getElem (by omega)]
    rfl
  have gs : gSq (tE k.e) = some (k.e.map iD) := rfl
  by_cases o1 : k.lo = 1
  · have o1' : decide (((k.lo : Nat) : Int) = 1) = true := decide_eq_true (by omega)
    generalize k.e.map iD = Z at *
    generalize B.map D.str = BB at *
    generalize ((ded [] B).length : Int) = nd at *
    generalize ((B.length : Nat) : Int) = nb at *
    generalize kdD k = kk at *
    generalize tE k.e = te at *
    generalize wd t (k.p + 1 - k.hi) k.hi = w1 at *
    generalize wd t (k.p + 1 - k.lo) k.lo = w2 at *
    generalize ((k.e.length : Nat) : Int) = ne at *
    clear hB lcB
    by_cases q1 : nb = ne
    · have q2 : ¬ nd = 1 := fun z => cond ⟨q1, z⟩
      exists m_law_is_whole, b_law_is_whole, k0, hd, i1_law_is_whole, k1, k2, ln, c1, c2, c3, c4, s1, s2, i2_law_is_whole, e1, e2, dq, c1_law_is_whole, gs, lc, kl, i3_law_is_whole, lB, l2, ls, q1, q2, o1'
    · exists m_law_is_whole, b_law_is_whole, k0, hd, i1_law_is_whole, k1, k2, ln, c1, c2, c3, c4, s1, s2, i2_law_is_whole, e1, e2, dq, c1_law_is_whole, gs, lc, kl, i3_law_is_whole, lB, l2, ls, q1, o1'
  · have o1' : ¬ ((k.lo : Nat) : Int) = 1 := by omega
    have wl := wd_len (t := t) (s := k.p + 1 - k.lo) (k := k.lo) (by omega)
    have s3 : dSl (.str (wd t (k.p + 1 - k.lo) k.lo)) (some 1) none = some (.str (wd t (k.p + 1 - (k.lo - 1)) (k.lo - 1))) := by
      rw [dSl_s (by rw [LNe]; omega), cut_from (by omega)]
      congr 2
      unfold wd
      rw [List.drop_take, List.drop_drop]
      congr 2
      show k.p + 1 - k.lo + 1 = _
      omega
    have e3 : m_law_ends_of [.str t, .str (wd t (k.p + 1 - (k.lo - 1)) (k.lo - 1))] = .ok (tE (en t (wd t (k.p + 1 - (k.lo - 1)) (k.lo - 1)))) := ends_of_ok (by omega) (by rw [wd_len (by omega)]; omega) (by rw [wd_len (by omega)]; omega)
    have lt : k.e.length < (en t (wd t (k.p + 1 - (k.lo - 1)) (k.lo - 1))).length := by
      refine sub_lt h.asc en_asc (fun x m => ?_) fun z => ?_
      · rw [← h.ends k.p h.hd k.lo (Nat.le_refl _) le] at m
        exact en_mono pb.1 (by omega) (by omega) m
      · have := (h.all (wd t (k.p + 1 - (k.lo - 1)) (k.lo - 1)) ⟨_, k.lo - 1, by omega, by omega, rfl⟩ z.symm).1
        rw [wd_len (by omega)] at this
        omega
    have l3 := len_tE (E := en t (wd t (k.p + 1 - (k.lo - 1)) (k.lo - 1)))
    have lt' : ((k.e.length : Nat) : Int) < ((en t (wd t (k.p + 1 - (k.lo - 1)) (k.lo - 1))).length : Nat) := by omega
    generalize (((en t (wd t (k.p + 1 - (k.lo - 1)) (k.lo - 1))).length : Nat) : Int) = n3 at *
    generalize tE (en t (wd t (k.p + 1 - (k.lo - 1)) (k.lo - 1))) = te3 at *
    generalize wd t (k.p + 1 - (k.lo - 1)) (k.lo - 1) = w3 at *
    generalize k.e.map iD = Z at *
    generalize B.map D.str = BB at *
    generalize ((ded [] B).length : Int) = nd at *
    generalize ((B.length : Nat) : Int) = nb at *
    generalize kdD k = kk at *
    generalize tE k.e = te at *
    generalize wd t (k.p + 1 - k.hi) k.hi = w1 at *
    generalize wd t (k.p + 1 - k.lo) k.lo = w2 at *
    generalize ((k.e.length : Nat) : Int) = ne at *
    clear hB lcB
    by_cases q1 : nb = ne
    · have q2 : ¬ nd = 1 := fun z => cond ⟨q1, z⟩
      exists m_law_is_whole, b_law_is_whole, k0, hd, i1_law_is_whole, k1, k2, ln, c1, c2, c3, c4, s1, s2, i2_law_is_whole, e1, e2, dq, c1_law_is_whole, gs, lc, kl, i3_law_is_whole, lB, l2, ls, q1, q2, o1', s3, e3, l3, lt'
    · exists m_law_is_whole, b_law_is_whole, k0, hd, i1_law_is_whole, k1, k2, ln, c1, c2, c3, c4, s1, s2, i2_law_is_whole, e1, e2, dq, c1_law_is_whole, gs, lc, kl, i3_law_is_whole, lB, l2, ls, q1, o1', s3, e3, l3, lt'
/-! ### two -/
theorem dIn_tup {p : Nat} {E : List Nat} : dIn (.int (p : Nat)) (tE E) = some (.bl (decide (p ∈ E))) := by
  have := PH.dInN (k := p) (L := E)
  exact this
theorem nested_ok {t : List Nat} (tl : t.length ≤ 200) {k k' : Kd} (h : IsKd t k) (h' : IsKd t k') (ne : k.e ≠ k'.e) : m_law_nested [kdD k, kdD k'] = .ok (.bl true) := by
  have bd := kd_bd h
  have bd' := kd_bd h'
  have k0 := kd_0 (k := k)
  have k1 : dIx (kdD k) (.int 1) = some (.int (k.lo : Nat)) := kd_1
  have k2 : dIx (kdD k) (.int 2) = some (.int (k.hi : Nat)) := kd_2
  have j0 := kd_0 (k := k')
  have j1 : dIx (kdD k') (.int 1) = some (.int (k'.lo : Nat)) := kd_1
  have j2 : dIx (kdD k') (.int 2) = some (.int (k'.hi : Nat)) := kd_2
  have lc := lc_fm (T := gSet 3) (ft := mB (m2 dIn (mV 3) (m2 dIx (mV 1) (mC (.int 0))))) (fe := mV 3) (ρ := [some (kdD k), some (kdD k'), none, none]) iD (fun p => decide (p ∈ k'.e)) iD (xs := k.e) fun p m => ⟨_, rfl, (by
    have di := dIn_tup (p := p) (E := k'.e)
    show mB (m2 dIn (mV 3) (m2 dIx (mV 1) (mC (.int 0)))) [some (kdD k), some (kdD k'), none, some (.int (p : Nat))] = _
    generalize kdD k' = kk at *
    generalize tE k'.e = te at *
    exists j0, di), fun _ => rfl⟩
  obtain ⟨C, hC⟩ : ∃ C, C = k.e.filter fun p => decide (p ∈ k'.e) := ⟨_, rfl⟩
  rw [← hC] at lc
  have Cl : C.length ≤ k.e.length := by rw [hC]; exact List.length_filter_le _ _
  have kl : kLn (.ok (C.map iD)) = .ok (.lst (C.map iD)) := kLn_ok (by rw [List.length_map, LNe]; omega)
  have lC : dLen [.lst (C.map iD)] = some (.int (C.length : Nat)) := by rw [dLen_l, List.length_map]
  have l1 := len_tE (E := k.e)
  have l2 := len_tE (E := k'.e)
  have gs : gSq (tE k.e) = some (k.e.map iD) := rfl
  have res : C.length = 0 ∨ (C.length ≠ 0 ∧ k.e.length < k'.e.length ∧ C.length = k.e.length ∧ k'.hi < k.lo) ∨ (C.length ≠ 0 ∧ ¬ k.e.length < k'.e.length ∧ C.length = k'.e.length ∧ k'.e.length < k.e.length ∧ k.hi < k'.lo) := by
    by_cases z : C.length = 0
    · exact .inl z
    · right
      obtain ⟨p, mp⟩ : ∃ p, p ∈ C := List.exists_mem_of_length_pos (by omega)
      rw [hC, List.mem_filter, decide_eq_true_iff] at mp
      rcases kd_two h h' mp.1 mp.2 ne with ⟨a, b⟩ | ⟨a, b⟩
      · right
        have s := sub_lt h'.asc h.asc b fun e => ne e.symm
        have : C = k'.e := by
          rw [hC]
          refine asc_ext (List.Pairwise.filter _ h.asc) h'.asc fun x => ?_
          rw [List.mem_filter, decide_eq_true_iff]
          exact ⟨fun m => m.2, fun m => ⟨b x m, m⟩⟩
        rw [this] at z ⊢
        exact ⟨z, by omega, rfl, s, a⟩
      · left
        have s := sub_lt h.asc h'.asc b ne
        have : C = k.e := by
          rw [hC]
          exact List.filter_eq_self.mpr fun x m => by rw [decide_eq_true_iff]; exact b x m
        rw [this] at z ⊢
        exact ⟨z, s, rfl, a⟩
  clear hC
  rcases res with z | ⟨z, r1, r2, r3⟩ | ⟨z, r1, r2, r3, r4⟩
  · have z' : ((C.length : Nat) : Int) = 0 := by omega
    generalize kdD k = kk at *
    generalize kdD k' = kk' at *
    generalize tE k.e = te at *
    generalize tE k'.e = te' at *
    generalize C.map iD = CC at *
    generalize k.e.map iD = EE at *
    generalize ((C.length : Nat) : Int) = nc at *
    exists m_law_nested, b_law_nested, c1_law_nested, k0, gs, lc, kl, i1_law_nested, lC, z'
  · have z' : ¬ ((C.length : Nat) : Int) = 0 := by omega
    have r1' : ((k.e.length : Nat) : Int) < (k'.e.length : Nat) := by omega
    have r2' : ((C.length : Nat) : Int) = (k.e.length : Nat) := by omega
    have r3' : ((k'.hi : Nat) : Int) < (k.lo : Nat) := by omega
    generalize kdD k = kk at *
    generalize kdD k' = kk' at *
    generalize tE k.e = te at *
    generalize tE k'.e = te' at *
    generalize C.map iD = CC at *
    generalize k.e.map iD = EE at *
    generalize ((C.length : Nat) : Int) = nc at *
    generalize ((k.e.length : Nat) : Int) = n1 at *
    generalize ((k'.e.length : Nat) : Int) = n2 at *
    exists m_law_nested, b_law_nested, c1_law_nested, k0, j0, gs, lc, kl, i1_law_nested, lC, z', i2_law_nested, l1, l2, r1', r2', k1, j2, r3'
  · have z' : ¬ ((C.length : Nat) : Int) = 0 := by omega
    have r1' : ¬ ((k.e.length : Nat) : Int) < (k'.e.length : Nat) := by omega
    have r2' : ((C.length : Nat) : Int) = (k'.e.length : Nat) := by omega
    have r3' : ((k'.e.length : Nat) : Int) < (k.e.length : Nat) := by omega
    have r4' : ((k.hi : Nat) : Int) < (k'.lo : Nat) := by omega
    generalize kdD k = kk at *
    generalize kdD k' = kk' at *
    generalize tE k.e = te at *
    generalize tE k'.e = te' at *
    generalize C.map iD = CC at *
    generalize k.e.map iD = EE at *
    generalize ((C.length : Nat) : Int) = nc at *
    generalize ((k.e.length : Nat) : Int) = n1 at *
    generalize ((k'.e.length : Nat) : Int) = n2 at *
    exists m_law_nested, b_law_nested, c1_law_nested, k0, j0, gs, lc, kl, i1_law_nested, lC, z', i2_law_nested, l1, l2, r1', r2', r3', j1, k2, r4'
end K05
set_option linter.all false
set_option maxRecDepth 100000
set_option maxHeartbeats 4000000
/-! # lengths shared out, the sum, the law -/
namespace K05
open PD PM PY KD
/-! ### one place -/
noncomputable def plt (a b : Kd) : Bool := decide (a.lo < b.lo ∨ (a.lo = b.lo ∧ a.hi < b.hi))
noncomputable def ple (a b : Kd) : Bool := !plt b a
theorem ple_total : PySem.W.TotalLe ple where
  trans a b c h1 h2 := by
    unfold ple plt at *
    rw [Bool.not_eq_true', decide_eq_false_iff_not] at *
    omega
  total a b := by
    unfold ple plt
    rw [Bool.not_eq_true', decide_eq_false_iff_not, Bool.not_eq_true', decide_eq_false_iff_not]
    omega
noncomputable def at_ (t : List Nat) (p : Nat) : List Kd := ((kdS t).filter fun k => decide (p ∈ k.e)).mergeSort ple
noncomputable def prD (k : Kd) : D := .tup [.int (k.lo : Nat), .int (k.hi : Nat)]
theorem okK_pr {xs : List Kd} : okK (xs.map prD) = true := by
  unfold okK
  rw [Bool.and_eq_true, Bool.and_eq_true, Bool.or_eq_true, List.all_eq_true, List.all_eq_true, List.all_eq_true, List.all_eq_true]
  refine ⟨⟨fun d m => ?_, fun d m => List.all_eq_true.mpr fun e m' => ?_⟩, .inl fun d m => ?_⟩
  · obtain ⟨x, _, rfl⟩ := List.mem_map.mp m
    refine okP_of (n := 1) (fun y my => ?_) (by omega)
    simp only [List.mem_cons, List.mem_nil_iff, or_false] at my
    rcases my with rfl | rfl <;> trivial
  · obtain ⟨x, _, rfl⟩ := List.mem_map.mp m
    obtain ⟨y, _, rfl⟩ := List.mem_map.mp m'
    unfold prD
    rw [toP_tup, toP_tup, toPs_2, toPs_2, toP_int, toP_int, toP_int, toP_int]
    simp [PySem.W.alike, PySem.W.alikeAll]
  · obtain ⟨x, _, rfl⟩ := List.mem_map.mp m
    rfl
theorem sort_pr {xs : List Kd} : dSort (.lst (xs.map prD)) = some (.lst ((xs.mergeSort ple).map prD)) := by
  show (if okK _ = true then some (D.lst (sortBy _ _)) else none) = _
  rw [if_pos okK_pr, sortBy_map prD prD ple fun a _ b _ => by
    unfold prD ple plt
    rw [lt_ii]
    congr 1
    by_cases c : b.lo < a.lo ∨ (b.lo = a.lo ∧ b.hi < a.hi)
    · rw [decide_eq_true c, decide_eq_true (by omega)]
    · rw [decide_eq_false c, decide_eq_false (by omega)]]
theorem mem_at {t : List Nat} {p : Nat} {k : Kd} : k ∈ at_ t p ↔ k ∈ kdL t ∧ p ∈ k.e := by
  unfold at_
  rw [(List.mergeSort_perm _ _).mem_iff, List.mem_filter, decide_eq_true_iff, mem_kdS]
theorem run_at {t : List Nat} {p : Nat} (hp : p < t.length) : Run 0 ((at_ t p).map fun k => (k.lo, k.hi)) (p + 1) := by
  have nd : (at_ t p).Nodup := (List.mergeSort_perm _ _).nodup_iff.mpr (List.Pairwise.filter _ kdS_nd)
  have srt : (at_ t p).Pairwise (fun a b => ple a b = true) := PySem.W.sort_pairwise ple_total _
  have pw : (at_ t p).Pairwise (fun a b => a.hi < b.lo) := by
    refine List.Pairwise.imp_of_mem ?_ (List.Pairwise.and srt nd)
    rintro a b ma mb ⟨x, y⟩
    obtain ⟨ma1, ma2⟩ := mem_at.mp ma
    obtain ⟨mb1, mb2⟩ := mem_at.mp mb
    have ia := kd_is ma1
    have ib := kd_is mb1
    have la := ia.le
    have lb := ib.le
    unfold ple plt at x
    rw [Bool.not_eq_true', decide_eq_false_iff_not] at x
    rcases kd_two ia ib ma2 mb2 (fun e => y (kd_uniq ma1 mb1 e)) with z | z
    · exact z.1
    · have := z.1
      omega
  refine run_ok _ 0 (p + 1) (by omega) (List.pairwise_map.mpr pw) (fun x m => ?_) (fun j j1 j2 => ?_)
  · obtain ⟨k, mk, rfl⟩ := List.mem_map.mp m
    obtain ⟨m1, m2⟩ := mem_at.mp mk
    have i := kd_is m1
    exact ⟨i.pos, i.le, (i.lt p m2).2⟩
  · have oc : Occ t (wd t (p + 1 - j) j) := ⟨_, j, by omega, by omega, rfl⟩
    obtain ⟨k, mk, e⟩ := kd_has oc
    have i := kd_is mk
    have a := i.all _ oc e.symm
    rw [wd_len (by omega)] at a
    have mp : p ∈ k.e := by rw [e]; exact en_of hp (by omega)
    exact ⟨_, List.mem_map.mpr ⟨k, mem_at.mpr ⟨mk, mp⟩, rfl⟩, a.1, a.2⟩
theorem walk_run {g pl o4 : Option D} : ∀ (S : List Kd) (r m : Nat) (o3 : Option D), Run r (S.map fun k => (k.lo, k.hi)) m → ∃ p3, sLoop (gSet 3) l1_law_shared_out (S.map prD) [g, pl, some (iD r), o3, o4] = .ok (.nx [g, pl, some (iD m), p3, o4])
  | [], r, m, o3, h => by
    have h : r = m := h
    subst h
    exact ⟨o3, rfl⟩
  | k :: S, r, m, o3, h => by
    obtain ⟨h1, h2⟩ : k.lo = r + 1 ∧ Run k.hi (S.map fun k : Kd => (k.lo, k.hi)) m := h
    obtain ⟨p3, ih⟩ := walk_run (g := g) (pl := pl) (o4 := o4) S k.hi m (some (prD k)) h2
    refine ⟨p3, ?_⟩
    have run : l1_law_shared_out [g, pl, some (iD r), some (prD k), o4] = .ok (.nx [g, pl, some (iD k.hi), some (prD k), o4]) := by
      have a0 : dIx (prD k) (.int 0) = some (.int (k.lo : Nat)) := r_ixtn (k := 0)
      have a1 : dIx (prD k) (.int 1) = some (.int (k.hi : Nat)) := r_ixtn (k := 1)
      have c : ((k.lo : Nat) : Int) = (r : Nat) + 1 := by omega
      have dn : dNe (.int (k.lo : Nat)) (.int ((r : Nat) + 1)) = some (.bl false) := by
        rw [r_ne_i, decide_eq_false fun z => z c]
      generalize prD k = kk at *
      unfold iD
      generalize ((k.lo : Nat) : Int) = kl at *
      clear c
      exists l1_law_shared_out, i1_law_shared_out, a0, dn, a1
    rw [List.map_cons, loop_nx rfl run]
    exact ih
theorem shared_ok {t : List Nat} (tl : t.length ≤ 200) {p : Nat} (hp : p < t.length) : m_law_shared_out [.lst ((kdS t).map kdD), .int (p : Nat)] = .ok (.bl true) := by
  have kl := kdL_len (t := t) (by omega)
  rw [← (kdS_perm t).length_eq] at kl
  obtain ⟨Z, hZ⟩ : ∃ Z, Z = D.lst ((kdS t).map kdD) := ⟨_, rfl⟩
  rw [← hZ]
  have lc := lc_fm (T := gSet 4) (ft := mB (m2 dIn (mV 1) (m2 dIx (mV 4) (mC (.int 0))))) (fe := mN dTup (mCons (m2 dIx (mV 4) (mC (.int 1))) (mCons (m2 dIx (mV 4) (mC (.int 2))) mNil))) (ρ := [some Z, some (.int (p : Nat)), some (.int 0), none, none]) kdD (fun k => decide (p ∈ k.e)) prD (xs := kdS t) fun k _ => ⟨_, rfl, (by
    have k0 := kd_0 (k := k)
    have di := dIn_tup (p := p) (E := k.e)
    show mB (m2 dIn (mV 1) (m2 dIx (mV 4) (mC (.int 0)))) [some Z, some (.int (p : Nat)), some (.int 0), none, some (kdD k)] = _
    generalize kdD k = kk at *
    generalize tE k.e = te at *
    exists k0, di), fun _ => by
    have k1 : dIx (kdD k) (.int 1) = some (.int (k.lo : Nat)) := kd_1
    have k2 : dIx (kdD k) (.int 2) = some (.int (k.hi : Nat)) := kd_2
    have d2 : dTup [.int (k.lo : Nat), .int (k.hi : Nat)] = some (.tup [.int (k.lo : Nat), .int (k.hi : Nat)]) := rfl
    show mN dTup (mCons (m2 dIx (mV 4) (mC (.int 1))) (mCons (m2 dIx (mV 4) (mC (.int 2))) mNil)) [some Z, some (.int (p : Nat)), some (.int 0), none, some (kdD k)] = _
    unfold prD
    generalize kdD k = kk at *
    exists k1, k2, d2⟩
  have gs : gSq Z = some ((kdS t).map kdD) := by rw [hZ]; rfl
  have kl2 : kLn (.ok (((kdS t).filter fun k => decide (p ∈ k.e)).map prD)) = .ok (.lst (((kdS t).filter fun k => decide (p ∈ k.e)).map prD)) := kLn_ok (by
    have := List.length_filter_le (fun k : Kd => decide (p ∈ k.e)) (kdS t)
    rw [List.length_map, LNe]; omega)
  have so := sort_pr (xs := (kdS t).filter fun k => decide (p ∈ k.e))
  obtain ⟨p3, e⟩ := walk_run (g := some Z) (pl := some (.int (p : Nat))) (o4 := none) (at_ t p) 0 (p + 1) none (run_at hp)
  have e : sLoop (gSet 3) l1_law_shared_out ((at_ t p).map prD) [some Z, some (.int (p : Nat)), some (.int 0), none, none] = .ok (.nx [some Z, some (.int (p : Nat)), some (.int ((p : Nat) + 1)), p3, none]) := by
    have := e
    unfold iD at this
    rw [show (((p + 1 : Nat) : Nat) : Int) = (p : Nat) + 1 by omega] at this
    exact this
  have so : dSort (.lst (((kdS t).filter fun k => decide (p ∈ k.e)).map prD)) = some (.lst ((at_ t p).map prD)) := so
  generalize ((kdS t).filter fun k => decide (p ∈ k.e)).map prD = F at *
  generalize (at_ t p).map prD = A at *
  generalize (kdS t).map kdD = KK at *
  exists m_law_shared_out, b_law_shared_out, c1_law_shared_out, gs, lc, kl2, so, e
/-! ### all lengths together -/
theorem sum_swap {α : Type} (P : α → Nat → Bool) (M : List Nat) : ∀ K : List α, (M.map fun m => (K.filter fun k => P k m).length).sum = (K.map fun k => (M.filter fun m => P k m).length).sum
  | [] => by
    induction M with
    | nil => rfl
    | cons m M ih => rw [List.map_cons, List.sum_cons, ih]; rfl
  | k :: K => by
    rw [List.map_cons, List.sum_cons, ← sum_swap P M K]
    induction M with
    | nil => rfl
    | cons m M ih =>
      rw [List.map_cons, List.sum_cons, ih, List.map_cons, List.sum_cons]
      by_cases c : P k m = true
      · have a1 : (k :: K).filter (fun k => P k m) = k :: K.filter (fun k => P k m) := List.filter_cons_of_pos c
        have a2 : (m :: M).filter (fun m => P k m) = m :: M.filter (fun m => P k m) := List.filter_cons_of_pos c
        rw [a1, a2, List.length_cons, List.length_cons]
        omega
      · have a1 : (k :: K).filter (fun k => P k m) = K.filter (fun k => P k m) := List.filter_cons_of_neg c
        have a2 : (m :: M).filter (fun m => P k m) = M.filter (fun m => P k m) := List.filter_cons_of_neg c
        rw [a1, a2]
        omega
theorem ded_nd {ws : List (List Nat)} : (ded [] ws).Nodup := by
  have : ∀ (zs acc : List (List Nat)), acc.Nodup → (ded acc zs).Nodup := by
    intro zs
    induction zs with
    | nil => intro acc h; exact h
    | cons z zs ih =>
      intro acc h
      unfold ded
      refine ih _ ?_
      split
      · exact h
      · rename_i n
        exact List.nodup_append.mpr ⟨h, by simp, fun x m y m2 e => n (by rw [← List.mem_singleton.mp m2, ← e]; exact m)⟩
  exact this _ _ List.nodup_nil
theorem cnt_eq {t : List Nat} {m : Nat} (h1 : 1 ≤ m) (h2 : m ≤ t.length) : cnt t m = ((kdS t).filter fun k => decide (k.lo ≤ m ∧ m ≤ k.hi)).length := by
  have wmem : ∀ w, w ∈ ded [] (wordsOf t m) ↔ ∃ s, s + m ≤ t.length ∧ w = wd t s m := fun w => by
    rw [mem_ded]
    unfold wordsOf wordAt wd
    constructor
    · rintro (z | z)
      · cases z
      · obtain ⟨s, ms, rfl⟩ := List.mem_map.mp z
        have := List.mem_range.mp ms
        exact ⟨s, by omega, rfl⟩
    · rintro ⟨s, hs, rfl⟩
      exact .inr (List.mem_map.mpr ⟨s, List.mem_range.mpr (by omega), rfl⟩)
  obtain ⟨G, hG⟩ : ∃ G, G = (kdS t).filter fun k => decide (k.lo ≤ m ∧ m ≤ k.hi) := ⟨_, rfl⟩
  have gm : ∀ k, k ∈ G ↔ k ∈ kdL t ∧ k.lo ≤ m ∧ m ≤ k.hi := fun k => by
    rw [hG, List.mem_filter, decide_eq_true_iff, mem_kdS]
  rw [← hG]
  have ge : ∀ k ∈ G, en t (wd t (k.p + 1 - m) m) = k.e := fun k mk => by
    obtain ⟨a, b, c⟩ := (gm k).mp mk
    have i := kd_is a
    exact i.ends k.p i.hd m b c
  have nd : (G.map fun k => wd t (k.p + 1 - m) m).Nodup := by
    refine map_nd (by rw [hG]; exact List.Pairwise.filter _ kdS_nd) fun a ma b mb e => ?_
    refine kd_uniq ((gm a).mp ma).1 ((gm b).mp mb).1 ?_
    rw [← ge a ma, ← ge b mb, e]
  have l1 := sub_len (B := ded [] (wordsOf t m)) nd fun w mw => by
    obtain ⟨k, mk, rfl⟩ := List.mem_map.mp mw
    obtain ⟨a, b, c⟩ := (gm k).mp mk
    have i := kd_is a
    have := i.lt k.p i.hd
    exact (wmem _).mpr ⟨_, by omega, rfl⟩
  have l2 := sub_len (B := G.map fun k => wd t (k.p + 1 - m) m) (ded_nd (ws := wordsOf t m)) fun w mw => by
    obtain ⟨s, hs, rfl⟩ := (wmem w).mp mw
    have oc : Occ t (wd t s m) := ⟨s, m, h1, hs, rfl⟩
    obtain ⟨k, mk, e⟩ := kd_has oc
    have i := kd_is mk
    have a := i.all _ oc e.symm
    rw [wd_len hs] at a
    refine List.mem_map.mpr ⟨k, (gm k).mpr ⟨mk, a.1, a.2⟩, ?_⟩
    have hd := i.hd
    rw [e] at hd
    have := word_at hd
    rw [wd_len hs] at this
    exact this.symm
  rw [List.length_map] at l1 l2
  show (ded [] (wordsOf t m)).length = _
  omega
theorem sum_ok {t : List Nat} : ((List.range' 1 t.length).map fun m => cnt t m).sum = ((kdS t).map fun k => k.hi - k.lo + 1).sum := by
  have e1 : (List.range' 1 t.length).map (fun m => cnt t m) = (List.range' 1 t.length).map fun m => ((kdS t).filter fun k => decide (k.lo ≤ m ∧ m ≤ k.hi)).length := List.map_congr_left fun m mm => by
    rw [List.mem_range'_1] at mm
    exact cnt_eq (by omega) (by omega)
  rw [e1, sum_swap (fun (k : Kd) m => decide (k.lo ≤ m ∧ m ≤ k.hi))]
  congr 1
  refine List.map_congr_left fun k mk => ?_
  have i := kd_is (mem_kdS.mp mk)
  have bd := kd_bd i
  have po := i.pos
  have le := i.le
  have : (List.range' 1 t.length).filter (fun m => decide (k.lo ≤ m ∧ m ≤ k.hi)) = List.range' k.lo (k.hi + 1 - k.lo) := asc_ext (List.Pairwise.filter _ List.pairwise_lt_range') List.pairwise_lt_range' fun x => by
    rw [List.mem_filter, List.mem_range'_1, List.mem_range'_1, decide_eq_true_iff]
    omega
  rw [this, List.length_range']
  omega
/-! ### the law -/
theorem nest1 {t : List Nat} (ht : IsText t) {Z : D} (hZ : Z = .lst ((kdS t).map kdD)) : ∃ p2 p4, sLoop (gSet 2) l2_law_nest (rngL 0 (kdS t).length) [some (.str t), some Z, none, none, none, none] = .ok (.nx [some (.str t), some Z, p2, none, p4, none]) := by
  have tl := ht.1.2
  have kl := kdL_len (t := t) (by omega)
  rw [← (kdS_perm t).length_eq] at kl
  have at_k : ∀ i, i < (kdS t).length → ∃ k, k ∈ kdL t ∧ (kdS t)[i]? = some k ∧ dIx Z (.int (i : Nat)) = some (kdD k) := fun i hi => by
    obtain ⟨k, hk⟩ : ∃ k, (kdS t)[i]? = some k := ⟨_, List.getElem?_eq_getElem hi⟩
    exact ⟨k, mem_kdS.mp (List.mem_of_getElem? hk), hk, by rw [hZ, r_ixn, List.getElem?_map, hk]; rfl⟩
  obtain ⟨ρ', e, p2, p4, rfl⟩ := loop_pre (T := gSet 2) (b := l2_law_nest) (fun _ ρ => ∃ p2 p4, ρ = [some (.str t), some Z, p2, none, p4, none]) iD (List.range (kdS t).length) [some (.str t), some Z, none, none, none, none] ⟨none, none, rfl⟩ (by
    rintro pre i post ρ hq ⟨p2, p4, rfl⟩
    have hi : i < (kdS t).length := List.mem_range.mp (by rw [hq]; simp)
    obtain ⟨k, mk, hk, ix⟩ := at_k i hi
    have ik := kd_is mk
    have f1 := is_kind_ok (t := t) (by omega) ik
    have f2 := whole_ok (t := t) (by omega) ik
    obtain ⟨ρ2, e2, q4, rfl⟩ := loop_pre (T := gSet 4) (b := l1_law_nest) (fun _ ρ => ∃ q4, ρ = [some (.str t), some Z, some (iD i), none, q4, none]) iD (List.range i) [some (.str t), some Z, some (iD i), none, p4, none] ⟨p4, rfl⟩ (by
      rintro pre2 j post2 ρ hq2 ⟨q4, rfl⟩
      have hj : j < i := List.mem_range.mp (by rw [hq2]; simp)
      obtain ⟨k', mk', hk', ix'⟩ := at_k j (by omega)
      have ne : k'.e ≠ k.e := fun z => by
        have : k' = k := kd_uniq mk' mk z
        subst this
        obtain ⟨b1, c1⟩ := List.getElem?_eq_some_iff.mp hk'
        obtain ⟨b2, c2⟩ := List.getElem?_eq_some_iff.mp hk
        exact List.pairwise_iff_getElem.mp (kdS_nd (t := t)) j i b1 b2 hj (c1.trans c2.symm)
      have f3 := nested_ok (t := t) (by omega) (kd_is mk') ik ne
      have run : l1_law_nest [some (.str t), some Z, some (iD i), none, some (iD j), none] = .ok (.nx [some (.str t), some Z, some (iD i), none, some (iD j), none]) := by
        generalize kdD k = kk at *
        generalize kdD k' = kk' at *
        unfold iD
        exists l1_law_nest, i3_law_nest, ix, ix', f3
      exact ot_nx rfl run ⟨_, rfl⟩)
    have g : gR1 [iD i] = some ((List.range i).map iD) := by
      unfold iD
      rw [r_R1n (by omega), rng_iD]; rfl
    have run : l2_law_nest [some (.str t), some Z, some (iD i), none, p4, none] = .ok (.nx [some (.str t), some Z, some (iD i), none, q4, none]) := by
      have ix : dIx Z (iD i) = some (kdD k) := ix
      generalize kdD k = kk at *
      generalize (List.range i).map iD = R at *
      generalize iD i = ii at *
      exists l2_law_nest, i2_law_nest, ix, f1, f2, g, e2
    exact ot_nx rfl run ⟨_, _, rfl⟩)
  rw [rng_iD]
  exact ⟨p2, p4, e⟩
theorem nest_ok {t : List Nat} (ht : IsText t) : m_law_nest [.str t, .lst ((kdS t).map kdD)] = .ok (.bl true) := by
  have tl := ht.1.2
  have t1 := ht.1.1
  have kl := kdL_len (t := t) (by omega)
  have kc := kd_count t1
  rw [← (kdS_perm t).length_eq] at kl kc
  obtain ⟨Z, hZ⟩ : ∃ Z, Z = D.lst ((kdS t).map kdD) := ⟨_, rfl⟩
  obtain ⟨p2, p4, e1⟩ := nest1 ht hZ
  obtain ⟨ρ', e2, p3, rfl⟩ := loop_pre (T := gSet 3) (b := l3_law_nest) (fun _ ρ => ∃ p3, ρ = [some (.str t), some Z, p2, p3, p4, none]) iD (List.range t.length) [some (.str t), some Z, p2, none, p4, none] ⟨none, rfl⟩ (by
    rintro pre p post ρ hq ⟨p3, rfl⟩
    have hp : p < t.length := List.mem_range.mp (by rw [hq]; simp)
    have f := shared_ok (t := t) (by omega) hp
    rw [← hZ] at f
    have run : l3_law_nest [some (.str t), some Z, p2, some (iD p), p4, none] = .ok (.nx [some (.str t), some Z, p2, some (iD p), p4, none]) := by
      unfold iD
      exists l3_law_nest, i4_law_nest, f
    exact ot_nx rfl run ⟨_, rfl⟩)
  have lZ : dLen [Z] = some (.int ((kdS t).length : Nat)) := by rw [hZ, dLen_l, List.length_map]
  have lt : dLen [.str t] = some (.int (t.length : Nat)) := r_len_s (by omega)
  have iz : dIsi "list" Z = some (.bl true) := by
    rw [hZ]
    exact congrArg (fun b => some (D.bl b)) isl_4
  have mx : dMax2 [.int 1, .int (2 * (t.length : Nat) - 2)] = some (.int (max 1 (2 * t.length - 2) : Nat)) := by
    show some (D.int (if (2 * ((t.length : Nat) : Int) - 2) > 1 then _ else _)) = _
    split <;> congr 2 <;> omega
  have mu : dMul (.int 2) (.int (t.length : Nat)) = some (.int (2 * (t.length : Nat))) := r_mul (by omega) (by omega) (by omega) (by omega)
  have cmp : ¬ ((max 1 (2 * t.length - 2) : Nat) : Int) < ((kdS t).length : Nat) := by omega
  have g1 : gR1 [.int ((kdS t).length : Nat)] = some (rngL 0 (kdS t).length) := r_R1n (by omega)
  have g2 : gR1 [.int (t.length : Nat)] = some ((List.range t.length).map iD) := by rw [r_R1n (by omega), rng_iD]
  have lc := lc_fm (T := gSet 5) (ft := mYes) (fe := m2 dAdd (m2 dSub (m2 dIx (mV 5) (mC (.int 2))) (m2 dIx (mV 5) (mC (.int 1)))) (mC (.int 1))) (ρ := [some (.str t), some Z, p2, p3, p4, none]) kdD (fun _ => true) (fun k => iD (k.hi - k.lo + 1)) (xs := kdS t) fun k mk => ⟨_, rfl, rfl, fun _ => by
    have k1 : dIx (kdD k) (.int 1) = some (.int (k.lo : Nat)) := kd_1
    have k2 : dIx (kdD k) (.int 2) = some (.int (k.hi : Nat)) := kd_2
    have le := (kd_is (mem_kdS.mp mk)).le
    have c : ((k.hi : Nat) : Int) - (k.lo : Nat) + 1 = ((k.hi - k.lo + 1 : Nat) : Int) := by omega
    show m2 dAdd (m2 dSub (m2 dIx (mV 5) (mC (.int 2))) (m2 dIx (mV 5) (mC (.int 1)))) (mC (.int 1)) [some (.str t), some Z, p2, p3, p4, some (kdD k)] = _
    generalize kdD k = kk at *
    unfold iD
    exists k1, k2, c⟩
  rw [List.filter_eq_self.mpr (fun _ _ => rfl)] at lc
  have kl2 : kLn (.ok ((kdS t).map fun k => iD (k.hi - k.lo + 1))) = .ok (.lst ((kdS t).map fun k => iD (k.hi - k.lo + 1))) := kLn_ok (by rw [List.length_map, LNe]; omega)
  have s1 : dSumL [.lst ((kdS t).map fun k => iD (k.hi - k.lo + 1))] = some (.int (((kdS t).map fun k => k.hi - k.lo + 1).sum : Nat)) := by
    have := PH.sumN (ls := (kdS t).map fun k => k.hi - k.lo + 1)
    rw [List.map_map] at this
    exact this
  have lcn : m_law_counts [.str t] = .ok (.lst ((PF.cnts t).map .int)) := K03.law_counts_ok (by omega)
  have s2 : dSumL [.lst ((PF.cnts t).map .int)] = some (.int (((kdS t).map fun k => k.hi - k.lo + 1).sum : Nat)) := by
    rw [← sum_ok]
    have := PH.sumN (ls := (List.range' 1 t.length).map fun m => cnt t m)
    rw [List.map_map] at this
    have e : (PF.cnts t).map D.int = (List.range' 1 t.length).map ((fun x : Nat => D.int x) ∘ fun m => cnt t m) := by
      unfold PF.cnts
      rw [List.map_map, List.range'_eq_map_range, List.map_map]
      refine List.map_congr_left fun x _ => ?_
      show D.int (cnt t (x + 1) : Nat) = D.int (cnt t (1 + x) : Nat)
      rw [Nat.add_comm]
    rw [e]
    exact this
  have gs : gSq Z = some ((kdS t).map kdD) := by rw [hZ]; rfl
  rw [← hZ]
  generalize ((((kdS t).map fun k => k.hi - k.lo + 1).sum : Nat) : Int) = S at *
  generalize rngL 0 (kdS t).length = R1 at *
  generalize (List.range t.length).map iD = R2 at *
  generalize ((kdS t).map fun k => iD (k.hi - k.lo + 1)) = FF at *
  generalize (kdS t).map kdD = KK at *
  generalize (PF.cnts t).map D.int = CC at *
  generalize ((max 1 (2 * t.length - 2) : Nat) : Int) = mm at *
  generalize (((kdS t).length : Nat) : Int) = nn at *
  exists m_law_nest, b_law_nest, i1_law_nest, iz, lZ, lt, mu, mx, cmp, g1, e1, g2, e2, c1_law_nest, gs, lc, kl2, s1, lcn, s2
end K05
set_option linter.all false
set_option maxRecDepth 100000
set_option maxHeartbeats 4000000
/-! # the law holds -/
namespace K05
open PD PM PY KD
theorem fits1 {ds : List Int} {a : Int} (h : Fits ds [a]) : ∃ x0, ds = [x0] ∧ (0 ≤ x0 ∧ x0 < a) := by
  match ds, h with
  | [x0], ⟨h0, _⟩ => exact ⟨x0, rfl, h0⟩
theorem noLs_ints : ∀ {E : List Nat}, noLs (E.map iD) = true
  | [] => rfl
  | a :: E => by
    rw [List.map_cons]
    unfold noLs
    rw [noLs_ints (E := E)]; rfl
theorem noL_kd {k : Kd} : noL (kdD k) = true := by
  show noLs [D.tup (k.e.map iD), iD k.lo, iD k.hi] = true
  unfold noLs
  show (noLs (k.e.map iD) && noLs [iD k.lo, iD k.hi]) = true
  rw [noLs_ints]; rfl
theorem noLs_kd : ∀ {K : List Kd}, noLs (K.map kdD) = true
  | [] => rfl
  | k :: K => by
    rw [List.map_cons]
    unfold noLs
    rw [noL_kd, noLs_kd (K := K)]; rfl
theorem law_ok : ∀ ns : List Int, ns.length ≤ 63 → (∀ z ∈ ns, PySem.Builtin.Int.intBits z ≤ 1048576) → m_law [.scr ns] = .ok (.bl true) := by
  intro ns _ hb
  have c0 : m_law_cell [.scr ns, .int 0] = .ok (.int (ns.getD 0 0)) := cell_ok ns 0
  have c1 : m_law_cell [.scr ns, .int 1] = .ok (.int (ns.getD 1 0)) := cell_ok ns 1
  have c2 : m_law_cell [.scr ns, .int 2] = .ok (.int (ns.getD 2 0)) := cell_ok ns 2
  have b0 := cell_small hb 0
  have b1 := cell_small hb 1
  have b2 := cell_small hb 2
  generalize ns.getD 0 0 = z0 at *
  generalize ns.getD 1 0 = z1 at *
  generalize ns.getD 2 0 = z2 at *
  clear hb
  obtain ⟨ds, e1, hf1⟩ := draws_ok z1 [12] b1 (by decide) (by decide)
  obtain ⟨y, rfl, _⟩ := fits1 hf1
  simp only [List.map_cons, List.map_nil] at e1
  obtain ⟨A, eA, a1, a2, a3⟩ := text_ok z0 40 b0 (by decide) (by decide)
  obtain ⟨B, eB, q1, q2, q3⟩ := text_ok z0 24 b0 (by decide) (by decide)
  obtain ⟨C, eC, r1, r2, r3⟩ := text_ok z2 9 b2 (by decide) (by decide)
  have tA : IsText A := ⟨⟨a1, by omega⟩, a3⟩
  have tB : IsText B := ⟨⟨q1, by omega⟩, q3⟩
  have tC : IsText C := ⟨⟨r1, by omega⟩, r3⟩
  have gy : dIx (.lst [.int y]) (.int 0) = some (.int y) := rfl
  have kC := kinds_ok tC
  have hC := nest_ok tC
  have fin : ∀ (T : List Nat) (mo : Int), IsText T → m_law_text [.int z0, .int mo] = .ok (.str T) → i1_law [some (.scr ns), some (.int 24), none, none, none, none] = .ok (.nx [some (.scr ns), some (.int mo), none, none, none, none]) → m_law [.scr ns] = .ok (.bl true) := fun T mo tT eT s3 => by
    have k1 := kinds_ok tT
    have h1 := nest_ok tT
    have sm := same_kinds tT
    obtain ⟨K, I, hI⟩ : ∃ K I, kdS T = K :: I := by
      cases q : kdS T with
      | nil => exact absurd q (kdS_ne tT)
      | cons K I => exact ⟨K, I, rfl⟩
    have kl := kdL_len (t := T) (by have := tT.1.2; omega)
    rw [← (kdS_perm T).length_eq] at kl
    have zl : ((kdS T).map kdD).length < 1000000 := by rw [List.length_map]; omega
    have nl : mNLL (mN dListOf (mCons (mV 4) mNil)) [some (.scr ns), some (.int mo), some (.str T), some (.str C), some (.lst ((kdS T).map kdD)), none] = .ok (.lst ((kdS T).map kdD)) := by
      show (if noLs ((kdS T).map kdD) = true then _ else _) = _
      rw [noLs_kd, if_pos rfl]
    have x0 : dIx (.lst ((kdS T).map kdD)) (.int 0) = some (kdD K) := by rw [hI, List.map_cons]; exact r_ixn (k := 0)
    have nb : gNoL (.bl true) = .ok (.bl true) := rfl
    generalize (kdS T).map kdD = Z at *
    generalize (kdS C).map kdD = ZC at *
    generalize kdD K = kk at *
    clear hI
    exists m_law, b_law, s3, c0, eT, c2, eC, k1, i2_law, h1, nb, nl, x0, zl, kC, hC, sm
  by_cases h : y = 11
  · refine fin A 40 tA eA ?_
    exists i1_law, c1, e1, gy, h
  · refine fin B 24 tB eB ?_
    exists i1_law, c1, e1, gy, h
end K05
set_option Elab.async false
set_option linter.all false
set_option maxRecDepth 100000
open PySem PySem.W PyProof.Rows
set_option maxHeartbeats 0 in
theorem PySem.Challenge.cw_pressroots_k05_whole_kinds_nest_holds : PySem.Challenge.rw_pressroots_k05_whole_kinds_nest.Holds := by
  w_on; o_law
  refine holds_open (q := HH.q) (loose := HH.loose) (Xt := HH.Xt) (XP := XL HH.q []) (Yf := Hook.obs HH.H) (Ya := Hook.val HH.H) (YP := Hook.says HH.H) (N := 41000) HH.left (Hook.of HH.H) (Hook.keeps HH.H) (fun s e => xl_of s (Bool.and_eq_true_iff.mp e).1) XL.keeps (by rfl) (by rfl) (by rfl) (fun s e => recFacts_of (Bool.and_eq_true_iff.mp e).2) (by rfl) (by first | assumption | decide +kernel) (by decide +kernel) ⟨rfl, rfl, rfl, rfl, rfl, by decide +kernel⟩ ?hw ?hc
  case hw => w_witness2
  k_fill
  refine PD.walk_tabs (l := PySem.Challenge.rw_pressroots_k05_whole_kinds_nest) (n := 63) (k := 11) (x := "script") (CX := fun w => L2.CX PySem.Challenge.rw_pressroots_k05_whole_kinds_nest.prog w) rfl (by decide) rfl ⟨rfl, by decide, by decide⟩ (fun w h Y => PySem.W.kIn_of Y) ?F (fun w H s e s' z => PD.cx_false z)
  case F =>
    intro w mg fa h Y KX G hmg own
    refine' K05.at_law KX G hmg (fun f hm => own "is_text" f (by decide +kernel) hm) (fun f hm => own "kinds" f (by decide +kernel) hm) ?xa0 ?a0 ?l0 ?d0 ?k0 ?a1 ?l1 ?d1 ?k1 ?a2 ?l2 ?d2 ?k2 ?a3 ?l3 ?d3 ?k3 ?a4 ?l4 ?d4 ?k4 ?g4 ?h4 ?m4 ?n4 ?a5 ?l5 ?d5 ?k5 ?a6 ?l6 ?d6 ?k6 ?a7 ?l7 ?d7 ?k7 ?a8 ?l8 ?d8 ?k8 ?g8 ?h8 ?m8 ?n8 ?a9 ?l9 ?d9 ?k9 ?a10 ?l10 ?d10 ?k10 ?a11 ?l11 ?d11 ?k11 ?a12 ?l12 ?d12 ?k12 ?a13 ?l13 ?d13 ?k13 ?a14 ?l14 ?d14 ?k14 ?a15 ?l15 ?d15 ?k15 ?a16 ?l16 ?d16 ?k16 ?a17 ?l17 ?d17 ?k17 ?a18 ?l18 ?d18 ?k18 ?a19 ?l19 ?d19 ?k19 ?xb0 ?xk0 ?xd0 ?xe0 ?dj4_8 ?zabs ?zall ?zbool ?zcLETTERS ?ycLETTERS_ ?zcMOST ?zint ?zisinstance ?zlen ?zlist ?zmax ?zmin ?zrange ?zset ?zsorted ?zstr ?zsum ?ztuple K05.law_ok
    (case xa0 => k_is)
    (case a0 => k_is)
    (case l0 => k_is)
    (case d0 => k_is)
    (case k0 => k_is)
    (case a1 => k_is)
    (case l1 => k_is)
    (case d1 => k_is)
    (case k1 => k_is)
    (case a2 => k_is)
    (case l2 => k_is)
    (case d2 => k_is)
    (case k2 => k_is)
    (case a3 => k_is)
    (case l3 => k_is)
    (case d3 => k_is)
    (case k3 => k_is)
    (case a4 => k_is)
    (case l4 => k_is)
    (case d4 => k_is)
    (case k4 => k_is)
    (case g4 => k_is)
    (case h4 => rfl)
    (case m4 => first | rfl | with_unfolding_all rfl | kernel_rfl)
    (case n4 => first | rfl | with_unfolding_all rfl | kernel_rfl)
    (case a5 => k_is)
    (case l5 => k_is)
    (case d5 => k_is)
    (case k5 => k_is)
    (case a6 => k_is)
    (case l6 => k_is)
    (case d6 => k_is)
    (case k6 => k_is)
    (case a7 => k_is)
    (case l7 => k_is)
    (case d7 => k_is)
    (case k7 => k_is)
    (case a8 => k_is)
    (case l8 => k_is)
    (case d8 => k_is)
    (case k8 => k_is)
    (case g8 => k_is)
    (case h8 => rfl)
    (case m8 => first | rfl | with_unfolding_all rfl | kernel_rfl)
    (case n8 => first | rfl | with_unfolding_all rfl | kernel_rfl)
    (case a9 => k_is)
    (case l9 => k_is)
    (case d9 => k_is)
    (case k9 => k_is)
    (case a10 => k_is)
    (case l10 => k_is)
    (case d10 => k_is)
    (case k10 => k_is)
    (case a11 => k_is)
    (case l11 => k_is)
    (case d11 => k_is)
    (case k11 => k_is)
    (case a12 => k_is)
    (case l12 => k_is)
    (case d12 => k_is)
    (case k12 => k_is)
    (case a13 => k_is)
    (case l13 => k_is)
    (case d13 => k_is)
    (case k13 => k_is)
    (case a14 => k_is)
    (case l14 => k_is)
    (case d14 => k_is)
    (case k14 => k_is)
    (case a15 => k_is)
    (case l15 => k_is)
    (case d15 => k_is)
    (case k15 => k_is)
    (case a16 => k_is)
    (case l16 => k_is)
    (case d16 => k_is)
    (case k16 => k_is)
    (case a17 => k_is)
    (case l17 => k_is)
    (case d17 => k_is)
    (case k17 => k_is)
    (case a18 => k_is)
    (case l18 => k_is)
    (case d18 => k_is)
    (case k18 => k_is)
    (case a19 => k_is)
    (case l19 => k_is)
    (case d19 => k_is)
    (case k19 => k_is)
    (case xb0 => k_exc)
    (case xk0 => k_is)
    (case xd0 => k_is)
    (case xe0 => k_is)
    (case dj4_8 => decide)
    (case zabs => k_is)
    (case zall => k_is)
    (case zbool => k_is)
    (case zcLETTERS => k_is)
    (case ycLETTERS_ => first | rfl | decide +kernel)
    (case zcMOST => k_is)
    (case zint => k_is)
    (case zisinstance => k_is)
    (case zlen => k_is)
    (case zlist => k_is)
    (case zmax => k_is)
    (case zmin => k_is)
    (case zrange => k_is)
    (case zset => k_is)
    (case zsorted => k_is)
    (case zstr => k_is)
    (case zsum => k_is)
    (case ztuple => k_is)
