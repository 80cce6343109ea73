import PyProof.Rows.All
import Wide.All
import OpenK.AllK
import HandS.ForMost
import KE.OsRunLaw
import Wide.FinOn
import HandS.ForExc
import HandS.AnyAll
import HandS.Wide
import HandS.StrMore
import HandS.IsInst
import HandS.Codes
import HandS.EndOwn
import HandS.ExcIs
import HandS.TryMany
import HandS.Conv
import HandS.Style
import HandS.SetBool
import HandS.SetKeys
import KE.GoesEnumKw
import KE.GoesEnum
import HandS.CallSlots
import HandS.Dict
import HandS.Text
import HandS.Deep
import PyProof.Rows.SetFrom
import HandS.FltList
import HandS.DictTup
import HandS.Iter
import KE.KExcSuper
import HandS.ExcInit
import KE.KExcIs
import HandS.ExcField
import HandS.FStr
import HandS.RaiseMore
import HandS.Zip
import KE.GoesMore
import KE.KOpsOwn
import HandS.IterVal
import HandS.OwnIter
import PySem.Challenge.RW_pressroots_k18_rules_form
set_option Elab.async false
set_option linter.all false
set_option maxRecDepth 100000
namespace PZh
open PySem PySem.W PySem.Calls PyProof.Rows HeadRun
end PZh
namespace PZh
open PySem PySem.W PySem.Calls PyProof.Rows HeadRun
theorem ofF {P : Prop} (F : False) : P := F.elim
noncomputable def tt (_ : True) : Prop := True
noncomputable def P0 : Params := { strHash := fun _ => 0, shareClass := fun _ => 0, mergeTok := fun t => t, idOf := fun _ => 0, idOfShared := fun _ _ => 0, followText := fun _ => false, idOfImm := fun _ => 0 }
theorem cutL {S : Type} {o : Option S} {F : S → Addr → Option Obj} {as : List Addr} {bs : List (Option Obj)} (n : Nat) (e1 : o.map (fun s => (as.take n).map (F s)) = some (bs.take n)) (e2 : o.map (fun s => (as.drop n).map (F s)) = some (bs.drop n)) :
    o.map (fun s => as.map (F s)) = some bs := by
  cases o with
  | none => cases e1
  | some s =>
    have h1 : (as.take n).map (F s) = bs.take n := Option.some.inj e1
    have h2 : (as.drop n).map (F s) = bs.drop n := Option.some.inj e2
    show some (as.map (F s)) = some bs
    rw [← List.take_append_drop n as, List.map_append, h1, h2, List.take_append_drop]
end PZh
namespace PZh
open PySem PySem.W PySem.Calls PyProof.Rows HeadRun
noncomputable def c1 {A B : Type} (x : A × B) : A := Prod.casesOn x fun a _ => a
noncomputable def c2 {A B : Type} (x : A × B) : B := Prod.casesOn x fun _ b => b
theorem glue {S A1 A2 A3 A4 A5 A6 A7 A8 A9 C : Type} {o : Option S} {l : S → Bool} {f : S → A1 × A2 × A3 × A4 × A5 × A6 × A7 × A8 × A9} {g : S → C} {a1 : A1} {a2 : A2} {a3 : A3} {a4 : A4} {a5 : A5} {a6 : A6} {a7 : A7} {a8 : A8} {a9 : A9} {c : C}
    (e1 : o.map (fun s => (c1 (f s), c1 (c2 (f s)), c1 (c2 (c2 (c2 (c2 (c2 (c2 (f s))))))), c2 (c2 (c2 (c2 (c2 (c2 (c2 (c2 (f s))))))))  )) = some (a1, a2, a7, a9))
    (e2 : o.map (fun s => c1 (c2 (c2 (f s)))) = some a3) (e2' : o.map (fun s => c1 (c2 (c2 (c2 (f s))))) = some a4)
    (e3 : o.map (fun s => c1 (c2 (c2 (c2 (c2 (f s)))))) = some a5) (e3' : o.map (fun s => c1 (c2 (c2 (c2 (c2 (c2 (f s))))))) = some a6)
    (e4 : o.map (fun s => (c1 (c2 (c2 (c2 (c2 (c2 (c2 (c2 (f s)))))))), l s)) = some (a8, true))
    (e5 : o.map g = some c) : o.map (fun s => (l s, f s, g s)) = some (true, (a1, a2, a3, a4, a5, a6, a7, a8, a9), c) := by
  cases o with
  | none => cases e5
  | some s =>
    have h1 := Option.some.inj e1
    have h2 := Option.some.inj e2
    have h2' := Option.some.inj e2'
    have h3 := Option.some.inj e3
    have h3' := Option.some.inj e3'
    have h4 := Option.some.inj e4
    have h5 : g s = c := Option.some.inj e5
    dsimp only at h1 h2 h2' h3 h3' h4
    generalize hx : f s = x at *
    obtain ⟨x1, x2, x3, x4, x5, x6, x7, x8, x9⟩ := x
    simp only [c1, c2, Prod.mk.injEq] at h1 h2 h2' h3 h3' h4
    obtain ⟨rfl, rfl, rfl, rfl⟩ := h1
    subst h2 h2' h3 h3'
    obtain ⟨rfl, h4⟩ := h4
    show some (l s, f s, g s) = _
    rw [hx, h4, h5]
end PZh
set_option Elab.async false
set_option linter.all false
set_option maxRecDepth 100000
set_option maxHeartbeats 0
namespace HH
open PySem PySem.W PySem.Calls PyProof.Rows HeadRun
section
local macro_rules
  | `(tactic| kernel_rfl) => do
    let h := Lean.mkIdent `zzF
    `(tactic| (rename_i a b; revert a b; refine PZh.ofF ?$h))
set_option maxHeartbeats 0 in
theorem made : PZh.tt (by
  refine (?f : (OpenLaw.row PySem.Challenge.rw_pressroots_k18_rules_form).Holds → True) ?x
  case f => exact fun _ => trivial
  case x =>
    k_headL
    all_goals exact PZh.ofF ?zzF) := trivial
end
noncomputable abbrev R : OpenRow := OpenLaw.row PySem.Challenge.rw_pressroots_k18_rules_form
noncomputable abbrev q : Program := made.view_1
noncomputable abbrev loose : List PySem.Str := [PySem.Str.ofString "Copies"]
noncomputable def as : List Addr := (made.heap_1 PZh.P0).map (·.1)
theorem ek : ∀ P, as = (made.heap_1 P).map (·.1) := fun _ => by kernel_rfl
noncomputable abbrev Xt : Shared → Bool := fun s => xlAt q [] s && recOk (RowW.records R.toRowW) s
noncomputable abbrev H : Hook := kHook made.heap_1 as ek
noncomputable abbrev run (w : World) (os : OsState) : Option SharedT := endF (stepQ (denQ tabQ) R.prog w) 40000 R.prog w os
noncomputable abbrev f (s : SharedT) := seenQ q loose (importedModules R.prog.main.body) Xt s.abs
theorem run1 (w : World) (os : OsState) : (run w os).map (fun s => ((PZh.c1 (f s)), (PZh.c1 (PZh.c2 (f s))), (PZh.c1 (PZh.c2 (PZh.c2 (PZh.c2 (PZh.c2 (PZh.c2 (PZh.c2 (f s)))))))), (PZh.c2 (PZh.c2 (PZh.c2 (PZh.c2 (PZh.c2 (PZh.c2 (PZh.c2 (PZh.c2 (f s))))))))))) = some (expectedOf q, bltViewBooted, plainGoodD q loose, clsGoodW q loose) := by
  kernel_rfl
theorem run2 (w : World) (os : OsState) : (run w os).map (fun s => (PZh.c1 (PZh.c2 (PZh.c2 (f s))))) = some (true) := by
  kernel_rfl
theorem run3 (w : World) (os : OsState) : (run w os).map (fun s => (PZh.c1 (PZh.c2 (PZh.c2 (PZh.c2 (f s)))))) = some (true) := by
  kernel_rfl
theorem run4 (w : World) (os : OsState) : (run w os).map (fun s => (PZh.c1 (PZh.c2 (PZh.c2 (PZh.c2 (PZh.c2 (f s))))))) = some (pinGoodD (drecsOf q)) := by
  kernel_rfl
theorem run5 (w : World) (os : OsState) : (run w os).map (fun s => (PZh.c1 (PZh.c2 (PZh.c2 (PZh.c2 (PZh.c2 (PZh.c2 (f s)))))))) = some (plainGoodE q (looseW q loose)) := by
  kernel_rfl
theorem run6 (w : World) (os : OsState) : (run w os).map (fun s => ((PZh.c1 (PZh.c2 (PZh.c2 (PZh.c2 (PZh.c2 (PZh.c2 (PZh.c2 (PZh.c2 (f s))))))))), looksF R.prog (boot_heap w.params) s.abs)) = some (wideGood q, true) := by
  kernel_rfl
noncomputable abbrev bs (w : World) : List (Option Obj) := (made.heap_1 w.params).map fun x => some x.2
theorem runC1 (w : World) (os : OsState) : (run w os).map (fun s => ((as).take 170).map (getT s)) = some ((bs w).take 170) := by
  kernel_rfl
theorem runC2 (w : World) (os : OsState) : (run w os).map (fun s => (((as).drop 170).take 170).map (getT s)) = some (((bs w).drop 170).take 170) := by
  kernel_rfl
theorem runC3 (w : World) (os : OsState) : (run w os).map (fun s => (((as).drop 170).drop 170).map (getT s)) = some (((bs w).drop 170).drop 170) := by
  kernel_rfl
theorem left : LeftO R.prog q loose Xt (Hook.obs H) (Hook.val H) 41000 true :=
  left_oneK (M := 40000) (by kernel_rfl) (by rfl) (fun s => by kernel_rfl) (by rfl) fun w os => PZh.glue (run1 w os) (run2 w os) (run3 w os) (run4 w os) (run5 w os) (run6 w os) (PZh.cutL 170 (runC1 w os) (PZh.cutL 170 (runC2 w os) (runC3 w os)))
end HH
set_option Elab.async false
set_option linter.all false
set_option maxRecDepth 100000
set_option maxHeartbeats 1000000
/-! Pure data over the hand layer: values, mirrors, ownership. -/
namespace PD
open PySem PySem.Spec PyProof.Rows L2

/-- a dict's key -/
inductive DKey where
  | i (n : Int) | s (t : List Nat)
deriving DecidableEq
noncomputable def DKey.k : DKey → L2.Key
  | .i n => .inl n
  | .s t => .inr ⟨t.toArray⟩
inductive D where
  | non | bl (b : Bool) | int (i : Int) | str (s : List Nat) | lst (xs : List D) | tup (xs : List D) | scr (xs : List Int) | rng (lo hi : Int) | obj (c : Str) (ks : List Str) (vs : List D) | dic (ks : List DKey) (vs : List D) | dct (ks : List (List DKey)) (vs : List D)

inductive R (α : Type) where
  | ok (a : α) | err (c : Str) (fs : List (Str × D)) | stuck
noncomputable def R.bind {α β : Type} (m : R α) (f : α → R β) : R β := match m with
  | .ok a => f a
  | .err c fs => .err c fs
  | .stuck => .stuck
noncomputable instance : Monad R where
  pure := R.ok
  bind := R.bind
theorem bind_ok {α β : Type} (a : α) (f : α → R β) : (R.ok a >>= f) = f a := rfl
theorem bind_err {α β : Type} (c : Str) (fs : List (Str × D)) (f : α → R β) : ((R.err c fs : R α) >>= f) = R.err c fs := rfl
theorem bind_stuck {α β : Type} (f : α → R β) : ((R.stuck : R α) >>= f) = R.stuck := rfl

noncomputable abbrev Env := List (Option D)
inductive Fl where
  | nx (ρ : Env) | rt (d : D) | bk (ρ : Env) | ct (ρ : Env) | ex (c : Str) (fs : List (Str × D)) (ρ : Env)

/-! ### heaps -/
noncomputable def isTbl : HO → Bool
  | .tbl _ => true
  | _ => false
/-- all that was tracked is as it was, but for tables of code objects -/
noncomputable def Sm (H H' : Hp) : Prop := ∀ a o, H a = some o → isTbl o = false → H' a = some o
theorem Sm.refl (H : Hp) : Sm H H := fun _ _ h _ => h
theorem Sm.trans {H H1 H2 : Hp} (a : Sm H H1) (b : Sm H1 H2) : Sm H H2 := fun c o h n => b c o (a c o h n) n
theorem _root_.L2.Same.sm {H H' : Hp} (e : Same H H') : Sm H H' := fun a o h _ => e a o h
noncomputable def NoT (F : Hp) : Prop := ∀ a o, F a = some o → isTbl o = false
theorem Sm.same {H H' : Hp} (e : Sm H H') (n : NoT H) : Same H H' := fun a o h => e a o h (n a o h)
/-- no tracked object but, at most, a table -/
noncomputable def Nw (H : Hp) (a : Addr) : Prop := ∀ o, H a = some o → isTbl o = true
theorem Nw.of {H : Hp} {a : Addr} (h : H a = none) : Nw H a := fun o e => by rw [h] at e; cases e
theorem Nw.no {H : Hp} {a : Addr} {o : HO} (n : Nw H a) (e : H a = some o) (t : isTbl o = false) : False := by
  rw [n o e] at t; cases t
theorem Nw.back {H H' : Hp} {a : Addr} (n : Nw H' a) (e : Sm H H') : Nw H a := fun o h => by
  cases t : isTbl o with
  | true => rfl
  | false => exact (n.no (e a o h t) t).elim
theorem Nw.none {F H : Hp} {a : Addr} (n : Nw H a) (s : Same F H) (t : NoT F) : F a = Option.none := by
  cases q : F a with
  | none => rfl
  | some o => exact (n.no (s a o q) (t a o q)).elim
theorem sm_rd {H H' : Hp} {a : Addr} {u : HO} (e : Sm H H') (nu : isTbl u = false) (h : Rd H a u) : Rd H' a u := by
  rcases h with h | ⟨o, h⟩
  · exact .inl (e _ _ h nu)
  · exact .inr ⟨o, e _ _ h rfl⟩
theorem sm_l {K : PySem.W.Frag} {H H' : Hp} {a : Addr} {xs : List V} (e : Sm H H') (h : SqL K H a xs) : SqL K H' a xs := by
  rcases h with h | h
  · exact .inl (sm_rd e rfl h)
  · exact .inr h
theorem sm_t {K : PySem.W.Frag} {H H' : Hp} {a : Addr} {xs : List V} (e : Sm H H') (h : SqT K H a xs) : SqT K H' a xs := by
  rcases h with h | h
  · exact .inl (sm_rd e rfl h)
  · exact .inr h

/-! ### data -/
mutual
inductive Dat (K : PySem.W.Frag) (F : Hp) : V → D → Prop
  | non : Dat K F .non .non
  | bl {b : Bool} : Dat K F (.bl b) (.bl b)
  | int {i : Int} : Dat K F (.int i) (.int i)
  | str {s : List Nat} : Dat K F (.str ⟨s.toArray⟩) (.str s)
  | lst {a : Addr} {vs : List V} {ds : List D} : F a = some (.lst vs) → DatL K F vs ds → Dat K F (.ref a) (.lst ds)
  | scr {a : Addr} {ns : List Int} : SqL K F a (ns.map V.int) → Dat K F (.ref a) (.scr ns)
  | tup {a : Addr} {vs : List V} {ds : List D} : SqT K F a vs → DatL K F vs ds → Dat K F (.ref a) (.tup ds)
  | rng {a : Addr} {lo hi : Int} : F a = some (.rng lo hi) → Dat K F (.ref a) (.rng lo hi)
  | obj {a C dx : Addr} {c : Str} {ks : List Str} {us : List V} {ds : List D} : PySem.W.nsIn K mainGlobals c = some (some (.ref C)) → F a = some (.ins C dx (ks.zip us)) → ks.length = us.length → DatL K F us ds → Dat K F (.ref a) (.obj c ks ds)
  | dic {a : Addr} {ks : List DKey} {us : List V} {ds : List D} : F a = some (.dK ((ks.map DKey.k).zip us)) → ks.length = us.length → DatL K F us ds → Dat K F (.ref a) (.dic ks ds)
  | dct {a : Addr} {ks : List (List DKey)} {us : List V} {ds : List D} : F a = some (.dT ((ks.map (List.map DKey.k)).zip us)) → ks.length = us.length → DatL K F us ds → Dat K F (.ref a) (.dct ks ds)
inductive DatL (K : PySem.W.Frag) (F : Hp) : List V → List D → Prop
  | nil : DatL K F [] []
  | cons {v : V} {d : D} {vs : List V} {ds : List D} : Dat K F v d → DatL K F vs ds → DatL K F (v :: vs) (d :: ds)
end
section
variable {K : PySem.W.Frag} {F F' H H' : Hp}
mutual
theorem Dat.mono (e : Sm F F') : ∀ {v : V} {d : D}, Dat K F v d → Dat K F' v d
  | _, _, .non => .non
  | _, _, .bl => .bl
  | _, _, .int => .int
  | _, _, .str => .str
  | _, _, .lst h r => .lst (e _ _ h rfl) (DatL.mono e r)
  | _, _, .scr h => .scr (sm_l e h)
  | _, _, .tup h r => .tup (sm_t e h) (DatL.mono e r)
  | _, _, .rng h => .rng (e _ _ h rfl)
  | _, _, .obj c h l r => .obj c (e _ _ h rfl) l (DatL.mono e r)
  | _, _, .dic h l r => .dic (e _ _ h rfl) l (DatL.mono e r)
  | _, _, .dct h l r => .dct (e _ _ h rfl) l (DatL.mono e r)
theorem DatL.mono (e : Sm F F') : ∀ {vs : List V} {ds : List D}, DatL K F vs ds → DatL K F' vs ds
  | _, _, .nil => .nil
  | _, _, .cons h r => .cons (Dat.mono e h) (DatL.mono e r)
end
theorem DatL.length : ∀ {vs : List V} {ds : List D}, DatL K F vs ds → vs.length = ds.length
  | _, _, .nil => rfl
  | _, _, .cons _ r => by rw [List.length_cons, List.length_cons, DatL.length r]
theorem DatL.get : ∀ {vs : List V} {ds : List D} {i : Nat} {d : D}, DatL K F vs ds → ds[i]? = some d → ∃ v, vs[i]? = some v ∧ Dat K F v d
  | _, _, _, _, .nil, e => by simp at e
  | _, _, 0, _, .cons h _, e => by simp at e; subst e; exact ⟨_, rfl, h⟩
  | _, _, i + 1, _, .cons _ r, e => by
    obtain ⟨v, a, b⟩ := DatL.get (i := i) r (by simpa using e)
    exact ⟨v, by simpa using a, b⟩
theorem DatL.append : ∀ {vs ws : List V} {ds es : List D}, DatL K F vs ds → DatL K F ws es → DatL K F (vs ++ ws) (ds ++ es)
  | _, _, _, _, .nil, s => s
  | _, _, _, _, .cons h r, s => .cons h (DatL.append r s)
theorem DatL.take : ∀ {vs : List V} {ds : List D} (n : Nat), DatL K F vs ds → DatL K F (vs.take n) (ds.take n)
  | _, _, 0, _ => .nil
  | _, _, _ + 1, .nil => .nil
  | _, _, n + 1, .cons h r => .cons h (DatL.take n r)
theorem DatL.drop : ∀ {vs : List V} {ds : List D} (n : Nat), DatL K F vs ds → DatL K F (vs.drop n) (ds.drop n)
  | _, _, 0, r => r
  | _, _, _ + 1, .nil => .nil
  | _, _, n + 1, .cons _ r => DatL.drop n r
theorem DatL.set {v : V} {d : D} (h : Dat K F v d) : ∀ {vs : List V} {ds : List D} (i : Nat), DatL K F vs ds → DatL K F (vs.set i v) (ds.set i d)
  | _, _, _, .nil => .nil
  | _, _, 0, .cons _ r => .cons h r
  | _, _, i + 1, .cons a r => .cons a (DatL.set h i r)
end

/-! ### ownership: s shared, b borrowed, l a list of one's own, n all lists in it new -/
inductive Sh where
  | d (bw : Bool) | l (e : Sh) | n | x (v : V) (eo : Option (Addr × List (Str × V))) | i (p C dx : Addr) | q | qt
noncomputable abbrev Sh.s : Sh := .d false
noncomputable abbrev Sh.b : Sh := .d true
noncomputable def Sh.noB : Sh → Bool
  | .d bw => !bw
  | .l e => e.noB
  | .n => true
  | .x _ _ => false
  | .i _ _ _ => true
  | .q => true
  | .qt => true
/-- a slot that holds just this value, whatever it is -/
noncomputable def Sh.isX : Sh → Bool
  | .x _ _ => true
  | _ => false
theorem Sh.noX {sh : Sh} (h : sh.noB = true) : sh.isX = false := by
  cases sh with
  | x _ _ => cases h
  | _ => rfl
noncomputable def isAtom : D → Bool
  | .lst _ => false
  | .tup _ => false
  | .scr _ => false
  | .rng _ _ => false
  | .obj _ _ _ => false
  | .dic _ _ => false
  | .dct _ _ => false
  | _ => true
mutual
inductive Own (K : PySem.W.Frag) (F H : Hp) : Sh → V → D → List Addr → Prop
  | d {bw : Bool} {v : V} {d : D} : Dat K (cond bw H F) v d → Own K F H (.d bw) v d []
  | l {e : Sh} {p : Addr} {vs : List V} {ds : List D} {S : List Addr} : H p = some (.lst vs) → OwnL K F H e vs ds S → Own K F H (.l e) (.ref p) (.lst ds) (p :: S)
  | na {v : V} {d : D} : isAtom d = true → Dat K F v d → Own K F H .n v d []
  | nl {p : Addr} {vs : List V} {ds : List D} {S : List Addr} : H p = some (.lst vs) → OwnL K F H .n vs ds S → Own K F H .n (.ref p) (.lst ds) (p :: S)
  | nt {p : Addr} {vs : List V} {ds : List D} {S : List Addr} : H p = some (.tup vs) → OwnL K F H .n vs ds S → Own K F H .n (.ref p) (.tup ds) (p :: S)
  | i {p C dx : Addr} {c : Str} {ks : List Str} {us : List V} {ds : List D} : PySem.W.nsIn K mainGlobals c = some (some (.ref C)) → H p = some (.ins C dx (ks.zip us)) → ks.length = us.length → DatL K F us ds → Own K F H (.i p C dx) (.ref p) (.obj c ks ds) [p]
  | q {p : Addr} {ks : List DKey} {us : List V} {ds : List D} : H p = some (.dK ((ks.map DKey.k).zip us)) → ks.length = us.length → DatL K F us ds → Own K F H .q (.ref p) (.dic ks ds) [p]
  | qt {p : Addr} {ks : List (List DKey)} {us : List V} {ds : List D} : H p = some (.dT ((ks.map (List.map DKey.k)).zip us)) → ks.length = us.length → DatL K F us ds → Own K F H .qt (.ref p) (.dct ks ds) [p]
inductive OwnL (K : PySem.W.Frag) (F H : Hp) : Sh → List V → List D → List Addr → Prop
  | nil {e : Sh} : OwnL K F H e [] [] []
  | cons {e : Sh} {v : V} {d : D} {vs : List V} {ds : List D} {S S' : List Addr} : Own K F H e v d S → OwnL K F H e vs ds S' → OwnL K F H e (v :: vs) (d :: ds) (S ++ S')
end
section
variable {K : PySem.W.Frag} {F F' H H' : Hp}
mutual
theorem Own.mono (e : Sm F F') (g : Sm H H') : ∀ {sh : Sh} {v : V} {d : D} {S : List Addr}, Own K F H sh v d S → Own K F' H' sh v d S
  | _, _, _, _, .d (bw := false) h => .d (bw := false) (h.mono e)
  | _, _, _, _, .d (bw := true) h => .d (bw := true) (h.mono g)
  | _, _, _, _, .l h r => .l (g _ _ h rfl) (OwnL.mono e g r)
  | _, _, _, _, .na a h => .na a (h.mono e)
  | _, _, _, _, .nl h r => .nl (g _ _ h rfl) (OwnL.mono e g r)
  | _, _, _, _, .nt h r => .nt (g _ _ h rfl) (OwnL.mono e g r)
  | _, _, _, _, .i c h l r => .i c (g _ _ h rfl) l (r.mono e)
  | _, _, _, _, .q h l r => .q (g _ _ h rfl) l (r.mono e)
  | _, _, _, _, .qt h l r => .qt (g _ _ h rfl) l (r.mono e)
theorem OwnL.mono (e : Sm F F') (g : Sm H H') : ∀ {sh : Sh} {vs : List V} {ds : List D} {S : List Addr}, OwnL K F H sh vs ds S → OwnL K F' H' sh vs ds S
  | _, _, _, _, .nil => .nil
  | _, _, _, _, .cons h r => .cons (Own.mono e g h) (OwnL.mono e g r)
end
mutual
/-- where only the owned addresses matter -/
theorem Own.at (e : Sm F F') : ∀ {sh : Sh} {v : V} {d : D} {S : List Addr}, sh.noB = true → Own K F H sh v d S → (∀ a ∈ S, H' a = H a) → Own K F' H' sh v d S
  | _, _, _, _, _, .d (bw := false) h, _ => .d (bw := false) (h.mono e)
  | _, _, _, _, n, .d (bw := true) _, _ => nomatch n
  | _, _, _, _, n, .l h r, k => .l ((k _ List.mem_cons_self).trans h) (OwnL.at e n r fun a m => k a (List.mem_cons_of_mem _ m))
  | _, _, _, _, _, .na a h, _ => .na a (h.mono e)
  | _, _, _, _, _, .nl h r, k => .nl ((k _ List.mem_cons_self).trans h) (OwnL.at e rfl r fun a m => k a (List.mem_cons_of_mem _ m))
  | _, _, _, _, _, .nt h r, k => .nt ((k _ List.mem_cons_self).trans h) (OwnL.at e rfl r fun a m => k a (List.mem_cons_of_mem _ m))
  | _, _, _, _, _, .i c h l r, k => .i c ((k _ List.mem_cons_self).trans h) l (r.mono e)
  | _, _, _, _, _, .q h l r, k => .q ((k _ List.mem_cons_self).trans h) l (r.mono e)
  | _, _, _, _, _, .qt h l r, k => .qt ((k _ List.mem_cons_self).trans h) l (r.mono e)
theorem OwnL.at (e : Sm F F') : ∀ {sh : Sh} {vs : List V} {ds : List D} {S : List Addr}, sh.noB = true → OwnL K F H sh vs ds S → (∀ a ∈ S, H' a = H a) → OwnL K F' H' sh vs ds S
  | _, _, _, _, _, .nil, _ => .nil
  | _, _, _, _, n, .cons h r, k => .cons (Own.at e n h fun a m => k a (List.mem_append_left _ m)) (OwnL.at e n r fun a m => k a (List.mem_append_right _ m))
end
mutual
theorem Own.toB (e : Sm F H) : ∀ {sh : Sh} {v : V} {d : D} {S : List Addr}, Own K F H sh v d S → Dat K H v d
  | _, _, _, _, .d (bw := false) h => h.mono e
  | _, _, _, _, .d (bw := true) h => h
  | _, _, _, _, .l h r => .lst h (OwnL.toB e r)
  | _, _, _, _, .na _ h => h.mono e
  | _, _, _, _, .nl h r => .lst h (OwnL.toB e r)
  | _, _, _, _, .nt h r => .tup (SqT.of h) (OwnL.toB e r)
  | _, _, _, _, .i c h l r => .obj c h l (r.mono e)
  | _, _, _, _, .q h l r => .dic h l (r.mono e)
  | _, _, _, _, .qt h l r => .dct h l (r.mono e)
theorem OwnL.toB (e : Sm F H) : ∀ {sh : Sh} {vs : List V} {ds : List D} {S : List Addr}, OwnL K F H sh vs ds S → DatL K H vs ds
  | _, _, _, _, .nil => .nil
  | _, _, _, _, .cons h r => .cons (Own.toB e h) (OwnL.toB e r)
end
mutual
/-- frozen: F' has what is owned, too -/
theorem Own.frz (e : Sm F F') : ∀ {sh : Sh} {v : V} {d : D} {S : List Addr}, sh.noB = true → Own K F H sh v d S → (∀ a ∈ S, F' a = H a) → Dat K F' v d
  | _, _, _, _, _, .d (bw := false) h, _ => h.mono e
  | _, _, _, _, n, .d (bw := true) _, _ => nomatch n
  | _, _, _, _, n, .l h r, k => .lst ((k _ List.mem_cons_self).trans h) (OwnL.frz e (by exact n) r fun a m => k a (List.mem_cons_of_mem _ m))
  | _, _, _, _, _, .na _ h, _ => h.mono e
  | _, _, _, _, _, .nl h r, k => .lst ((k _ List.mem_cons_self).trans h) (OwnL.frz e rfl r fun a m => k a (List.mem_cons_of_mem _ m))
  | _, _, _, _, _, .nt h r, k => .tup (SqT.of ((k _ List.mem_cons_self).trans h)) (OwnL.frz e rfl r fun a m => k a (List.mem_cons_of_mem _ m))
  | _, _, _, _, _, .i c h l r, k => .obj c ((k _ List.mem_cons_self).trans h) l (r.mono e)
  | _, _, _, _, _, .q h l r, k => .dic ((k _ List.mem_cons_self).trans h) l (r.mono e)
  | _, _, _, _, _, .qt h l r, k => .dct ((k _ List.mem_cons_self).trans h) l (r.mono e)
theorem OwnL.frz (e : Sm F F') : ∀ {sh : Sh} {vs : List V} {ds : List D} {S : List Addr}, sh.noB = true → OwnL K F H sh vs ds S → (∀ a ∈ S, F' a = H a) → DatL K F' vs ds
  | _, _, _, _, _, .nil, _ => .nil
  | _, _, _, _, n, .cons h r, k => .cons (Own.frz e n h fun a m => k a (List.mem_append_left _ m)) (OwnL.frz e n r fun a m => k a (List.mem_append_right _ m))
end
mutual
/-- what is owned is there, and no table -/
theorem Own.there : ∀ {sh : Sh} {v : V} {d : D} {S : List Addr}, Own K F H sh v d S → ∀ a ∈ S, ∃ o, H a = some o ∧ isTbl o = false
  | _, _, _, _, .d _, _, m => by cases m
  | _, _, _, _, .l h r, a, m => by
    rcases List.mem_cons.mp m with e | m
    · subst e; exact ⟨_, h, rfl⟩
    · exact OwnL.there r a m
  | _, _, _, _, .na _ _, _, m => by cases m
  | _, _, _, _, .nl h r, a, m => by
    rcases List.mem_cons.mp m with e | m
    · subst e; exact ⟨_, h, rfl⟩
    · exact OwnL.there r a m
  | _, _, _, _, .nt h r, a, m => by
    rcases List.mem_cons.mp m with e | m
    · subst e; exact ⟨_, h, rfl⟩
    · exact OwnL.there r a m
  | _, _, _, _, .i c h l r, a, m => by
    rcases List.mem_cons.mp m with e | m
    · subst e; exact ⟨_, h, rfl⟩
    · exact (nomatch m)
  | _, _, _, _, .q h l r, a, m => by
    rcases List.mem_cons.mp m with e | m
    · subst e; exact ⟨_, h, rfl⟩
    · exact (nomatch m)
  | _, _, _, _, .qt h l r, a, m => by
    rcases List.mem_cons.mp m with e | m
    · subst e; exact ⟨_, h, rfl⟩
    · exact (nomatch m)
theorem OwnL.there : ∀ {sh : Sh} {vs : List V} {ds : List D} {S : List Addr}, OwnL K F H sh vs ds S → ∀ a ∈ S, ∃ o, H a = some o ∧ isTbl o = false
  | _, _, _, _, .nil, _, m => by cases m
  | _, _, _, _, .cons h r, a, m => by
    rcases List.mem_append.mp m with m | m
    · exact Own.there h a m
    · exact OwnL.there r a m
end
theorem OwnL.length : ∀ {e : Sh} {vs : List V} {ds : List D} {S : List Addr}, OwnL K F H e vs ds S → vs.length = ds.length
  | _, _, _, _, .nil => rfl
  | _, _, _, _, .cons _ r => by rw [List.length_cons, List.length_cons, OwnL.length r]
theorem OwnL.ofDat : ∀ {vs : List V} {ds : List D}, DatL K F vs ds → OwnL K F H .s vs ds []
  | _, _, .nil => .nil
  | _, _, .cons h r => OwnL.cons (S := []) (S' := []) (.d (bw := false) h) (OwnL.ofDat r)
theorem OwnL.datS : ∀ {vs : List V} {ds : List D} {S : List Addr}, OwnL K F H .s vs ds S → DatL K F vs ds ∧ S = []
  | _, _, _, .nil => ⟨.nil, rfl⟩
  | _, _, _, .cons (.d h) r => by
    obtain ⟨a, b⟩ := OwnL.datS r
    exact ⟨.cons h a, by rw [b]; rfl⟩
end

/-! ### the law's environment -/
structure LE where
  K : PySem.W.Frag
  ca : Str → Addr
  T : List Addr

/-- an exception of the class c, its attributes -/
noncomputable def ErrOk (L : LE) (c : Str) (fs : List (Str × D)) (cls : Value) (d : Option Addr) (F : Hp) (H : Hp) : Prop :=
  cls = .ref (L.ca c) ∧ match fs with
    | [] => d = none
    | _ => ∃ dx ws, d = some dx ∧ F dx = some (.xd ws) ∧ ∀ p ∈ fs, ∃ v, ws.lookup p.1 = some v ∧ isAtom p.2 = true ∧ Dat L.K F v p.2

/-- from F in H to F' in H': nothing that stood has changed -/
structure Ext (T : List Addr) (F H F' H' : Hp) : Prop where
  hh : Sm H H'
  ht : ∀ P ∈ T, GxR.TabG H P → GxR.TabG H' P
  ff : Same F F'
  fh : Same F' H'
  hid : ∀ a o, H a = some o → isTbl o = false → F a = none → F' a = none
  nt : NoT F'
section
variable {T : List Addr} {F H F' H' F2 H2 : Hp}
theorem Ext.refl (a : Same F H) (n : NoT F) : Ext T F H F H := ⟨.refl _, fun _ _ h => h, .refl _, a, fun _ _ _ _ h => h, n⟩
theorem Ext.back (e : Ext T F H F' H') {a : Addr} (h : Nw H' a) : Nw H a := h.back e.hh
theorem Ext.trans (a : Ext T F H F' H') (b : Ext T F' H' F2 H2) : Ext T F H F2 H2 :=
  ⟨a.hh.trans b.hh, fun P m h => b.ht P m (a.ht P m h), a.ff.trans b.ff, b.fh, fun c o h t n => b.hid c o (a.hh c o h t) t (a.hid c o h t n), b.nt⟩
theorem Same.none {F H : Hp} (s : Same F H) {p : Addr} (h : H p = none) : F p = none := s.free h
theorem sm_upd {H : Hp} {p : Addr} {o : HO} (h : H p = Option.none) : Sm H (upd H p o) := fun b u e _ => by
  rw [upd_ne (ne_of_none e h)]; exact e
theorem same_upd {H : Hp} {p : Addr} {o : HO} (h : H p = Option.none) : Same H (upd H p o) := fun b u e => by
  rw [upd_ne (ne_of_none e h)]; exact e
theorem tab_upd {H : Hp} {p P : Addr} {o : HO} (h : H p = Option.none) (t : GxR.TabG H P) : GxR.TabG (upd H p o) P := by
  obtain ⟨ps, e, k⟩ := t
  exact ⟨ps, by rw [upd_ne (ne_of_none e h)]; exact e, k⟩
/-- a new object, hidden -/
theorem Ext.newH {p : Addr} {o : HO} (s : Same F H) (n : NoT F) (h : H p = Option.none) : Ext T F H F (upd H p o) :=
  ⟨sm_upd h, fun _ _ t => tab_upd h t, .refl _, s.trans (same_upd h), fun _ _ _ _ q => q, n⟩
/-- a new object, frozen -/
theorem Ext.newF {p : Addr} {o : HO} (s : Same F H) (n : NoT F) (h : H p = Option.none) (t : isTbl o = false) : Ext T F H (upd F p o) (upd H p o) := by
  have hF : F p = Option.none := s.free h
  refine ⟨sm_upd h, fun _ _ t => tab_upd h t, same_upd hF, fun a u e => ?_, fun a u e _ q => ?_, fun a u e => ?_⟩
  · by_cases z : a = p
    · subst z; rw [upd_same] at e ⊢; exact e
    · rw [upd_ne z] at e ⊢; exact s a u e
  · rw [upd_ne (ne_of_none e h)]; exact q
  · by_cases z : a = p
    · subst z; rw [upd_same] at e; cases e; exact t
    · rw [upd_ne z] at e; exact n a u e
/-- what is owned and new becomes frozen -/
noncomputable def frzH (F H : Hp) (S : List Addr) : Hp := fun a => if a ∈ S then H a else F a
theorem frzH_in {S : List Addr} {a : Addr} (h : a ∈ S) : frzH F H S a = H a := if_pos h
theorem frzH_out {S : List Addr} {a : Addr} (h : a ∉ S) : frzH F H S a = F a := if_neg h
theorem frzH_same {S : List Addr} (h : ∀ a ∈ S, F a = Option.none) : Same F (frzH F H S) := fun a o e => by
  by_cases m : a ∈ S
  · rw [h a m] at e; cases e
  · rw [frzH_out m]; exact e
theorem frzH_to {S : List Addr} (s : Same F H) : Same (frzH F H S) H := fun a o e => by
  by_cases m : a ∈ S
  · rw [frzH_in m] at e; exact e
  · rw [frzH_out m] at e; exact s a o e
theorem frzH_nt {S : List Addr} (n : NoT F) (t : ∀ a ∈ S, ∃ o, H a = Option.some o ∧ isTbl o = false) : NoT (frzH F H S) := fun a o e => by
  by_cases m : a ∈ S
  · obtain ⟨o', h1, h2⟩ := t a m
    rw [frzH_in m, h1] at e; cases e; exact h2
  · rw [frzH_out m] at e; exact n a o e
end

/-! ### state -/
structure Bs (L : LE) (F B H : Hp) : Prop where
  fh : Same F H
  bh : Same B H
  fb : ∀ a o, B a = some o → F a = none
  nf : NoT F
  nb : NoT B
  tab : ∀ P ∈ L.T, GxR.TabG H P
structure Rep (L : LE) (fl : List Sh) (F B : Hp) (σ : L2.St) (H : Hp) (ρ : Env) : Prop where
  bs : Bs L F B H
  ls : σ.length = fl.length
  lr : ρ.length = fl.length
  px : ∀ (i : Nat) (v : V) (eo : Option (Addr × List (Str × V))), fl[i]? = some (Sh.x v eo) → σ[i]? = some (some v) ∧ ∀ dx ws, eo = some (dx, ws) → F dx = some (.xd ws)
  sl : ∃ Ss : Nat → List Addr, (∀ i d, ρ[i]? = some (some d) → ∃ v sh, σ[i]? = some (some v) ∧ fl[i]? = some sh ∧ sh.noB = true ∧ Own L.K F H sh v d (Ss i)) ∧
    (∀ i j a, a ∈ Ss i → a ∈ Ss j → i = j) ∧ (∀ i, (Ss i).Nodup) ∧ (∀ i a, a ∈ Ss i → F a = none ∧ B a = none ∧ ∃ o, H a = some o ∧ isTbl o = false)
section
variable {L : LE} {fl : List Sh} {F B H F' H' : Hp} {σ : L2.St} {ρ : Env}
theorem Bs.ext (r : Bs L F B H) (e : Ext L.T F H F' H') : Bs L F' B H' where
  fh := e.fh
  bh := fun a o h => e.hh a o (r.bh a o h) (r.nb a o h)
  fb := fun a o h => e.hid a o (r.bh a o h) (r.nb a o h) (r.fb a o h)
  nf := e.nt
  nb := r.nb
  tab := fun P h => e.ht P h (r.tab P h)
theorem Rep.ext (r : Rep L fl F B σ H ρ) (e : Ext L.T F H F' H') : Rep L fl F' B σ H' ρ := by
  refine ⟨r.bs.ext e, r.ls, r.lr, fun i v eo q => ⟨(r.px i v eo q).1, fun dx ws z => e.ff _ _ ((r.px i v eo q).2 dx ws z)⟩, ?_⟩
  obtain ⟨Ss, h1, h2, h3, h4⟩ := r.sl
  refine ⟨Ss, fun i d q => ?_, h2, h3, fun i a m => ?_⟩
  · obtain ⟨v, sh, a1, a2, a3, a4⟩ := h1 i d q
    exact ⟨v, sh, a1, a2, a3, a4.mono e.ff.sm e.hh⟩
  · obtain ⟨a1, a2, o, a3, a4⟩ := h4 i a m
    exact ⟨e.hid a o a3 a4 a1, a2, o, e.hh a o a3 a4, a4⟩
theorem Rep.refl (r : Rep L fl F B σ H ρ) : Ext L.T F H F H := .refl r.bs.fh r.bs.nf
theorem Rep.get (r : Rep L fl F B σ H ρ) {i : Nat} {d : D} (h : ρ[i]? = some (some d)) : ∃ v, σ[i]? = some (some v) ∧ Dat L.K H v d := by
  obtain ⟨Ss, h1, _⟩ := r.sl
  obtain ⟨v, sh, a1, _, _, a4⟩ := h1 i d h
  exact ⟨v, a1, a4.toB r.bs.fh.sm⟩
theorem Rep.getS (r : Rep L fl F B σ H ρ) {i : Nat} {d : D} (h : ρ[i]? = some (some d)) (hs : fl[i]? = some .s) : ∃ v, σ[i]? = some (some v) ∧ Dat L.K F v d := by
  obtain ⟨Ss, h1, _⟩ := r.sl
  obtain ⟨v, sh, a1, a2, _, a4⟩ := h1 i d h
  rw [hs] at a2
  cases a2
  generalize Ss i = S at a4
  cases a4 with
  | d h => exact ⟨v, a1, h⟩
end
end PD
set_option Elab.async false
set_option linter.all false
set_option maxRecDepth 100000
set_option maxHeartbeats 1000000
namespace PD
open PySem PySem.Spec PyProof.Rows L2

theorem _root_.L2.PE.imp {X : Cx} {e : Expr} {t t' : TE} (h : PE X e t) (k : ∀ σ H Q, t' σ H Q → t σ H Q) : PE X e t' := ⟨fun pins s σ H Q I hw => h.run pins s σ H Q I (k _ _ _ hw)⟩
theorem _root_.L2.PT.imp {X : Cx} {e : Expr} {t t' : TT} (h : PT X e t) (k : ∀ σ H Q, t' σ H Q → t σ H Q) : PT X e t' := ⟨fun pins s σ H Q I hw => h.run pins s σ H Q I (k _ _ _ hw)⟩
theorem _root_.L2.PW.imp {X : Cx} {e : Expr} {t t' : TT} (h : PW X e t) (k : ∀ σ H Q, t' σ H Q → t σ H Q) : PW X e t' := ⟨fun wh pins s σ H Q I hw => h.run wh pins s σ H Q I (k _ _ _ hw)⟩
theorem _root_.L2.PA.imp {X : Cx} {e : List Expr} {t t' : TA} (h : PA X e t) (k : ∀ σ H Q, t' σ H Q → t σ H Q) : PA X e t' := ⟨fun p pins s σ H Q I hw => h.run p pins s σ H Q I (k _ _ _ hw)⟩
theorem _root_.L2.PS.imp {X : Cx} {e : Stmt} {t t' : TS} (h : PS X e t) (k : ∀ D σ H, t' D σ H → t D σ H) : PS X e t' := ⟨fun pins s σ H D I hw => h.run pins s σ H D I (k _ _ _ hw)⟩
theorem _root_.L2.PSs.imp {X : Cx} {e : List Stmt} {t t' : TS} (h : PSs X e t) (k : ∀ D σ H, t' D σ H → t D σ H) : PSs X e t' := ⟨fun pins s σ H D I hw => h.run pins s σ H D I (k _ _ _ hw)⟩

/-! ### readings -/
noncomputable def PostE (L : LE) (F H : Hp) (sh : Sh) (r : R D) (W : WX) (σ : L2.St) (Q : VK) : Prop := match r with
  | .ok d => ∀ v F' H' S, Ext L.T F H F' H' → Own L.K F' H' sh v d S → S.Nodup → (∀ a ∈ S, F' a = none ∧ Nw H a) → Q v H'
  | .err c fs => ∀ cls d F' H', Ext L.T F H F' H' → ErrOk L c fs cls d F' H' → W cls d σ H'
  | .stuck => False
noncomputable def PostT (L : LE) (F H : Hp) (r : R Bool) (W : WX) (σ : L2.St) (Q : Bool → Hp → Prop) : Prop := match r with
  | .ok b => ∀ F' H', Ext L.T F H F' H' → Q b H'
  | .err c fs => ∀ cls d F' H', Ext L.T F H F' H' → ErrOk L c fs cls d F' H' → W cls d σ H'
  | .stuck => False
noncomputable def PostA (L : LE) (F H : Hp) (bw : Bool) (r : R (List D)) (W : WX) (σ : L2.St) (Q : List V → Hp → Prop) : Prop := match r with
  | .ok ds => ∀ vs F' H', Ext L.T F H F' H' → DatL L.K (cond bw H' F') vs ds → Q vs H'
  | .err c fs => ∀ cls d F' H', Ext L.T F H F' H' → ErrOk L c fs cls d F' H' → W cls d σ H'
  | .stuck => False
noncomputable def tD (L : LE) (fl : List Sh) (sh : Sh) (W : WX) (f : Env → R D) : TE := fun σ H Q => ∃ F B ρ, Rep L fl F B σ H ρ ∧ PostE L F H sh (f ρ) W σ Q
noncomputable def tT (L : LE) (fl : List Sh) (W : WX) (f : Env → R Bool) : TT := fun σ H Q => ∃ F B ρ, Rep L fl F B σ H ρ ∧ PostT L F H (f ρ) W σ Q
noncomputable def tA (L : LE) (fl : List Sh) (bw : Bool) (W : WX) (f : Env → R (List D)) : TA := fun σ H Q => ∃ F B ρ, Rep L fl F B σ H ρ ∧ PostA L F H bw (f ρ) W σ Q

/-! ### mirrors of expressions -/
noncomputable def oR {α : Type} : Option α → R α
  | some a => .ok a
  | none => .stuck
noncomputable def mV (i : Nat) : Env → R D := fun ρ => match ρ[i]? with
  | some (some d) => .ok d
  | _ => .stuck
noncomputable def mC (d : D) : Env → R D := fun _ => .ok d
noncomputable def m1 (g : D → Option D) (fa : Env → R D) : Env → R D := fun ρ => fa ρ >>= fun x => oR (g x)
noncomputable def m2 (g : D → D → Option D) (fa fb : Env → R D) : Env → R D := fun ρ => fa ρ >>= fun x => fb ρ >>= fun y => oR (g x y)
noncomputable def mN (g : List D → Option D) (fs : Env → R (List D)) : Env → R D := fun ρ => fs ρ >>= fun xs => oR (g xs)
noncomputable def mNil : Env → R (List D) := fun _ => .ok []
noncomputable def mCons (fa : Env → R D) (fr : Env → R (List D)) : Env → R (List D) := fun ρ => fa ρ >>= fun x => fr ρ >>= fun xs => .ok (x :: xs)
noncomputable def dBool : D → Option Bool
  | .bl b => some b
  | _ => none
noncomputable def mB (f : Env → R D) : Env → R Bool := fun ρ => f ρ >>= fun d => oR (dBool d)
noncomputable def mAnd (f g : Env → R Bool) : Env → R Bool := fun ρ => f ρ >>= fun b => if b = true then g ρ else .ok false
noncomputable def mOr (f g : Env → R Bool) : Env → R Bool := fun ρ => f ρ >>= fun b => if b = true then .ok true else g ρ
noncomputable def mNot (f : Env → R Bool) : Env → R Bool := fun ρ => f ρ >>= fun b => .ok (!b)
noncomputable def mIf (c : Env → R Bool) (f g : Env → R D) : Env → R D := fun ρ => c ρ >>= fun b => if b = true then f ρ else g ρ
noncomputable def mAndV (f g : Env → R D) : Env → R D := fun ρ => f ρ >>= fun d => oR (dBool d) >>= fun b => if b = true then g ρ else .ok (.bl false)
noncomputable def mOrV (f g : Env → R D) : Env → R D := fun ρ => f ρ >>= fun d => oR (dBool d) >>= fun b => if b = true then .ok (.bl true) else g ρ

section
variable {L : LE} {fl : List Sh} {W : WX} {F F' H H' B : Hp} {sh : Sh} {σ : L2.St} {ρ : Env} {r : R D}
theorem dat_cond {K : PySem.W.Frag} {T : List Addr} {bw : Bool} {F H F' H' : Hp} {v : V} {d : D} (h : Dat K (cond bw H F) v d) (e : Ext T F H F' H') : Dat K (cond bw H' F') v d := by
  cases bw with
  | true => exact Dat.mono e.hh h
  | false => exact Dat.mono e.ff.sm h
theorem dat_lift {K : PySem.W.Frag} {bw : Bool} {F H : Hp} {v : V} {d : D} (s : Same F H) (h : Dat K F v d) : Dat K (cond bw H F) v d := by
  cases bw with
  | true => exact Dat.mono s.sm h
  | false => exact h
/-- an atom is shared, wherever it is read -/
theorem dat_atom {K : PySem.W.Frag} {F H : Hp} {v : V} {d : D} (a : isAtom d = true) (h : Dat K H v d) : Dat K F v d := by
  cases h with
  | non => exact .non
  | bl => exact .bl
  | int => exact .int
  | str => exact .str
  | lst _ _ => cases a
  | tup _ _ => cases a
  | scr _ => cases a
  | rng _ => cases a
  | obj _ _ _ _ => cases a
  | dic _ _ _ => cases a
  | dct _ _ _ => cases a
theorem own_d {K : PySem.W.Frag} {bw : Bool} {F H : Hp} {v : V} {d : D} {S : List Addr} (h : Own K F H (.d bw) v d S) : Dat K (cond bw H F) v d ∧ S = [] := by
  cases h with
  | d h => exact ⟨h, rfl⟩
/-- an expression's result, atomic or shared -/
theorem postE_ok {d : D} {v : V} {Q : VK} {bw : Bool} (p : PostE L F H (.d bw) (.ok d) W σ Q) (e : Ext L.T F H F' H') (h : Dat L.K (cond bw H' F') v d) : Q v H' :=
  p v F' H' [] e (.d h) List.nodup_nil (fun a m => nomatch m)
end

/-! ### rules for expressions -/
section
variable {X : Cx} {L : LE} {fl : List Sh} {W : WX} {pos : Pos}
theorem e_var (i : Nat) {x : Str} {pos : Pos} (hN : X.N[i]? = some x := by rfl) (hv : Vis X.env.scope x := by first | exact Or.inl rfl | exact Or.inr (Or.inl rfl) | exact Or.inr (Or.inr rfl)) (hd : (x == ("__debug__" : Str)) = false := by decide)
    (hcd : (x == ("__classdict__" : Str)) = false := by decide) : PE X (.Name x pos) (tD L fl .b W (mV i)) := by
  refine (pv i hN hv hd hcd).imp fun σ H Q ⟨F, B, ρ, r, p⟩ => ?_
  unfold mV at p
  split at p
  · rename_i d e
    obtain ⟨v, a1, a2⟩ := r.get e
    exact ⟨v, a1, postE_ok p r.refl a2⟩
  · exact p.elim
theorem e_varS (i : Nat) {x : Str} {pos : Pos} (hs : fl[i]? = some .s := by rfl) (hN : X.N[i]? = some x := by rfl) (hv : Vis X.env.scope x := by first | exact Or.inl rfl | exact Or.inr (Or.inl rfl) | exact Or.inr (Or.inr rfl)) (hd : (x == ("__debug__" : Str)) = false := by decide)
    (hcd : (x == ("__classdict__" : Str)) = false := by decide) {bw : Bool} : PE X (.Name x pos) (tD L fl (.d bw) W (mV i)) := by
  refine (pv i hN hv hd hcd).imp fun σ H Q ⟨F, B, ρ, r, p⟩ => ?_
  unfold mV at p
  split at p
  · rename_i d e
    obtain ⟨v, a1, a2⟩ := r.getS e hs
    exact ⟨v, a1, postE_ok p r.refl (dat_lift r.bs.fh a2)⟩
  · exact p.elim
theorem e_int {i : Int} {j : Nat} {bw : Bool} : PE X (.Constant (.int i) j pos) (tD L fl (.d bw) W (mC (.int i))) :=
  pe_int.imp fun σ H Q ⟨F, B, ρ, r, p⟩ => postE_ok p r.refl .int
theorem e_bl {b : Bool} {j : Nat} {bw : Bool} : PE X (.Constant (.bool b) j pos) (tD L fl (.d bw) W (mC (.bl b))) :=
  pe_bl.imp fun σ H Q ⟨F, B, ρ, r, p⟩ => postE_ok p r.refl .bl
theorem e_non {j : Nat} {bw : Bool} : PE X (.Constant .none j pos) (tD L fl (.d bw) W (mC .non)) :=
  pe_non.imp fun σ H Q ⟨F, B, ρ, r, p⟩ => postE_ok p r.refl .non
theorem str_eq {x : Str} {s : List Nat} (h : x.cps.toList = s) : (⟨s.toArray⟩ : Str) = x := by
  subst h
  cases x
  simp
theorem e_str (s : List Nat) {x : Str} {j : Nat} {bw : Bool} (hx : x.cps.toList = s := by decide +kernel) : PE X (.Constant (.str x) j pos) (tD L fl (.d bw) W (mC (.str s))) :=
  pe_str.imp fun σ H Q ⟨F, B, ρ, r, p⟩ => postE_ok p r.refl (by rw [← str_eq hx]; exact .str)
/-- a module's constant: an int, a text -/
theorem e_gint {i : Int} {t : Tok} {x : Str} {bw : Bool} (hm : X.mg x = some (.int i t)) (hg : Gl X x := by rfl) (hd : (x == ("__debug__" : Str)) = false := by decide) : PE X (.Name x pos) (tD L fl (.d bw) W (mC (.int i))) :=
  (pe_glob (v := .int i) hg hm ⟨t, rfl⟩ hd).imp fun σ H Q ⟨F, B, ρ, r, p⟩ => postE_ok p r.refl .int
theorem e_gstr (s : List Nat) {y : Str} {t : Tok} {x : Str} {bw : Bool} (hm : X.mg x = some (.str y t)) (hy : y.cps.toList = s) (hg : Gl X x := by rfl) (hd : (x == ("__debug__" : Str)) = false := by decide) : PE X (.Name x pos) (tD L fl (.d bw) W (mC (.str s))) :=
  (pe_glob (v := .str y) hg hm ⟨t, rfl⟩ hd).imp fun σ H Q ⟨F, B, ρ, r, p⟩ => postE_ok p r.refl (by rw [← str_eq hy]; exact .str)
/-- what is shared or owned may be borrowed -/
theorem e_toB {e : Expr} {sh : Sh} {f : Env → R D} (h : PE X e (tD L fl sh W f)) : PE X e (tD L fl .b W f) :=
  h.imp fun σ H Q ⟨F, B, ρ, r, p⟩ => ⟨F, B, ρ, r, by
    unfold PostE at p ⊢
    split at p
    · exact fun v F' H' S e o nd fr => p v F' H' [] e (.d (bw := true) (o.toB e.fh.sm)) List.nodup_nil (fun a m => nomatch m)
    · exact p
    · exact p⟩
/-- what is owned and new is frozen -/
theorem e_frz {e : Expr} {sh : Sh} {f : Env → R D} (h : PE X e (tD L fl sh W f)) (n : sh.noB = true := by rfl) {bw : Bool} : PE X e (tD L fl (.d bw) W f) :=
  h.imp fun σ H Q ⟨F, B, ρ, r, p⟩ => ⟨F, B, ρ, r, by
    unfold PostE at p ⊢
    split at p
    · refine fun v F' H' S e o nd fr => ?_
      have s1 : Same F' (frzH F' H' S) := frzH_same fun a m => (fr a m).1
      have s2 : Same (frzH F' H' S) H' := frzH_to e.fh
      refine p v (frzH F' H' S) H' [] ⟨e.hh, e.ht, e.ff.trans s1, s2, fun a o' h1 t1 h2 => ?_, frzH_nt e.nt o.there⟩ (.d (dat_lift s2 (o.frz s1.sm n fun a m => frzH_in m))) List.nodup_nil (fun a m => nomatch m)
      by_cases m : a ∈ S
      · exact ((fr a m).2.no h1 t1).elim
      · rw [frzH_out m]; exact e.hid a o' h1 t1 h2
    · exact p
    · exact p⟩
/-- a borrowed atom is shared -/
noncomputable def mAt (f : Env → R D) : Env → R D := fun ρ => f ρ >>= fun d => if isAtom d = true then .ok d else .stuck
/-- running one expression, then going on -/
theorem tD_bind {ta : TE} {sh : Sh} {f : Env → R D} {F B H : Hp} {σ : L2.St} {ρ : Env} (hta : ta = tD L fl sh W f) (r : Rep L fl F B σ H ρ) {Q Q' : VK} {k : D → R D} {sh' : Sh}
    (p : PostE L F H sh' (f ρ >>= k) W σ Q')
    (hk : ∀ d v F' H' S, f ρ = .ok d → Ext L.T F H F' H' → Rep L fl F' B σ H' ρ → Own L.K F' H' sh v d S → S.Nodup → (∀ a ∈ S, F' a = none ∧ Nw H a) → PostE L F H sh' (k d) W σ Q' → Q v H') : ta σ H Q := by
  subst hta
  refine ⟨F, B, ρ, r, ?_⟩
  cases q : f ρ with
  | ok d =>
    rw [q, bind_ok] at p
    exact fun v F' H' S e o nd fr => hk d v F' H' S q e (r.ext e) o nd fr p
  | err c fs => rw [q, bind_err] at p; exact p
  | stuck => rw [q, bind_stuck] at p; exact p
theorem PostE.weak {F H F' H' : Hp} {sh : Sh} {r : R D} {σ : L2.St} {Q : VK} (p : PostE L F H sh r W σ Q) (e : Ext L.T F H F' H') : PostE L F' H' sh r W σ Q := by
  unfold PostE at p ⊢
  split at p
  · exact fun v F2 H2 S e2 o nd fr => p v F2 H2 S (e.trans e2) o nd fun a m => ⟨(fr a m).1, e.back (fr a m).2⟩
  · exact fun cls d F2 H2 e2 x => p cls d F2 H2 (e.trans e2) x
  · exact p
theorem PostT.weak {F H F' H' : Hp} {r : R Bool} {σ : L2.St} {Q : Bool → Hp → Prop} (p : PostT L F H r W σ Q) (e : Ext L.T F H F' H') : PostT L F' H' r W σ Q := by
  unfold PostT at p ⊢
  split at p
  · exact fun F2 H2 e2 => p F2 H2 (e.trans e2)
  · exact fun cls d F2 H2 e2 x => p cls d F2 H2 (e.trans e2) x
  · exact p
theorem PostA.weak {F H F' H' : Hp} {bw : Bool} {r : R (List D)} {σ : L2.St} {Q : List V → Hp → Prop} (p : PostA L F H bw r W σ Q) (e : Ext L.T F H F' H') : PostA L F' H' bw r W σ Q := by
  unfold PostA at p ⊢
  split at p
  · exact fun vs F2 H2 e2 d => p vs F2 H2 (e.trans e2) d
  · exact fun cls d F2 H2 e2 x => p cls d F2 H2 (e.trans e2) x
  · exact p

/-- a two-place operation on values: operands borrowed (bw) or shared -/
noncomputable def OpD (L : LE) (r : R2) (bw : Bool) (sh : Sh) (g : D → D → Option D) : Prop := ∀ (F H : Hp) (x y : V) (dx dy d : D), Same F H → NoT F → Dat L.K (cond bw H F) x dx → Dat L.K (cond bw H F) y dy → g dx dy = some d →
  ∀ Q : VK, (∀ v F' H' S, Ext L.T F H F' H' → Own L.K F' H' sh v d S → S.Nodup → (∀ a ∈ S, F' a = none ∧ Nw H a) → Q v H') → r x y H Q
theorem t_op2 {r : R2} {bw : Bool} {sh : Sh} {g : D → D → Option D} {fa fb : Env → R D} (hd : OpD L r bw sh g) {σ : L2.St} {H : Hp} {Q : VK} (h : tD L fl sh W (m2 g fa fb) σ H Q) :
    tOp r (tD L fl (.d bw) W fa) (tD L fl (.d bw) W fb) σ H Q := by
  obtain ⟨F, B, ρ, rp, p⟩ := h
  refine tD_bind rfl rp (k := fun x => fb ρ >>= fun y => oR (g x y)) p fun dx x F1 H1 S1 _ e1 r1 o1 _ _ p1 => ?_
  refine tD_bind rfl r1 (k := fun y => oR (g dx y)) (p1.weak e1) fun dy y F2 H2 S2 _ e2 r2 o2 _ _ p2 => ?_
  have p3 := p2.weak e2
  cases q : g dx dy with
  | none => rw [q] at p3; exact p3.elim
  | some d =>
    rw [q] at p3
    exact hd F2 H2 x y dx dy d r2.bs.fh r2.bs.nf (dat_cond (own_d o1).1 e2) (own_d o2).1 q Q p3
theorem e_op2 {a b : Expr} {op : Operator} {r : R2} {bw : Bool} {sh : Sh} {g : D → D → Option D} {fa fb : Env → R D} (ho : OpR X (binaryOp op) r) (hd : OpD L r bw sh g)
    (ha : PE X a (tD L fl (.d bw) W fa)) (hb : PE X b (tD L fl (.d bw) W fb)) : PE X (.BinOp a op b pos) (tD L fl sh W (m2 g fa fb)) := (pe_op ho ha hb).imp fun _ _ _ h => t_op2 hd h
theorem e_cmp {a b : Expr} {op : CmpOp} {r : R2} {bw : Bool} {sh : Sh} {g : D → D → Option D} {fa fb : Env → R D} (ho : OpR X (compareOp op) r) (hd : OpD L r bw sh g)
    (ha : PE X a (tD L fl (.d bw) W fa)) (hb : PE X b (tD L fl (.d bw) W fb)) (hm : behindInMarks op b = false := by first | exact nomark _ | rfl) : PE X (.Compare a [op] [b] pos) (tD L fl sh W (m2 g fa fb)) := (pe_cmpR ho ha hb hm).imp fun _ _ _ h => t_op2 hd h
/-- a bool's reading as a test -/
theorem tT_of {f : Env → R D} {σ : L2.St} {H : Hp} {Q : Bool → Hp → Prop} (h : tT L fl W (mB f) σ H Q) : tD L fl .s W f σ H fun v H' => ∃ k, v = .bl k ∧ Q k H' := by
  obtain ⟨F, B, ρ, r, p⟩ := h
  refine ⟨F, B, ρ, r, ?_⟩
  unfold mB at p
  cases q : f ρ with
  | ok d =>
    rw [q, bind_ok] at p
    intro v F' H' S e o _ _
    have dv := (own_d o).1
    cases d with
    | bl b =>
      cases dv
      exact ⟨b, rfl, p F' H' e⟩
    | _ => exact p.elim
  | err c fs => rw [q, bind_err] at p; exact p
  | stuck => rw [q, bind_stuck] at p; exact p
theorem t_cmp {a b : Expr} {op : CmpOp} {r : R2} {bw : Bool} {g : D → D → Option D} {fa fb : Env → R D} (ho : OpR X (compareOp op) r) (hd : OpD L r bw .s g)
    (ha : PE X a (tD L fl (.d bw) W fa)) (hb : PE X b (tD L fl (.d bw) W fb)) (hm : behindInMarks op b = false := by first | exact nomark _ | rfl) : PT X (.Compare a [op] [b] pos) (tT L fl W (mB (m2 g fa fb))) :=
  (pt_cmpR ho ha hb hm).imp fun _ _ _ h => t_op2 hd (tT_of h)
/-- an expression that yields a bool, as a test -/
theorem t_val {e : Expr} {f : Env → R D} (he : PE X e (tD L fl .s W f)) (hw : ∀ whole, isTrue e X.env whole = (do let v ← whole; standAt e.pos; holding [v] (truthy v)) := by intro _; rfl) : PT X e (tT L fl W (mB f)) :=
  (pt_val he hw).imp fun _ _ _ h => tT_of h
theorem t_and2 {a : Expr} {b : Expr} {rest : List Expr} {f g : Env → R Bool} (ha : PT X a (tT L fl W f)) (hb : PW X (.BoolOp .And (b :: rest) pos) (tT L fl W g)) : PW X (.BoolOp .And (a :: b :: rest) pos) (tT L fl W (mAnd f g)) :=
  (pw_and ha hb).imp fun σ H Q ⟨F, B, ρ, r, p⟩ => ⟨F, B, ρ, r, by
    unfold mAnd at p
    cases q : f ρ with
    | ok c =>
      rw [q, bind_ok] at p
      intro F' H' e
      cases c with
      | true => rw [if_pos rfl] at p ⊢; exact ⟨F', B, ρ, r.ext e, p.weak e⟩
      | false => rw [if_neg Bool.false_ne_true] at p ⊢; exact p F' H' e
    | err c fs => rw [q, bind_err] at p; exact p
    | stuck => rw [q, bind_stuck] at p; exact p⟩
theorem t_or2 {a : Expr} {b : Expr} {rest : List Expr} {f g : Env → R Bool} (ha : PT X a (tT L fl W f)) (hb : PW X (.BoolOp .Or (b :: rest) pos) (tT L fl W g)) : PW X (.BoolOp .Or (a :: b :: rest) pos) (tT L fl W (mOr f g)) :=
  (pw_or ha hb).imp fun σ H Q ⟨F, B, ρ, r, p⟩ => ⟨F, B, ρ, r, by
    unfold mOr at p
    cases q : f ρ with
    | ok c =>
      rw [q, bind_ok] at p
      intro F' H' e
      cases c with
      | true => rw [if_pos rfl] at p ⊢; exact p F' H' e
      | false => rw [if_neg Bool.false_ne_true] at p ⊢; exact ⟨F', B, ρ, r.ext e, p.weak e⟩
    | err c fs => rw [q, bind_err] at p; exact p
    | stuck => rw [q, bind_stuck] at p; exact p⟩
theorem t_and1 {a : Expr} {f : Env → R Bool} (ha : PT X a (tT L fl W f)) : PW X (.BoolOp .And [a] pos) (tT L fl W f) := pw_and1 ha
theorem t_or1 {a : Expr} {f : Env → R Bool} (ha : PT X a (tT L fl W f)) : PW X (.BoolOp .Or [a] pos) (tT L fl W f) := pw_or1 ha
theorem t_not {a : Expr} {f : Env → R Bool} (ha : PT X a (tT L fl W f)) : PT X (.UnaryOp .Not a pos) (tT L fl W (mNot f)) :=
  (pt_not ha).imp fun σ H Q ⟨F, B, ρ, r, p⟩ => ⟨F, B, ρ, r, by
    unfold mNot at p
    cases q : f ρ with
    | ok c => rw [q, bind_ok] at p; exact fun F' H' e => p F' H' e
    | err c fs => rw [q, bind_err] at p; exact p
    | stuck => rw [q, bind_stuck] at p; exact p⟩
/-- and, or, not as values -/
theorem e_one {op : BoolOp} {a : Expr} {sh : Sh} {f : Env → R D} (h : PE X a (tD L fl sh W f)) : PE X (.BoolOp op [a] pos) (tD L fl sh W f) := pe_one h
theorem e_and {a b : Expr} {rest : List Expr} {f g : Env → R D} {bw : Bool} (ha : PE X a (tD L fl .s W f)) (hb : PE X (.BoolOp .And (b :: rest) pos) (tD L fl (.d bw) W g)) : PE X (.BoolOp .And (a :: b :: rest) pos) (tD L fl (.d bw) W (mAndV f g)) :=
  (pe_and ha hb).imp fun σ H Q ⟨F, B, ρ, r, p⟩ => by
    refine tD_bind rfl r (k := fun d => oR (dBool d) >>= fun b => if b = true then g ρ else .ok (.bl false)) p fun d v F1 H1 S1 _ e1 r1 o1 _ _ p1 => ?_
    have dv := (own_d o1).1
    cases d with
    | bl c =>
      cases dv
      refine ⟨c, rfl, ?_⟩
      have p2 : PostE L F H (.d bw) (if c = true then g ρ else .ok (.bl false)) W σ Q := p1
      cases c with
      | true => rw [if_pos rfl] at p2 ⊢; exact ⟨F1, B, ρ, r1, p2.weak e1⟩
      | false => rw [if_neg Bool.false_ne_true] at p2 ⊢; exact postE_ok p2 e1 .bl
    | _ => exact p1.elim
theorem e_or {a b : Expr} {rest : List Expr} {f g : Env → R D} {bw : Bool} (ha : PE X a (tD L fl .s W f)) (hb : PE X (.BoolOp .Or (b :: rest) pos) (tD L fl (.d bw) W g)) : PE X (.BoolOp .Or (a :: b :: rest) pos) (tD L fl (.d bw) W (mOrV f g)) :=
  (pe_or ha hb).imp fun σ H Q ⟨F, B, ρ, r, p⟩ => by
    refine tD_bind rfl r (k := fun d => oR (dBool d) >>= fun b => if b = true then .ok (.bl true) else g ρ) p fun d v F1 H1 S1 _ e1 r1 o1 _ _ p1 => ?_
    have dv := (own_d o1).1
    cases d with
    | bl c =>
      cases dv
      refine ⟨c, rfl, ?_⟩
      have p2 : PostE L F H (.d bw) (if c = true then .ok (.bl true) else g ρ) W σ Q := p1
      cases c with
      | true => rw [if_pos rfl] at p2 ⊢; exact postE_ok p2 e1 .bl
      | false => rw [if_neg Bool.false_ne_true] at p2 ⊢; exact ⟨F1, B, ρ, r1, p2.weak e1⟩
    | _ => exact p1.elim
noncomputable def dNot : D → Option D
  | .bl b => some (.bl !b)
  | _ => none
theorem e_not {a : Expr} {f : Env → R D} {bw : Bool} (ha : PE X a (tD L fl .s W f)) : PE X (.UnaryOp .Not a pos) (tD L fl (.d bw) W (m1 dNot f)) :=
  (pe_not ha).imp fun σ H Q ⟨F, B, ρ, r, p⟩ => by
    refine tD_bind rfl r (k := fun d => oR (dNot d)) p fun d v F1 H1 S1 _ e1 r1 o1 _ _ p1 => ?_
    have dv := (own_d o1).1
    cases d with
    | bl c =>
      cases dv
      exact ⟨c, rfl, postE_ok (d := .bl (!c)) p1 e1 .bl⟩
    | _ => exact p1.elim
/-- a chain of two comparisons -/
noncomputable def mChain (g g' : D → D → Option D) (fa fb fc : Env → R D) : Env → R D := fun ρ => fa ρ >>= fun x => fb ρ >>= fun y => oR (g x y) >>= fun z => oR (dBool z) >>= fun k => if k = true then fc ρ >>= fun u => oR (g' y u) else .ok (.bl false)
theorem t_chain {r r' : R2} {bw : Bool} {g g' : D → D → Option D} {fa fb fc : Env → R D} (hd : OpD L r bw .s g) (hd' : OpD L r' bw .s g') {σ : L2.St} {H : Hp} {Q : VK} {bw2 : Bool}
    (h : tD L fl (.d bw2) W (mChain g g' fa fb fc) σ H Q) : tChain r r' (tD L fl (.d bw) W fa) (tD L fl (.d bw) W fb) (tD L fl (.d bw) W fc) σ H Q := by
  obtain ⟨F, B, ρ, rp, p⟩ := h
  refine tD_bind rfl rp (k := fun x => fb ρ >>= fun y => oR (g x y) >>= fun z => oR (dBool z) >>= fun k => if k = true then fc ρ >>= fun u => oR (g' y u) else .ok (.bl false)) p fun dx x F1 H1 S1 _ e1 r1 o1 _ _ p1 => ?_
  refine tD_bind rfl r1 (k := fun y => oR (g dx y) >>= fun z => oR (dBool z) >>= fun k => if k = true then fc ρ >>= fun u => oR (g' y u) else .ok (.bl false)) (p1.weak e1) fun dy y F2 H2 S2 _ e2 r2 o2 _ _ p2 => ?_
  have p3 := p2.weak e2
  cases q : g dx dy with
  | none => rw [q] at p3; exact p3.elim
  | some d =>
    rw [q] at p3
    refine hd F2 H2 x y dx dy d r2.bs.fh r2.bs.nf (dat_cond (own_d o1).1 e2) (own_d o2).1 q _ fun v F3 H3 S3 e3 o3 _ _ => ?_
    have dv := (own_d o3).1
    cases d with
    | bl c =>
      cases dv
      refine ⟨c, rfl, ?_⟩
      have p4 : PostE L F2 H2 (.d bw2) (if c = true then fc ρ >>= fun u => oR (g' dy u) else .ok (.bl false)) W σ Q := p3
      cases c with
      | true =>
        rw [if_pos rfl] at p4 ⊢
        refine tD_bind rfl (r2.ext e3) (k := fun u => oR (g' dy u)) (p4.weak e3) fun du u F4 H4 S4 _ e4 r4 o4 _ _ p5 => ?_
        have p6 := p5.weak e4
        cases q' : g' dy du with
        | none => rw [q'] at p6; exact p6.elim
        | some d' =>
          rw [q'] at p6
          refine hd' F4 H4 y u dy du d' r4.bs.fh r4.bs.nf (dat_cond (dat_cond (own_d o2).1 e3) e4) (own_d o4).1 q' _ fun v F5 H5 S5 e5 o5 _ _ => ?_
          obtain ⟨dv, _⟩ := own_d o5
          exact postE_ok p6 e5 (dat_lift e5.fh dv)
      | false => rw [if_neg Bool.false_ne_true] at p4 ⊢; exact postE_ok p4 e3 .bl
    | _ => exact p3.elim
theorem e_chain {a b c : Expr} {op op' : CmpOp} {r r' : R2} {bw bw2 : Bool} {g g' : D → D → Option D} {fa fb fc : Env → R D} (ho : OpR X (compareOp op) r) (hd : OpD L r bw .s g) (ho' : OpR X (compareOp op') r') (hd' : OpD L r' bw .s g')
    (ha : PE X a (tD L fl (.d bw) W fa)) (hb : PE X b (tD L fl (.d bw) W fb)) (hc : PE X c (tD L fl (.d bw) W fc)) (hm : lastMarks [op, op'] [b, c] = false := by with_unfolding_all rfl) : PE X (.Compare a [op, op'] [b, c] pos) (tD L fl (.d bw2) W (mChain g g' fa fb fc)) :=
  (pe_chain ho ho' ha hb hc hm).imp fun _ _ _ h => t_chain hd hd' h
theorem t_chainT {a b c : Expr} {op op' : CmpOp} {r r' : R2} {bw : Bool} {g g' : D → D → Option D} {fa fb fc : Env → R D} (ho : OpR X (compareOp op) r) (hd : OpD L r bw .s g) (ho' : OpR X (compareOp op') r') (hd' : OpD L r' bw .s g')
    (ha : PE X a (tD L fl (.d bw) W fa)) (hb : PE X b (tD L fl (.d bw) W fb)) (hc : PE X c (tD L fl (.d bw) W fc)) (hm : lastMarks [op, op'] [b, c] = false := by with_unfolding_all rfl) : PT X (.Compare a [op, op'] [b, c] pos) (tT L fl W (mB (mChain g g' fa fb fc))) :=
  (pt_chain ho ho' ha hb hc hm).imp fun _ _ _ h => t_chain hd hd' (tT_of h)

/-! ### truth -/
noncomputable def LN : Nat := 1000000
theorem LN_le : LN ≤ sizeLine := by rw [sizeLine_eq]; decide
theorem le_line {n : Nat} (h : n ≤ LN) : n ≤ sizeLine := Nat.le_trans h LN_le
theorem lt_line {n : Nat} (h : n < LN) : n < sizeLine := Nat.lt_of_lt_of_le h LN_le
noncomputable def dTru : D → Option Bool
  | .non => some false
  | .bl b => some b
  | .int i => some (i != 0)
  | .str s => if s.length ≤ LN then some (!s.isEmpty) else none
  | .lst xs => some (!xs.isEmpty)
  | .tup xs => some (!xs.isEmpty)
  | .scr xs => some (!xs.isEmpty)
  | .rng _ _ => none
  | .obj _ _ _ => none
  | .dic _ _ => none
  | .dct _ _ => none
noncomputable def mTru (f : Env → R D) : Env → R Bool := fun ρ => f ρ >>= fun d => oR (dTru d)
theorem isEmpty_len {α β : Type} {xs : List α} {ys : List β} (h : xs.length = ys.length) : xs.isEmpty = ys.isEmpty := by
  cases xs <;> cases ys <;> simp at h ⊢
theorem tru_of {K : PySem.W.Frag} {H : Hp} {v : V} {d : D} {k : Bool} (h : Dat K H v d) (e : dTru d = some k) : TruV K v H k := by
  cases h with
  | non => exact (Option.some.inj e).symm
  | bl => exact (Option.some.inj e).symm
  | int => exact (Option.some.inj e).symm
  | str =>
    rename_i s
    unfold dTru at e
    dsimp only at e
    by_cases q : s.length ≤ LN
    · rw [if_pos q] at e
      refine ⟨le_line (by simpa [Str.length] using q), ?_⟩
      rw [← Option.some.inj e]
      cases s <;> simp [Str.length]
      omega
    · rw [if_neg q] at e; cases e
  | lst h r => exact .inl ⟨_, SqL.of h, by rw [← Option.some.inj e, isEmpty_len r.length]⟩
  | tup h r => exact .inr (.inl ⟨_, h, by rw [← Option.some.inj e, isEmpty_len r.length]⟩)
  | scr h => exact .inl ⟨_, h, by rw [← Option.some.inj e, isEmpty_len (List.length_map ..)]⟩
  | rng _ => cases e
  | obj _ _ _ _ => cases e
  | dic _ _ _ => cases e
  | dct _ _ _ => cases e
theorem t_tru {e : Expr} {f : Env → R D} (he : PE X e (tD L fl .b W f)) (hK : X.K = L.K := by rfl) (hw : ∀ whole, isTrue e X.env whole = (do let v ← whole; standAt e.pos; holding [v] (truthy v)) := by intro _; rfl) : PT X e (tT L fl W (mTru f)) :=
  (pt_truth he hw).imp fun σ H Q ⟨F, B, ρ, r, p⟩ => ⟨F, B, ρ, r, by
    unfold mTru at p
    cases q : f ρ with
    | ok d =>
      rw [q, bind_ok] at p
      intro v F' H' S e o _ _
      cases q2 : dTru d with
      | none => rw [q2] at p; exact p.elim
      | some k =>
        rw [q2] at p
        exact ⟨k, by rw [hK]; exact tru_of (own_d o).1 q2, p F' H' e⟩
    | err c fs => rw [q, bind_err] at p; exact p
    | stuck => rw [q, bind_stuck] at p; exact p⟩

/-! ### arguments -/
theorem a_nil {bw : Bool} : PA X [] (tA L fl bw W mNil) := pa_nil.imp fun σ H Q ⟨F, B, ρ, r, p⟩ => p [] F H r.refl .nil
theorem PostA.bindE {F H : Hp} {bw : Bool} {σ : L2.St} {Q : List V → Hp → Prop} {r : R D} {k : D → R (List D)} {P : VK} (p : PostA L F H bw (r >>= k) W σ Q) (h : ∀ d v F' H', r = .ok d → PostA L F H bw (k d) W σ Q → Ext L.T F H F' H' → Dat L.K (cond bw H' F') v d → P v H') : PostE L F H (.d bw) r W σ P := by
  cases r with
  | ok d => exact fun v F' H' S e o _ _ => h d v F' H' rfl p e (own_d o).1
  | err c fs => exact p
  | stuck => exact p
theorem a_cons {e : Expr} {es : List Expr} {bw : Bool} {f : Env → R D} {fs : Env → R (List D)} (he : PE X e (tD L fl (.d bw) W f)) (hr : PA X es (tA L fl bw W fs)) (hs : starEach (e :: es) X.env = (false, eval e X.env) :: starEach es X.env := by rfl) :
    PA X (e :: es) (tA L fl bw W (mCons f fs)) :=
  (pa_cons he hr hs).imp fun σ H Q ⟨F, B, ρ, r, p⟩ => ⟨F, B, ρ, r, PostA.bindE p fun d v F1 H1 _ p1 e1 d1 => ⟨F1, B, ρ, r.ext e1, by
    have p2 := p1.weak e1
    cases q : fs ρ with
    | ok ds =>
      rw [q, bind_ok] at p2
      exact fun vs F2 H2 e2 d2 => p2 (v :: vs) F2 H2 e2 (.cons (dat_cond d1 e2) d2)
    | err c xs => rw [q, bind_err] at p2; exact p2
    | stuck => rw [q, bind_stuck] at p2; exact p2⟩⟩
/-- displays -/
noncomputable def dTup (xs : List D) : Option D := if xs.length ≤ LN then some (.tup xs) else none
noncomputable def dLst (xs : List D) : Option D := if xs.length ≤ LN then some (.lst xs) else none
theorem tA_bind {ta : TA} {bw : Bool} {f : Env → R (List D)} {F B H : Hp} {σ : L2.St} {ρ : Env} (hta : ta = tA L fl bw W f) (r : Rep L fl F B σ H ρ) {Q : List V → Hp → Prop} {Q' : VK} {k : List D → R D} {sh' : Sh}
    (p : PostE L F H sh' (f ρ >>= k) W σ Q')
    (hk : ∀ ds vs F' H', f ρ = .ok ds → Ext L.T F H F' H' → Rep L fl F' B σ H' ρ → DatL L.K (cond bw H' F') vs ds → PostE L F' H' sh' (k ds) W σ Q' → Q vs H') : ta σ H Q := by
  subst hta
  refine ⟨F, B, ρ, r, ?_⟩
  cases q : f ρ with
  | ok ds =>
    rw [q, bind_ok] at p
    exact fun vs F' H' e o => hk ds vs F' H' q e (r.ext e) o (p.weak e)
  | err c fs => rw [q, bind_err] at p; exact p
  | stuck => rw [q, bind_stuck] at p; exact p
theorem e_tup {es : List Expr} {x1 : Nat} {bw : Bool} {fs : Env → R (List D)} (h : PA X es (tA L fl false W fs)) : PE X (.Tuple es x1 pos) (tD L fl (.d bw) W (mN dTup fs)) :=
  (pe_tup h).imp fun σ H Q ⟨F, B, ρ, r, p⟩ => by
    refine tA_bind rfl r (k := fun xs => oR (dTup xs)) p fun ds vs F1 H1 _ e1 r1 d1 p1 => ?_
    have hl := d1.length
    unfold dTup at p1
    by_cases q : ds.length ≤ LN
    · rw [if_pos q] at p1
      refine ⟨le_line (by omega), fun a hp => ?_⟩
      have e2 := Ext.newF (T := L.T) (o := .tup vs) r1.bs.fh r1.bs.nf hp rfl
      exact postE_ok p1 e2 (dat_lift e2.fh (.tup (SqT.of upd_same) (d1.mono e2.ff.sm)))
    · rw [if_neg q] at p1; exact p1.elim
theorem e_lst {es : List Expr} {fs : Env → R (List D)} (h : PA X es (tA L fl false W fs)) : PE X (.List es pos) (tD L fl (.l .s) W (mN dLst fs)) :=
  (pe_lst h).imp fun σ H Q ⟨F, B, ρ, r, p⟩ => by
    refine tA_bind rfl r (k := fun xs => oR (dLst xs)) p fun ds vs F1 H1 _ e1 r1 d1 p1 => ?_
    have hl := d1.length
    unfold dLst at p1
    by_cases q : ds.length ≤ LN
    · rw [if_pos q] at p1
      refine ⟨le_line (by omega), fun a hp => ?_⟩
      refine p1 _ F1 _ [a] (Ext.newH (T := L.T) r1.bs.fh r1.bs.nf hp) (.l upd_same (OwnL.ofDat d1)) (by simp) fun b m => ?_
      have e : b = a := by simpa using m
      subst e
      exact ⟨r1.bs.fh.free hp, .of hp⟩
    · rw [if_neg q] at p1; exact p1.elim
/-- built-ins on values -/
noncomputable def CallD (L : LE) (r : List V → Hp → VK → Prop) (bw : Bool) (sh : Sh) (g : List D → Option D) : Prop := ∀ (F H : Hp) (vs : List V) (ds : List D) (d : D), Same F H → NoT F → DatL L.K (cond bw H F) vs ds → g ds = some d →
  ∀ Q : VK, (∀ v F' H' S, Ext L.T F H F' H' → Own L.K F' H' sh v d S → S.Nodup → (∀ a ∈ S, F' a = none ∧ Nw H a) → Q v H') → r vs H Q
theorem t_call {r : List V → Hp → VK → Prop} {bw : Bool} {sh : Sh} {g : List D → Option D} {fs : Env → R (List D)} (hd : CallD L r bw sh g) {σ : L2.St} {H : Hp} {Q : VK} (h : tD L fl sh W (mN g fs) σ H Q) : tCB r (tA L fl bw W fs) σ H Q := by
  obtain ⟨F, B, ρ, rp, p⟩ := h
  refine tA_bind rfl rp (k := fun xs => oR (g xs)) p fun ds vs F1 H1 _ e1 r1 d1 p1 => ?_
  cases q : g ds with
  | none => rw [q] at p1; exact p1.elim
  | some d => rw [q] at p1; exact hd F1 H1 vs ds d r1.bs.fh r1.bs.nf d1 q Q p1
theorem e_callB {id : String} {x : Str} {p : Pos} {e : Expr} {es : List Expr} {r : List V → Hp → VK → Prop} {bw : Bool} {sh : Sh} {g : List D → Option D} {fs : Env → R (List D)} (hc : CallR X (.builtin id) r) (hd : CallD L r bw sh g) (hm : X.mg x = none) (hv : bootBuiltins x = some (.builtin id))
    (ha : PA X (e :: es) (tA L fl bw W fs)) (hg : Gl X x := by rfl) (hn : x ≠ "__name__" := by decide) (hdb : (x == ("__debug__" : Str)) = false := by decide) (he : starEach (e :: es) X.env = (false, eval e X.env) :: starEach es X.env := by rfl) (hpl : (backTo pos (starEach es X.env)).any (·.1) = false := by rfl) :
    PE X (.Call (.Name x p) (e :: es) [] pos) (tD L fl sh W (mN g fs)) := (pe_callB hc hg hm hv ha hn hdb he hpl).imp fun _ _ _ h => t_call hd h
theorem e_callT {T : String} {x : Str} {p : Pos} {e : Expr} {es : List Expr} {r : List V → Hp → VK → Prop} {bw : Bool} {sh : Sh} {g : List D → Option D} {fs : Env → R (List D)} (hc : CallR X (.type T) r) (hd : CallD L r bw sh g) (hm : X.mg x = none) (hv : bootBuiltins x = some (.type T))
    (ha : PA X (e :: es) (tA L fl bw W fs)) (hg : Gl X x := by rfl) (hn : x ≠ "__name__" := by decide) (hdb : (x == ("__debug__" : Str)) = false := by decide) (he : starEach (e :: es) X.env = (false, eval e X.env) :: starEach es X.env := by rfl) (hpl : (backTo pos (starEach es X.env)).any (·.1) = false := by rfl) :
    PE X (.Call (.Name x p) (e :: es) [] pos) (tD L fl sh W (mN g fs)) := (pe_callTy hc hg hm hv ha hn hdb he hpl).imp fun _ _ _ h => t_call hd h
end
end PD
set_option Elab.async false
set_option linter.all false
set_option maxRecDepth 100000
set_option maxHeartbeats 1000000
namespace PD
open PySem PySem.Spec PyProof.Rows L2

structure Jn where
  rs : Sh
  fk : List Sh
  fc : List Sh
noncomputable def PostS (L : LE) (J : Jn) (fl' : List Sh) (F B : Hp) (W : WX) (D : Ends) (r : R Fl) : Prop := match r with
  | .ok (.nx ρ) => ∀ σ' F' H', Same F F' → Rep L fl' F' B σ' H' ρ → D.nx σ' H'
  | .ok (.rt d) => ∀ v F' H' S, Same F F' → Bs L F' B H' → Own L.K F' H' J.rs v d S → S.Nodup → (∀ a ∈ S, F' a = none ∧ B a = none) → D.rt v H'
  | .ok (.bk ρ) => ∀ σ' F' H', Same F F' → Rep L J.fk F' B σ' H' ρ → D.bk σ' H'
  | .ok (.ct ρ) => ∀ σ' F' H', Same F F' → Rep L J.fc F' B σ' H' ρ → D.ct σ' H'
  | .ok (.ex c fs ρ) => ∀ cls d fl0 σ' F' H', Same F F' → Rep L fl0 F' B σ' H' ρ → ErrOk L c fs cls d F' H' → W cls d σ' H'
  | .err _ _ => False
  | .stuck => False
noncomputable def tS (L : LE) (J : Jn) (fl fl' : List Sh) (W : WX) (f : Env → R Fl) : TS := fun D σ H => ∃ F B ρ, Rep L fl F B σ H ρ ∧ PostS L J fl' F B W D (f ρ)

/-! ### mirrors of statements -/
noncomputable def liftE {α : Type} (r : R α) (ρ : Env) (k : α → R Fl) : R Fl := match r with
  | .ok d => k d
  | .err c fs => .ok (.ex c fs ρ)
  | .stuck => .stuck
noncomputable def sNx : Env → R Fl := fun ρ => .ok (.nx ρ)
noncomputable def sSeq (f g : Env → R Fl) : Env → R Fl := fun ρ => f ρ >>= fun r => match r with
  | .nx ρ' => g ρ'
  | r => .ok r
noncomputable def sSet (i : Nat) (f : Env → R D) : Env → R Fl := fun ρ => liftE (f ρ) ρ fun d => .ok (.nx (ρ.set i (some d)))
noncomputable def sDrop (f : Env → R D) : Env → R Fl := fun ρ => liftE (f ρ) ρ fun _ => .ok (.nx ρ)
noncomputable def sRet (f : Env → R D) : Env → R Fl := fun ρ => liftE (f ρ) ρ fun d => .ok (.rt d)
noncomputable def sRetN : Env → R Fl := fun _ => .ok (.rt .non)
noncomputable def sIf (c : Env → R Bool) (f g : Env → R Fl) : Env → R Fl := fun ρ => liftE (c ρ) ρ fun b => if b = true then f ρ else g ρ
noncomputable def sBk : Env → R Fl := fun ρ => .ok (.bk ρ)
noncomputable def sCt : Env → R Fl := fun ρ => .ok (.ct ρ)
noncomputable def sRaise (c : Str) : Env → R Fl := fun ρ => .ok (.ex c [] ρ)
noncomputable def asLst : D → Option (List D)
  | .lst xs => some xs
  | _ => none
noncomputable def getL (ρ : Env) (i : Nat) : Option (List D) := match ρ[i]? with
  | some (some d) => asLst d
  | _ => none
noncomputable def sApp (i : Nat) (f : Env → R D) : Env → R Fl := fun ρ => match getL ρ i with
  | some xs => liftE (f ρ) ρ fun d => if xs.length < LN then .ok (.nx (ρ.set i (some (.lst (xs ++ [d]))))) else .stuck
  | none => .stuck

section
variable {L : LE} {J : Jn} {fl fl' : List Sh} {W : WX} {F B H F' H' : Hp} {σ σ' : L2.St} {ρ ρ' : Env} {D : Ends}
theorem PostS.weak {r : R Fl} (p : PostS L J fl' F B W D r) (e : Same F F') : PostS L J fl' F' B W D r := by
  unfold PostS at p ⊢
  split at p
  · exact fun σ2 F2 H2 s r => p σ2 F2 H2 (e.trans s) r
  · exact fun v F2 H2 S s b o nd fr => p v F2 H2 S (e.trans s) b o nd fr
  · exact fun σ2 F2 H2 s r => p σ2 F2 H2 (e.trans s) r
  · exact fun σ2 F2 H2 s r => p σ2 F2 H2 (e.trans s) r
  · exact fun cls d fl0 σ2 F2 H2 s r x => p cls d fl0 σ2 F2 H2 (e.trans s) r x
  · exact p
  · exact p
/-- a statement's expression, then its rest -/
theorem PostS.bindE {r : R PD.D} {k : PD.D → R Fl} {sh : Sh} {P : VK} (rp : Rep L fl F B σ H ρ) (p : PostS L J fl' F B W D (liftE r ρ k))
    (h : ∀ d v F' H' S, r = .ok d → Ext L.T F H F' H' → Rep L fl F' B σ H' ρ → Own L.K F' H' sh v d S → S.Nodup → (∀ a ∈ S, F' a = none ∧ Nw H a) → PostS L J fl' F' B W D (k d) → P v H') : PostE L F H sh r W σ P := by
  cases r with
  | ok d => exact fun v F' H' S e o nd fr => h d v F' H' S rfl e (rp.ext e) o nd fr (PostS.weak p e.ff)
  | err c fs => exact fun cls d F' H' e x => p cls d fl σ F' H' e.ff (rp.ext e) x
  | stuck => exact p
theorem PostS.bindT {r : R Bool} {k : Bool → R Fl} {P : Bool → Hp → Prop} (rp : Rep L fl F B σ H ρ) (p : PostS L J fl' F B W D (liftE r ρ k))
    (h : ∀ b F' H', r = .ok b → Ext L.T F H F' H' → Rep L fl F' B σ H' ρ → PostS L J fl' F' B W D (k b) → P b H') : PostT L F H r W σ P := by
  cases r with
  | ok d => exact fun F' H' e => h d F' H' rfl e (rp.ext e) (PostS.weak p e.ff)
  | err c fs => exact fun cls d F' H' e x => p cls d fl σ F' H' e.ff (rp.ext e) x
  | stuck => exact p
noncomputable def fput (Ss : Nat → List Addr) (i : Nat) (S : List Addr) : Nat → List Addr := fun j => if j = i then S else Ss j
theorem fput_eq {Ss : Nat → List Addr} {i j : Nat} {S : List Addr} (h : j = i) : fput Ss i S j = S := if_pos h
theorem fput_ne {Ss : Nat → List Addr} {i j : Nat} {S : List Addr} (h : ¬ j = i) : fput Ss i S j = Ss j := if_neg h
/-- a name gets a value -/
theorem Rep.setE {sh : Sh} {v : V} {d : PD.D} {S : List Addr} {i : Nat} (r : Rep L fl F B σ H ρ) (e : Ext L.T F H F' H') (o : Own L.K F' H' sh v d S) (nb : sh.noB = true) (nd : S.Nodup) (fr : ∀ a ∈ S, F' a = none ∧ Nw H a) :
    Rep L (fl.set i sh) F' B (σ.set i (some v)) H' (ρ.set i (some d)) := by
  have r' := r.ext e
  refine ⟨r'.bs, by rw [List.length_set, List.length_set]; exact r.ls, by rw [List.length_set, List.length_set]; exact r.lr, fun j u eo q => ?_, ?_⟩
  · by_cases z : j = i
    · subst z
      have hl : j < fl.length := by
        have := (List.getElem?_eq_some_iff.mp q).1
        rwa [List.length_set] at this
      rw [List.getElem?_set_self hl] at q
      cases q
      cases nb
    · rw [List.getElem?_set_ne (Ne.symm z)] at q ⊢
      exact r'.px j u eo q
  obtain ⟨Ss, h1, h2, h3, h4⟩ := r.sl
  have new : ∀ j a, a ∈ Ss j → a ∉ S := fun j a m z => by
    obtain ⟨_, _, u, q, t⟩ := h4 j a m
    exact (fr a z).2.no q t
  refine ⟨fput Ss i S, fun j d' q => ?_, fun j k a m1 m2 => ?_, fun j => ?_, fun j a m => ?_⟩
  · by_cases z : j = i
    · subst z
      rw [fput_eq rfl]
      have hl : j < ρ.length := by
        have := (List.getElem?_eq_some_iff.mp q).1
        rwa [List.length_set] at this
      rw [List.getElem?_set_self hl] at q
      cases q
      refine ⟨v, sh, List.getElem?_set_self (by rw [r.ls, ← r.lr]; exact hl), List.getElem?_set_self (by rw [← r.lr]; exact hl), nb, o⟩
    · rw [fput_ne z]
      rw [List.getElem?_set_ne (Ne.symm z)] at q
      obtain ⟨v', sh', a1, a2, a3, a4⟩ := h1 j d' q
      exact ⟨v', sh', by rw [List.getElem?_set_ne (Ne.symm z)]; exact a1, by rw [List.getElem?_set_ne (Ne.symm z)]; exact a2, a3, a4.mono e.ff.sm e.hh⟩
  · by_cases z1 : j = i <;> by_cases z2 : k = i
    · rw [z1, z2]
    · rw [fput_eq z1] at m1; rw [fput_ne z2] at m2; exact (new k a m2 m1).elim
    · rw [fput_ne z1] at m1; rw [fput_eq z2] at m2; exact (new j a m1 m2).elim
    · rw [fput_ne z1] at m1; rw [fput_ne z2] at m2; exact h2 j k a m1 m2
  · by_cases z : j = i
    · rw [fput_eq z]; exact nd
    · rw [fput_ne z]; exact h3 j
  · by_cases z : j = i
    · rw [fput_eq z] at m
      obtain ⟨q1, q2⟩ := fr a m
      exact ⟨q1, q2.none r.bs.bh r.bs.nb, o.there a m⟩
    · rw [fput_ne z] at m
      obtain ⟨q1, q2, u, q3, q4⟩ := h4 j a m
      exact ⟨e.hid a u q3 q4 q1, q2, u, e.hh a u q3 q4, q4⟩
/-- what a slot owns becomes shared -/
theorem Rep.frz {sh : Sh} {i : Nat} (r : Rep L fl F B σ H ρ) : ∃ F', Same F F' ∧ Rep L (fl.set i .s) F' B σ H ρ := by
  obtain ⟨Ss, h1, h2, h3, h4⟩ := r.sl
  have hS : ∀ a ∈ Ss i, F a = none := fun a m => (h4 i a m).1
  have s1 : Same F (frzH F H (Ss i)) := frzH_same hS
  have s2 : Same (frzH F H (Ss i)) H := frzH_to r.bs.fh
  refine ⟨frzH F H (Ss i), s1, ⟨s2, r.bs.bh, fun a o q => ?_, frzH_nt r.bs.nf fun a m => (h4 i a m).2.2, r.bs.nb, r.bs.tab⟩, by rw [List.length_set]; exact r.ls, by rw [List.length_set]; exact r.lr, fun j u eo q => ?_, ?_⟩
  · by_cases m : a ∈ Ss i
    · rw [(h4 i a m).2.1] at q; cases q
    · rw [frzH_out m]; exact r.bs.fb a o q
  · by_cases z : j = i
    · subst z
      have hl : j < fl.length := by
        have := (List.getElem?_eq_some_iff.mp q).1
        rwa [List.length_set] at this
      rw [List.getElem?_set_self hl] at q
      cases q
    · rw [List.getElem?_set_ne (Ne.symm z)] at q
      exact ⟨(r.px j u eo q).1, fun dx ws h => s1 _ _ ((r.px j u eo q).2 dx ws h)⟩
  · refine ⟨fput Ss i [], fun j d' q => ?_, fun j k a m1 m2 => ?_, fun j => ?_, fun j a m => ?_⟩
    · obtain ⟨v', sh', a1, a2, a3, a4⟩ := h1 j d' q
      by_cases z : j = i
      · subst z
        rw [fput_eq rfl]
        exact ⟨v', .s, a1, List.getElem?_set_self (List.getElem?_eq_some_iff.mp a2).1, rfl, .d (bw := false) (a4.frz s1.sm a3 fun a m => frzH_in m)⟩
      · rw [fput_ne z]
        exact ⟨v', sh', a1, by rw [List.getElem?_set_ne (Ne.symm z)]; exact a2, a3, a4.mono s1.sm (Sm.refl _)⟩
    · by_cases z1 : j = i
      · rw [fput_eq z1] at m1; cases m1
      · by_cases z2 : k = i
        · rw [fput_eq z2] at m2; cases m2
        · rw [fput_ne z1] at m1; rw [fput_ne z2] at m2; exact h2 j k a m1 m2
    · by_cases z : j = i
      · rw [fput_eq z]; exact List.nodup_nil
      · rw [fput_ne z]; exact h3 j
    · by_cases z : j = i
      · rw [fput_eq z] at m; cases m
      · rw [fput_ne z] at m
        obtain ⟨q1, q2, q3⟩ := h4 j a m
        refine ⟨?_, q2, q3⟩
        rw [frzH_out fun m2 => z (h2 j i a m m2)]
        exact q1
/-- a slot's own list changes -/
theorem Rep.mut {e : Sh} {i : Nat} {xs : List PD.D} (r : Rep L fl F B σ H ρ) (hs : fl[i]? = some (.l e)) (hx : ρ[i]? = some (some (.lst xs))) :
    ∃ p vs S, σ[i]? = some (some (.ref p)) ∧ H p = some (.lst vs) ∧ OwnL L.K F H e vs xs S ∧ p ∉ S ∧ F p = none ∧ B p = none ∧ S.Nodup ∧ (∀ a ∈ S, F a = none ∧ B a = none) ∧
      ∀ F' H0 vs' xs' S', Ext L.T F H F' H0 → OwnL L.K F' H0 e vs' xs' S' → p ∉ S' → S'.Nodup → (∀ a ∈ S', F' a = none ∧ B a = none) → (∀ a ∈ S', a ∈ S ∨ Nw H a) →
        Rep L fl F' B σ (upd H0 p (.lst vs')) (ρ.set i (some (.lst xs'))) := by
  obtain ⟨Ss, h1, h2, h3, h4⟩ := r.sl
  obtain ⟨v, sh, a1, a2, a3, a4⟩ := h1 i _ hx
  rw [hs] at a2
  cases a2
  have n3 := h3 i
  have n4 := h4 i
  have n2 := fun j a => h2 i j a
  generalize hS : Ss i = S0 at a4 n3 n4 n2
  cases a4 with
  | l hp ho =>
    rename_i p vs S
    have hpS : p ∉ S ∧ S.Nodup := List.nodup_cons.mp n3
    refine ⟨p, vs, S, a1, hp, ho, hpS.1, (n4 p List.mem_cons_self).1, (n4 p List.mem_cons_self).2.1, hpS.2, fun a m => ⟨(n4 a (List.mem_cons_of_mem _ m)).1, (n4 a (List.mem_cons_of_mem _ m)).2.1⟩, ?_⟩
    intro F' H0 vs' xs' S' ex ho' np' nd' fr' from_
    have r' := r.ext ex
    have Fp : F' p = none := ex.hid p _ hp rfl (n4 p List.mem_cons_self).1
    have Bp : B p = none := (n4 p List.mem_cons_self).2.1
    have at_ : ∀ a, a ≠ p → upd H0 p (.lst vs') a = H0 a := fun a z => upd_ne z
    have Sle : e.noB = true := a3
    refine ⟨⟨fun a o q => ?_, fun a o q => ?_, r'.bs.fb, r'.bs.nf, r'.bs.nb, fun P hP => ?_⟩, r.ls, by rw [List.length_set]; exact r.lr, r'.px, ?_⟩
    · rw [at_ a fun z => by rw [z, Fp] at q; cases q]; exact r'.bs.fh a o q
    · rw [at_ a fun z => by rw [z, Bp] at q; cases q]; exact r'.bs.bh a o q
    · obtain ⟨ps, q, k⟩ := r'.bs.tab P hP
      have hp0 := ex.hh p _ hp rfl
      exact ⟨ps, by rw [at_ P fun z => by rw [z, hp0] at q; cases q]; exact q, k⟩
    · refine ⟨fput Ss i (p :: S'), fun j d' q => ?_, fun j k a m1 m2 => ?_, fun j => ?_, fun j a m => ?_⟩
      · by_cases z : j = i
        · subst z
          rw [fput_eq rfl]
          have hl : j < ρ.length := (List.getElem?_eq_some_iff.mp hx).1
          rw [List.getElem?_set_self hl] at q
          cases q
          exact ⟨_, _, a1, hs, a3, .l upd_same (OwnL.at (Sm.refl _) Sle ho' fun a m => at_ a fun z => np' (z ▸ m))⟩
        · rw [fput_ne z]
          rw [List.getElem?_set_ne (Ne.symm z)] at q
          obtain ⟨v', sh', b1, b2, b3, b4⟩ := h1 j d' q
          refine ⟨v', sh', b1, b2, b3, Own.at ex.ff.sm b3 b4 fun a m => ?_⟩
          have na : a ≠ p := fun w => z (h2 j i a m (by rw [hS, w]; exact List.mem_cons_self))
          rw [at_ a na]
          obtain ⟨_, _, u, q3, q4⟩ := h4 j a m
          rw [q3]
          exact ex.hh a u q3 q4
      · have key : ∀ j a, j ≠ i → a ∈ Ss j → a ∉ p :: S' := fun j a z m w => by
          rcases List.mem_cons.mp w with w | w
          · exact z (h2 j i a m (by rw [hS, w]; exact List.mem_cons_self))
          · rcases from_ a w with w | w
            · exact z (h2 j i a m (by rw [hS]; exact List.mem_cons_of_mem _ w))
            · obtain ⟨_, _, u, q, t⟩ := h4 j a m
              exact w.no q t
        by_cases z1 : j = i <;> by_cases z2 : k = i
        · rw [z1, z2]
        · rw [fput_eq z1] at m1; rw [fput_ne z2] at m2; exact (key k a z2 m2 m1).elim
        · rw [fput_ne z1] at m1; rw [fput_eq z2] at m2; exact (key j a z1 m1 m2).elim
        · rw [fput_ne z1] at m1; rw [fput_ne z2] at m2; exact h2 j k a m1 m2
      · by_cases z : j = i
        · rw [fput_eq z]; exact List.nodup_cons.mpr ⟨np', nd'⟩
        · rw [fput_ne z]; exact h3 j
      · by_cases z : j = i
        · rw [fput_eq z] at m
          rcases List.mem_cons.mp m with w | w
          · subst w; exact ⟨Fp, Bp, _, upd_same, rfl⟩
          · obtain ⟨o, q1, q2⟩ := ho'.there a w
            exact ⟨(fr' a w).1, (fr' a w).2, o, by rw [at_ a fun y => np' (y ▸ w)]; exact q1, q2⟩
        · rw [fput_ne z] at m
          obtain ⟨q1, q2, u, q3, q4⟩ := h4 j a m
          have na : a ≠ p := fun w => z (h2 j i a m (by rw [hS, w]; exact List.mem_cons_self))
          exact ⟨ex.hid a u q3 q4 q1, q2, u, by rw [at_ a na]; exact ex.hh a u q3 q4, q4⟩
end

/-! ### rules for statements -/
section
variable {X : Cx} {L : LE} {J : Jn} {fl fl1 fl' : List Sh} {W : WX} {pos : Pos}
theorem s_nil : PSs X [] (tS L J fl fl W sNx) := pss_nil.imp fun D σ H ⟨F, B, ρ, r, p⟩ => p σ F H (.refl _) r
theorem ss_frz (i : Nat) {st : List Stmt} {f : Env → R Fl} (h : PSs X st (tS L J (fl.set i .s) fl' W f)) : PSs X st (tS L J fl fl' W f) :=
  h.imp fun D σ H ⟨F, B, ρ, r, p⟩ => by
    obtain ⟨F', s, r'⟩ := r.frz (sh := .s) (i := i)
    exact ⟨F', B, ρ, r', p.weak s⟩
theorem s_cons {st : Stmt} {rest : List Stmt} {f g : Env → R Fl} (h1 : PS X st (tS L J fl fl1 W f)) (h2 : PSs X rest (tS L J fl1 fl' W g)) : PSs X (st :: rest) (tS L J fl fl' W (sSeq f g)) :=
  (pss_cons h1 h2).imp fun D σ H ⟨F, B, ρ, r, p⟩ => ⟨F, B, ρ, r, by
    unfold sSeq at p
    cases q : f ρ with
    | ok y =>
      rw [q, bind_ok] at p
      cases y with
      | nx ρ' => exact fun σ' F' H' s r' => ⟨F', B, ρ', r', p.weak s⟩
      | rt d => exact p
      | bk ρ' => exact p
      | ct ρ' => exact p
      | ex c fs ρ' => exact p
    | err c fs => rw [q, bind_err] at p; exact p
    | stuck => rw [q, bind_stuck] at p; exact p⟩
theorem s_one {st : Stmt} {f : Env → R Fl} (h1 : PS X st (tS L J fl fl' W f)) : PSs X [st] (tS L J fl fl' W f) := pss_one h1
theorem s_set (i : Nat) {x : Str} {e : Expr} {sh : Sh} {f : Env → R D} {pos' : Pos} (hN : X.N.Nodup) (he : PE X e (tD L fl sh W f)) (hf' : fl.set i sh = fl1 := by rfl) (hi : X.N[i]? = some x := by rfl) (hx : Loc X.env.scope x := by first | exact Or.inl rfl | exact Or.inr rfl) (nb : sh.noB = true := by rfl)
    (hs : swapsWith e (some (.Name x pos')) pos.line X.env = pure false := by rfl) (hf : X.fn x = true ∨ X.env.scope.names.lookup x = some .local := by first | exact .inl rfl | exact .inr rfl | assumption) :
    PS X (.Assign [.Name x pos'] e pos) (tS L J fl fl1 W (sSet i f)) :=
  (ps_set hN hi hx he hs hf).imp fun D σ H ⟨F, B, ρ, r, p⟩ => ⟨F, B, ρ, r, PostS.bindE r p fun d v F' H' S _ e _ o nd fr p1 => by
    subst hf'
    exact p1 _ F' H' (.refl _) (r.setE e o nb nd fr)⟩
theorem s_expr {e : Expr} {sh : Sh} {f : Env → R D} (he : PE X e (tD L fl sh W f)) (hs : swapsWith e none pos.line X.env = pure false := by rfl) : PS X (.Expr e pos) (tS L J fl fl W (sDrop f)) :=
  (ps_expr he hs).imp fun D σ H ⟨F, B, ρ, r, p⟩ => ⟨F, B, ρ, r, PostS.bindE r p fun d v F' H' S _ e r' o nd fr p1 => p1 σ F' H' (.refl _) r'⟩
theorem s_ret {e : Expr} {f : Env → R D} (he : PE X e (tD L fl J.rs W f)) : PS X (.Return (some e) pos) (tS L J fl fl' W (sRet f)) :=
  (ps_ret he).imp fun D σ H ⟨F, B, ρ, r, p⟩ => ⟨F, B, ρ, r, PostS.bindE r p fun d v F' H' S _ e r' o nd fr p1 => p1 v F' H' S (.refl _) r'.bs o nd fun a m => ⟨(fr a m).1, (fr a m).2.none r.bs.bh r.bs.nb⟩⟩
/-- a slot's own list is handed back -/
theorem s_retO (i : Nat) {x : Str} {pos' : Pos} (hs : fl[i]? = some J.rs := by rfl) (hN : X.N[i]? = some x := by rfl) (hv : Vis X.env.scope x := by first | exact Or.inl rfl | exact Or.inr (Or.inl rfl) | exact Or.inr (Or.inr rfl)) (hd : (x == ("__debug__" : Str)) = false := by decide)
    (hcd : (x == ("__classdict__" : Str)) = false := by decide) : PS X (.Return (some (.Name x pos')) pos) (tS L J fl fl' W (sRet (mV i))) :=
  (ps_ret (pv i hN hv hd hcd)).imp fun D σ H ⟨F, B, ρ, r, p⟩ => by
    unfold sRet mV at p
    cases q : ρ[i]? with
    | none => rw [q] at p; exact p.elim
    | some o =>
      cases o with
      | none => rw [q] at p; exact p.elim
      | some d =>
        rw [q] at p
        obtain ⟨Ss, h1, h2, h3, h4⟩ := r.sl
        obtain ⟨v, sh, a1, a2, a3, a4⟩ := h1 i d q
        rw [hs] at a2
        cases a2
        exact ⟨v, a1, p v F H (Ss i) (.refl _) r.bs a4 (h3 i) fun a m => ⟨(h4 i a m).1, (h4 i a m).2.1⟩⟩
theorem s_if {c : Expr} {a b : List Stmt} {fc : Env → R Bool} {f g : Env → R Fl} (hc : PT X c (tT L fl W fc)) (ha : PSs X a (tS L J fl fl' W f)) (hb : PSs X b (tS L J fl fl' W g)) : PS X (.If c a b pos) (tS L J fl fl' W (sIf fc f g)) :=
  (ps_if hc ha hb).imp fun D σ H ⟨F, B, ρ, r, p⟩ => ⟨F, B, ρ, r, PostS.bindT r p fun b F' H' _ e r' p1 => by
    cases b with
    | true => rw [if_pos rfl] at p1 ⊢; exact ⟨F', B, ρ, r', p1⟩
    | false => rw [if_neg Bool.false_ne_true] at p1 ⊢; exact ⟨F', B, ρ, r', p1⟩⟩
theorem getL_some {ρ : Env} {i : Nat} {xs : List D} (h : getL ρ i = some xs) : ρ[i]? = some (some (.lst xs)) := by
  unfold getL at h
  split at h
  · rename_i d e
    rw [e]
    unfold asLst at h
    split at h
    · cases h; rfl
    · cases h
  · cases h
theorem OwnL.append {K : PySem.W.Frag} {F H : Hp} {e : Sh} : ∀ {vs ws : List V} {ds es : List D} {S S' : List Addr}, OwnL K F H e vs ds S → OwnL K F H e ws es S' → OwnL K F H e (vs ++ ws) (ds ++ es) (S ++ S')
  | _, _, _, _, _, _, .nil, s => s
  | _, _, _, _, _, _, .cons h r, s => by
    rw [List.append_assoc]
    exact .cons h (OwnL.append r s)
theorem OwnL.one {K : PySem.W.Frag} {F H : Hp} {e : Sh} {v : V} {d : D} {S : List Addr} (h : Own K F H e v d S) : OwnL K F H e [v] [d] S := by
  have z := OwnL.cons h (.nil (e := e))
  rw [List.append_nil] at z
  exact z
/-- x.append(e) -/
theorem s_append (i : Nat) {x : Str} {e : Expr} {sh : Sh} {f : Env → R D} {xp apos cpos : Pos} (he : PE X e (tD L fl sh W f)) (hK : X.K = L.K := by rfl) (hs : fl[i]? = some (.l sh) := by rfl) (hN : X.N[i]? = some x := by rfl) (hv : Vis X.env.scope x := by first | exact Or.inl rfl | exact Or.inr (Or.inl rfl) | exact Or.inr (Or.inr rfl)) (hd : (x == ("__debug__" : Str)) = false := by decide)
    (hcd : (x == ("__classdict__" : Str)) = false := by decide) (hbase : attributeBase (.Name x xp) "append" X.env (eval (.Name x xp) X.env) = eval (.Name x xp) X.env := by rfl)
    (hfew : ((backTo cpos (starEach [e] X.env)).all (fun x => !x.1) && (backToKw cpos (keywordEach [] X.env)).all (fun x => x.1.isSome) && decide (([e] : List Expr).length + ([] : List Keyword).length + (if ([] : List Keyword).isEmpty then 0 else 1) < 30)) = true := by rfl)
    (hline : (apos.endLine == cpos.line) = true := by rfl) (hse : starEach [e] X.env = (false, eval e X.env) :: starEach [] X.env := by rfl) (hplain : (backTo cpos (starEach [] X.env)).any (·.1) = false := by rfl)
    (hsw : swapsWith (.Call (.Attribute (.Name x xp) "append" apos) [e] [] cpos) none pos.line X.env = pure false := by rfl) :
    PS X (.Expr (.Call (.Attribute (.Name x xp) "append" apos) [e] [] cpos) pos) (tS L J fl fl W (sApp i f)) :=
  (ps_expr (pe_bm PySem.F.plainAttrs_list PySem.F.slot_list_append PySem.F.type_list_append mt_append (pv i hN hv hd hcd) (pa_cons he pa_nil hse) hbase hfew hline hse hplain) hsw).imp fun D σ H ⟨F, B, ρ, r, p⟩ => by
    unfold sApp at p
    cases q : getL ρ i with
    | none =>
      rw [q] at p
      exact p.elim
    | some xs =>
      rw [q] at p
      have hx := getL_some q
      obtain ⟨l, vs, S, a1, a2, a3, a4, a5, a6, a7, a8, go⟩ := r.mut hs hx
      refine ⟨.ref l, a1, .inl ⟨rfl, _, SqL.of a2⟩, F, B, ρ, r, PostS.bindE r p fun d v F' H' S' _ e r' o nd fr p1 => ?_⟩
      by_cases hl : xs.length < LN
      · rw [if_pos hl] at p1
        have hlv := a3.length
        refine ⟨l, vs, v, rfl, rfl, e.hh l _ a2 rfl, lt_line (by omega), ?_⟩
        refine p1 σ F' _ (.refl _) (go F' H' _ _ (S ++ S') e ((a3.mono e.ff.sm e.hh).append (.one o)) ?_ ?_ ?_ ?_)
        · intro m
          rcases List.mem_append.mp m with m | m
          · exact a4 m
          · exact (fr l m).2.no a2 rfl
        · refine List.nodup_append.mpr ⟨a7, nd, fun a m b m2 z => ?_⟩
          subst z
          obtain ⟨u, w, t⟩ := a3.there a m
          exact (fr a m2).2.no w t
        · intro a m
          rcases List.mem_append.mp m with m | m
          · obtain ⟨u, w, t⟩ := a3.there a m
            exact ⟨e.hid a u w t (a8 a m).1, (a8 a m).2⟩
          · exact ⟨(fr a m).1, (fr a m).2.none r.bs.bh r.bs.nb⟩
        · intro a m
          rcases List.mem_append.mp m with m | m
          · exact .inl m
          · exact .inr (fr a m).2
      · rw [if_neg hl] at p1; exact p1.elim
end
end PD
set_option Elab.async false
set_option linter.all false
set_option maxRecDepth 100000
set_option maxHeartbeats 1000000
namespace PD
open PySem PySem.Spec PyProof.Rows L2

/-! ### what is walked -/
/-- J hands out ds -/
noncomputable def Wk (L : LE) (J : It) (F0 : Hp) (ds : List D) : Prop := ∀ F H, Same F0 F → Same F H → NoT F →
  (∀ i d, ds[i]? = some d → J.go i H ∧ ∀ x H', J.yld i H x H' → ∃ F', Ext L.T F H F' H' ∧ Dat L.K F' x d) ∧ ∀ i, ds.length ≤ i → J.stop i H
noncomputable def PostI (L : LE) (F H : Hp) (r : R (List D)) (W : WX) (σ : L2.St) (Q : It → Hp → Prop) : Prop := match r with
  | .ok ds => ∀ J F' H', Ext L.T F H F' H' → Wk L J F' ds → Q J H'
  | .err c fs => ∀ cls d F' H', Ext L.T F H F' H' → ErrOk L c fs cls d F' H' → W cls d σ H'
  | .stuck => False
noncomputable def tI (L : LE) (fl : List Sh) (W : WX) (f : Env → R (List D)) : TI := fun σ H Q => ∃ F B ρ, Rep L fl F B σ H ρ ∧ PostI L F H (f ρ) W σ Q
/-- targets -/
noncomputable def tG (L : LE) (fl fl1 : List Sh) (vs : List Nat) (T : D → Env → Option Env) : TG := fun v σ H Q => ∃ F B ρ d, Rep L fl F B σ H ρ ∧ Dat L.K F v d ∧ ∃ ρ', T d ρ = some ρ' ∧
  ∀ σ', (σ'.length = σ.length ∧ ∀ j, j ∉ vs → σ'[j]? = σ[j]?) → Rep L fl1 F B σ' H ρ' → Q σ' H
noncomputable def gL : D → Option (List D)
  | .lst xs => some xs
  | .scr ns => some (ns.map .int)
  | _ => none
noncomputable def gT : D → Option (List D)
  | .tup xs => some xs
  | _ => none
noncomputable def gS : D → Option (List D)
  | .str s => some (s.map fun c => .str [c])
  | _ => none
noncomputable def iOf (g : D → Option (List D)) (f : Env → R D) : Env → R (List D) := fun ρ => f ρ >>= fun d => oR (g d)
noncomputable def rngL (lo : Int) (n : Nat) : List D := (List.range n).map fun i => .int (lo + (i : Nat))
noncomputable def LR : Int := 1000000000
noncomputable def gR1 : List D → Option (List D)
  | [.int j] => if -LR ≤ j ∧ j ≤ LR then some (rngL 0 j.toNat) else none
  | _ => none
noncomputable def gR2 : List D → Option (List D)
  | [.int i, .int j] => if (-LR ≤ i ∧ i ≤ LR) ∧ (-LR ≤ j ∧ j ≤ LR) then some (rngL i (j - i).toNat) else none
  | _ => none
theorem gR1_inv {ds xs : List D} (h : gR1 ds = some xs) : ∃ j, ds = [.int j] ∧ (-LR ≤ j ∧ j ≤ LR) ∧ xs = rngL 0 j.toNat := by
  unfold gR1 at h
  split at h
  · split at h
    · cases h; exact ⟨_, rfl, by assumption, rfl⟩
    · cases h
  · cases h
noncomputable def iArgs (g : List D → Option (List D)) (f : Env → R (List D)) : Env → R (List D) := fun ρ => f ρ >>= fun d => oR (g d)

section
variable {X : Cx} {L : LE} {J : Jn} {fl fl1 fl' : List Sh} {W : WX} {pos : Pos} {tg : Expr}
theorem PostI.bindE {F H : Hp} {σ : L2.St} {Q : It → Hp → Prop} {r : R D} {k : D → R (List D)} {P : VK} {sh : Sh} (p : PostI L F H (r >>= k) W σ Q) (h : ∀ d v F' H' S, r = .ok d → PostI L F H (k d) W σ Q → Ext L.T F H F' H' → Own L.K F' H' sh v d S → P v H') : PostE L F H sh r W σ P := by
  cases r with
  | ok d => exact fun v F' H' S e o _ _ => h d v F' H' S rfl p e o
  | err c fs => exact p
  | stuck => exact p
theorem i_list {e : Expr} {f : Env → R D} (he : PE X e (tD L fl .s W f)) (hK : X.K = L.K := by rfl) : PI X tg e (tI L fl W (iOf gL f)) := by
  refine ⟨fun pins s σ H Q I h => (pi_list (tg := tg) he).run pins s σ H Q I ?_⟩
  obtain ⟨F, B, ρ, r, p⟩ := h
  refine ⟨F, B, ρ, r, PostI.bindE p fun d v F1 H1 S _ p1 e1 o1 => ?_⟩
  have dv := (own_d o1).1
  cases d with
  | lst xs =>
    cases dv with
    | lst hv hd =>
      rename_i a vs
      refine ⟨a, rfl, ⟨vs, SqL.of (e1.fh _ _ hv)⟩, p1 _ F1 H1 e1 fun F H s1 s2 nt => ⟨fun i d hi => ?_, fun i hi => ?_⟩⟩
      · obtain ⟨x, hx, hdx⟩ := hd.get hi
        refine ⟨⟨vs, x, SqL.of (s2 _ _ (s1 _ _ hv)), hx⟩, fun x' H' y => ?_⟩
        obtain ⟨rfl, y⟩ := y
        have ex : x' = x := Option.some.inj ((y vs (SqL.of (s2 _ _ (s1 _ _ hv)))).symm.trans hx)
        exact ⟨F, .refl s2 nt, by rw [ex]; exact hdx.mono s1.sm⟩
      · exact ⟨vs, SqL.of (s2 _ _ (s1 _ _ hv)), by rw [hd.length]; exact hi⟩
  | scr ns =>
    cases dv with
    | scr hv =>
      rename_i a
      refine ⟨a, rfl, ⟨_, by rw [hK]; exact sm_l e1.fh.sm hv⟩, p1 _ F1 H1 e1 fun F H s1 s2 nt => ⟨fun i d hi => ?_, fun i hi => ?_⟩⟩
      · have hq : SqL X.K H a (ns.map V.int) := by rw [hK]; exact sm_l s2.sm (sm_l s1.sm hv)
        rw [List.getElem?_map] at hi
        cases q : ns[i]? with
        | none => rw [q] at hi; cases hi
        | some n =>
          rw [q] at hi
          cases hi
          have hx : (ns.map V.int)[i]? = some (.int n) := by rw [List.getElem?_map, q]; rfl
          refine ⟨⟨_, _, hq, hx⟩, fun x' H' y => ?_⟩
          obtain ⟨rfl, y⟩ := y
          have ex : x' = .int n := Option.some.inj ((y _ hq).symm.trans hx)
          exact ⟨F, .refl s2 nt, by rw [ex]; exact .int⟩
      · exact ⟨_, by rw [hK]; exact sm_l s2.sm (sm_l s1.sm hv), by rw [List.length_map] at hi ⊢; exact hi⟩
  | _ => exact p1.elim
theorem i_tup {e : Expr} {f : Env → R D} (he : PE X e (tD L fl .s W f)) (hK : X.K = L.K := by rfl) : PI X tg e (tI L fl W (iOf gT f)) := by
  refine ⟨fun pins s σ H Q I h => (pi_tup (tg := tg) he).run pins s σ H Q I ?_⟩
  obtain ⟨F, B, ρ, r, p⟩ := h
  refine ⟨F, B, ρ, r, PostI.bindE p fun d v F1 H1 S _ p1 e1 o1 => ?_⟩
  have dv := (own_d o1).1
  cases d with
  | tup xs =>
    cases dv with
    | tup hv hd =>
      rename_i a vs
      have at_ : ∀ F H, Same F1 F → Same F H → SqT X.K H a vs := fun F H s1 s2 => by rw [hK]; exact sm_t s2.sm (sm_t s1.sm hv)
      refine ⟨a, rfl, ⟨vs, at_ F1 H1 (.refl _) e1.fh⟩, p1 _ F1 H1 e1 fun F H s1 s2 nt => ⟨fun i d hi => ?_, fun i hi => ?_⟩⟩
      · obtain ⟨x, hx, hdx⟩ := hd.get hi
        refine ⟨⟨vs, x, at_ F H s1 s2, hx⟩, fun x' H' y => ?_⟩
        obtain ⟨rfl, y⟩ := y
        have ex : x' = x := Option.some.inj ((y vs (at_ F _ s1 s2)).symm.trans hx)
        exact ⟨F, .refl s2 nt, by rw [ex]; exact hdx.mono s1.sm⟩
      · exact ⟨vs, at_ F H s1 s2, by rw [hd.length]; exact hi⟩
  | _ => exact p1.elim
theorem i_str {e : Expr} {f : Env → R D} (he : PE X e (tD L fl .s W f)) : PI X tg e (tI L fl W (iOf gS f)) := by
  refine ⟨fun pins s σ H Q I h => (pi_str (tg := tg) he).run pins s σ H Q I ?_⟩
  obtain ⟨F, B, ρ, r, p⟩ := h
  refine ⟨F, B, ρ, r, PostI.bindE p fun d v F1 H1 S _ p1 e1 o1 => ?_⟩
  have dv := (own_d o1).1
  cases d with
  | str z =>
    cases dv
    refine ⟨_, rfl, p1 _ F1 H1 e1 fun F H s1 s2 nt => ⟨fun i d hi => ?_, fun i hi => ?_⟩⟩
    · rw [List.getElem?_map] at hi
      cases q : z[i]? with
      | none => rw [q] at hi; cases hi
      | some c =>
        rw [q] at hi
        cases hi
        have hl := (List.getElem?_eq_some_iff.mp q).1
        refine ⟨(by show i < z.toArray.size; simpa using hl), fun x' H' y => ?_⟩
        obtain ⟨rfl, c', hc, rfl⟩ := y
        have ec : c' = c := by
          have hc2 : z[i]? = some c' := by simpa using hc
          rw [q] at hc2
          exact (Option.some.inj hc2).symm
        refine ⟨F, .refl s2 nt, ?_⟩
        rw [ec]
        exact .str (s := [c])
    · show z.toArray.size ≤ i
      simpa using hi
  | _ => exact p1.elim
theorem wk_rng (lo : Int) (n : Nat) (F : Hp) : Wk L (Itr lo n) F (rngL lo n) := fun F H s1 s2 nt => ⟨fun i d hi => by
    unfold rngL at hi
    rw [List.getElem?_map] at hi
    cases q : (List.range n)[i]? with
    | none => rw [q] at hi; cases hi
    | some k =>
      rw [q] at hi
      cases hi
      obtain ⟨hl, ek⟩ := List.getElem?_eq_some_iff.mp q
      rw [List.getElem_range] at ek
      rw [List.length_range] at hl
      refine ⟨hl, fun x' H' y => ?_⟩
      obtain ⟨rfl, rfl⟩ := y
      exact ⟨F, .refl s2 nt, by rw [ek]; exact .int⟩, fun i hi => by
    unfold rngL at hi
    rw [List.length_map, List.length_range] at hi
    exact hi⟩
theorem PostI.bindA {F H : Hp} {σ : L2.St} {Q : It → Hp → Prop} {r : R (List D)} {k : List D → R (List D)} {bw : Bool} {P : List V → Hp → Prop} (p : PostI L F H (r >>= k) W σ Q) (h : ∀ ds vs F' H', r = .ok ds → PostI L F H (k ds) W σ Q → Ext L.T F H F' H' → DatL L.K (cond bw H' F') vs ds → P vs H') : PostA L F H bw r W σ P := by
  cases r with
  | ok d => exact fun v F' H' e o => h d v F' H' rfl p e o
  | err c fs => exact p
  | stuck => exact p
theorem PostI.oR {F H : Hp} {σ : L2.St} {Q : It → Hp → Prop} {o : Option (List D)} (p : PostI L F H (oR o) W σ Q) : ∃ xs, o = some xs := by
  cases o with
  | none => exact p.elim
  | some xs => exact ⟨xs, rfl⟩
theorem i_range1 {a : Expr} {f : Env → R (List D)} {p : Pos} (hm : X.mg "range" = none) (ha : PA X [a] (tA L fl true W f)) (hg : Gl X "range" := by rfl) (hs : starEach [a] X.env = [(false, eval a X.env)] := by rfl) : PI X tg (.Call (.Name "range" p) [a] [] pos) (tI L fl W (iArgs gR1 f)) := by
  refine ⟨fun pins s σ H Q I h => (pi_range1 (tg := tg) hg hm ha hs).run pins s σ H Q I ?_⟩
  obtain ⟨F, B, ρ, r, p⟩ := h
  refine ⟨F, B, ρ, r, PostI.bindA p fun ds vs F1 H1 _ p1 e1 d1 => ?_⟩
  obtain ⟨xs, q⟩ := p1.oR
  rw [q] at p1
  obtain ⟨j, rfl, b, rfl⟩ := gR1_inv q
  have e : LR = 1000000000 := rfl
  cases d1 with
  | cons h1 h2 =>
    cases h2
    cases h1
    exact ⟨j, rfl, by omega, by omega, p1 _ F1 H1 e1 (wk_rng 0 j.toNat F1)⟩
/-! ### targets -/
noncomputable def gSet (i : Nat) : D → Env → Option Env := fun d ρ => some (ρ.set i (some d))
noncomputable def gTup (Ts : List D → Env → Option Env) : D → Env → Option Env := fun d ρ => match d with
  | .tup xs => Ts xs ρ
  | _ => none
noncomputable def gsNil : List D → Env → Option Env
  | [], ρ => some ρ
  | _, _ => none
noncomputable def gsCons (T : D → Env → Option Env) (Ts : List D → Env → Option Env) : List D → Env → Option Env
  | d :: ds, ρ => (T d ρ).bind fun ρ' => Ts ds ρ'
  | _, _ => none
theorem g_name (i : Nat) {x : Str} (hN : X.N.Nodup) (hf' : fl.set i .s = fl1 := by rfl) (hi : X.N[i]? = some x := by rfl) (hx : Loc X.env.scope x := by first | exact Or.inl rfl | exact Or.inr rfl) (hf : X.fn x = true ∨ X.env.scope.names.lookup x = some .local := by first | exact .inl rfl | exact .inr rfl | assumption) : PG X (.Name x pos) (tG L fl fl1 [i] (gSet i)) := by
  refine ⟨fun pins s σ H v u Q I rv h => (pg_name hN hi hx hf).run pins s σ H v u Q I rv ?_⟩
  obtain ⟨F, B, ρ, d, r, dv, ρ', e, go⟩ := h
  cases e
  subst hf'
  refine go _ ⟨List.length_set, fun j hj => ?_⟩ ?_
  · rw [List.getElem?_set_ne]
    intro z
    exact hj (by simp [z])
  · exact r.setE r.refl (.d (bw := false) dv) rfl List.nodup_nil (fun a m => nomatch m)
/-- several targets -/
noncomputable def tGs (L : LE) (fl fl1 : List Sh) (vs : List Nat) (Ts : List D → Env → Option Env) : TGs := fun ws σ H Q => ∃ F B ρ ds, Rep L fl F B σ H ρ ∧ DatL L.K F ws ds ∧ ∃ ρ', Ts ds ρ = some ρ' ∧
  ∀ σ', (σ'.length = σ.length ∧ ∀ j, j ∉ vs → σ'[j]? = σ[j]?) → Rep L fl1 F B σ' H ρ' → Q σ' H
theorem gs_nil : PGs X [] (tGs L fl fl [] gsNil) := by
  refine ⟨fun pins s σ H vs us Q I rv h => pgs_nil.run pins s σ H vs us Q I rv ?_⟩
  obtain ⟨F, B, ρ, ds, r, dv, ρ', e, go⟩ := h
  cases dv with
  | nil => cases e; exact ⟨rfl, go σ ⟨rfl, fun _ _ => rfl⟩ r⟩
  | cons _ _ => cases e
theorem gs_cons {e : Expr} {es : List Expr} {fl2 : List Sh} {v1 v2 : List Nat} {T : D → Env → Option Env} {Ts : List D → Env → Option Env} (h1 : PG X e (tG L fl fl1 v1 T)) (h2 : PGs X es (tGs L fl1 fl2 v2 Ts))
    (hs : (assignEach (e :: es) X.env).map (·.2) = assign e X.env :: (assignEach es X.env).map (·.2) := by rfl) : PGs X (e :: es) (tGs L fl fl2 (v1 ++ v2) (gsCons T Ts)) := by
  refine ⟨fun pins s σ H vs us Q I rv h => (pgs_cons h1 h2 hs).run pins s σ H vs us Q I rv ?_⟩
  obtain ⟨F, B, ρ, ds, r, dv, ρ', e, go⟩ := h
  cases dv with
  | nil => cases e
  | cons hd hr =>
    rename_i v d vs ds
    refine ⟨v, vs, rfl, ?_⟩
    unfold gsCons at e
    cases q : T d ρ with
    | none => simp only [q] at e; cases e
    | some ρ1 =>
      simp only [q] at e
      refine ⟨F, B, ρ, d, r, hd, ρ1, q, fun σ1 ⟨l1, k1⟩ r1 => ⟨F, B, ρ1, ds, r1, hr, ρ', e, fun σ2 ⟨l2, k2⟩ r2 => go σ2 ⟨l2.trans l1, fun j hj => ?_⟩ r2⟩⟩
      rw [List.mem_append, not_or] at hj
      rw [k2 j hj.2, k1 j hj.1]
theorem g_tup {es : List Expr} {k : Nat} {vs : List Nat} {Ts : List D → Env → Option Env} (n : Nat) (hn0 : ∀ ds ρ ρ', Ts ds ρ = some ρ' → ds.length = n) (h : PGs X es (tGs L fl fl1 vs Ts)) (hK : X.K = L.K := by rfl) (hc : X.calm = true := by rfl)
    (hn : (assignEach es X.env).length = n := by rfl) (hst : (assignEach es X.env).findIdx? (·.1) = none := by rfl) : PG X (.Tuple es k pos) (tG L fl fl1 vs (gTup Ts)) := by
  refine ⟨fun pins s σ H v u Q I rv hh => (pg_tup hc h hn hst).run pins s σ H v u Q I rv ?_⟩
  obtain ⟨F, B, ρ, d, r, dv, ρ', e, go⟩ := hh
  cases dv with
  | tup hv hd =>
    refine ⟨_, _, rfl, by rw [hK]; exact sm_t r.bs.fh.sm hv, ?_, F, B, ρ, _, r, hd, ρ', e, go⟩
    rw [hd.length]
    exact hn0 _ _ _ e
  | _ => cases e
theorem gs_len0 : ∀ ds ρ ρ', gsNil ds ρ = some ρ' → ds.length = 0
  | [], _, _, _ => rfl
  | _ :: _, _, _, h => by cases h
theorem gs_lenS {T : D → Env → Option Env} {Ts : List D → Env → Option Env} {n : Nat} (h : ∀ ds ρ ρ', Ts ds ρ = some ρ' → ds.length = n) : ∀ ds ρ ρ', gsCons T Ts ds ρ = some ρ' → ds.length = n + 1
  | [], _, _, e => by cases e
  | d :: ds, ρ, ρ', e => by
    unfold gsCons at e
    cases q : T d ρ with
    | none => simp only [q] at e; cases e
    | some ρ1 =>
      simp only [q] at e
      rw [List.length_cons, h ds ρ1 ρ' e]

/-! ### for -/
noncomputable def sLoop (T : D → Env → Option Env) (body : Env → R Fl) : List D → Env → R Fl
  | [], ρ => .ok (.nx ρ)
  | d :: ds, ρ => match T d ρ with
    | none => .stuck
    | some ρ1 => body ρ1 >>= fun r => match r with
      | .nx ρ' => sLoop T body ds ρ'
      | .ct ρ' => sLoop T body ds ρ'
      | .bk ρ' => .ok (.nx ρ')
      | r => .ok r
noncomputable def sFor (f : Env → R (List D)) (T : D → Env → Option Env) (body : Env → R Fl) : Env → R Fl := fun ρ => liftE (f ρ) ρ fun ds => sLoop T body ds ρ
theorem PostS.bindI {F B H : Hp} {σ : L2.St} {ρ : Env} {D : Ends} {r : R (List PD.D)} {k : List PD.D → R Fl} {P : It → Hp → Prop} (rp : Rep L fl F B σ H ρ) (p : PostS L J fl' F B W D (liftE r ρ k))
    (h : ∀ ds Jt F' H', r = .ok ds → Ext L.T F H F' H' → Rep L fl F' B σ H' ρ → Wk L Jt F' ds → PostS L J fl' F' B W D (k ds) → P Jt H') : PostI L F H r W σ P := by
  cases r with
  | ok d => exact fun Jt F' H' e w => h d Jt F' H' rfl e (rp.ext e) w (PostS.weak p e.ff)
  | err c fs => exact fun cls d F' H' e x => p cls d fl σ F' H' e.ff (rp.ext e) x
  | stuck => exact p
theorem s_for {iter : Expr} {body : List Stmt} {f : Env → R (List D)} {vs : List Nat} {T : D → Env → Option Env} {b : Env → R Fl} (hp : PassesOwn (model X.prog X.w) X.A X.env X.xe) (hi : PI X tg iter (tI L fl W f)) (hg : PG X tg (tG L fl fl vs T))
    (hb : PSs X body (tS L { J with fk := fl, fc := fl } fl fl W b)) (hc : X.calm = true := by rfl) (hs : ∀ x, foldedSetIterable iter X.env x = pure x := by intro _; rfl) : PS X (.For tg iter body [] pos) (tS L J fl fl W (sFor f T b)) :=
  (ps_for hp hc hi hg hb hs).imp fun D σ H ⟨F, B, ρ, r, p⟩ => ⟨F, B, ρ, r, PostS.bindI r p fun ds Jt F1 H1 _ e1 r1 w p1 => by
    refine ⟨fun i m σ H => m = ds.length - i ∧ i ≤ ds.length ∧ ∃ F2 ρ2, Same F1 F2 ∧ Rep L fl F2 B σ H ρ2 ∧ PostS L J fl F2 B W D (sLoop T b (ds.drop i) ρ2), ⟨ds.length, rfl, Nat.zero_le _, F1, ρ, .refl _, r1, p1⟩, ?_⟩
    rintro i m σ2 H2 ⟨rfl, hle, F2, ρ2, s2, r2, p2⟩
    obtain ⟨w1, w2⟩ := w F2 H2 s2 r2.bs.fh r2.bs.nf
    by_cases hlt : i < ds.length
    · have hd : ds[i]? = some ds[i] := List.getElem?_eq_getElem hlt
      obtain ⟨go, yl⟩ := w1 i _ hd
      refine .inr ⟨go, fun σ' H' => ∃ F3 ρ3, Same F1 F3 ∧ Rep L fl F3 B σ' H' ρ3 ∧ PostS L J fl F3 B W D (sLoop T b (ds.drop (i + 1)) ρ3), fun σ' H' n => ⟨ds.length - (i + 1), by omega, rfl, hlt, n⟩, fun x H' y => ?_⟩
      obtain ⟨F3, e3, d3⟩ := yl x H' y
      rw [List.drop_eq_getElem_cons hlt] at p2
      unfold sLoop at p2
      cases q : T ds[i] ρ2 with
      | none => rw [q] at p2; exact p2.elim
      | some ρ3 =>
        rw [q] at p2
        dsimp only at p2
        refine ⟨F3, B, ρ2, ds[i], r2.ext e3, d3, ρ3, q, fun σ3 _ r3 => ⟨F3, B, ρ3, r3, ?_⟩⟩
        have p3 := p2.weak e3.ff
        have s3 : Same F1 F3 := s2.trans e3.ff
        cases qb : b ρ3 with
        | ok y =>
          rw [qb, bind_ok] at p3
          cases y with
          | nx ρ' => exact fun σ' F' H' s r' => ⟨F', ρ', s3.trans s, r', p3.weak s⟩
          | rt d => exact p3
          | bk ρ' => exact p3
          | ct ρ' => exact fun σ' F' H' s r' => ⟨F', ρ', s3.trans s, r', p3.weak s⟩
          | ex c fs ρ' => exact p3
        | err c fs => rw [qb, bind_err] at p3; exact p3
        | stuck => rw [qb, bind_stuck] at p3; exact p3
    · have e : i = ds.length := by omega
      subst e
      rw [List.drop_length] at p2
      exact .inl ⟨w2 _ (Nat.le_refl _), p2 σ2 F2 H2 (.refl _) r2⟩⟩

/-! ### while -/
noncomputable def sWh (c : Env → R Bool) (body : Env → R Fl) : Nat → Env → R Fl
  | 0, _ => .stuck
  | n + 1, ρ => liftE (c ρ) ρ fun b => if b = true then body ρ >>= fun r => match r with
      | .nx ρ' => sWh c body n ρ'
      | .ct ρ' => sWh c body n ρ'
      | .bk ρ' => .ok (.nx ρ')
      | r => .ok r
    else .ok (.nx ρ)
noncomputable def WF : Nat := 10000000
noncomputable def sWhile (c : Env → R Bool) (body : Env → R Fl) : Env → R Fl := sWh c body WF
theorem s_while {c : Expr} {body : List Stmt} {fc : Env → R Bool} {b : Env → R Fl} (hp : PassesOwn (model X.prog X.w) X.A X.env X.xe) (hc : PT X c (tT L fl W fc)) (hb : PSs X body (tS L { J with fk := fl, fc := fl } fl fl W b)) : PS X (.While c body [] pos) (tS L J fl fl W (sWhile fc b)) :=
  (ps_while hp hc hb).imp fun D σ H ⟨F, B, ρ, r, p⟩ => by
    refine ⟨fun m σ H => ∃ F2 ρ2, Same F F2 ∧ Rep L fl F2 B σ H ρ2 ∧ PostS L J fl F2 B W D (sWh fc b m ρ2), ⟨WF, F, ρ, .refl _, r, p⟩, ?_⟩
    rintro m σ2 H2 ⟨F2, ρ2, s2, r2, p2⟩
    cases m with
    | zero => exact p2.elim
    | succ m =>
      unfold sWh at p2
      refine ⟨F2, B, ρ2, r2, PostS.bindT r2 p2 fun k F3 H3 _ e3 r3 p3 => ?_⟩
      have s3 : Same F F3 := s2.trans e3.ff
      cases k with
      | false => rw [if_neg Bool.false_ne_true] at p3 ⊢; exact p3 σ2 F3 H3 (.refl _) r3
      | true =>
        rw [if_pos rfl] at p3 ⊢
        refine ⟨fun σ' H' => ∃ F4 ρ4, Same F F4 ∧ Rep L fl F4 B σ' H' ρ4 ∧ PostS L J fl F4 B W D (sWh fc b m ρ4), fun σ' H' n => ⟨m, Nat.lt_succ_self m, n⟩, F3, B, ρ2, r3, ?_⟩
        cases qb : b ρ2 with
        | ok y =>
          rw [qb, bind_ok] at p3
          cases y with
          | nx ρ' => exact fun σ' F' H' s r' => ⟨F', ρ', s3.trans s, r', p3.weak s⟩
          | rt d => exact p3
          | bk ρ' => exact p3
          | ct ρ' => exact fun σ' F' H' s r' => ⟨F', ρ', s3.trans s, r', p3.weak s⟩
          | ex c fs ρ' => exact p3
        | err c fs => rw [qb, bind_err] at p3; exact p3
        | stuck => rw [qb, bind_stuck] at p3; exact p3
end
end PD
set_option Elab.async false
set_option linter.all false
set_option maxRecDepth 100000
set_option maxHeartbeats 1000000
namespace PD
open PySem PySem.Spec PyProof.Rows L2

/-! ### defs -/
noncomputable def PostF (L : LE) (F B : Hp) (rs : Sh) (r : R D) (Q : VK) (E : XK) : Prop := match r with
  | .ok d => ∀ v F' H' S, Same F F' → Bs L F' B H' → Own L.K F' H' rs v d S → S.Nodup → (∀ a ∈ S, F' a = none ∧ B a = none) → Q v H'
  | .err c fs => ∀ cls d F' H', Same F F' → Bs L F' B H' → ErrOk L c fs cls d F' H' → E cls d H'
  | .stuck => False
noncomputable def spD (L : LE) (rs : Sh) (n : Nat) (m : List D → R D) : Sp := fun vs H Q E => ∃ F B ds, Bs L F B H ∧ DatL L.K F vs ds ∧ ds.length = n ∧ PostF L F B rs (m ds) Q E
noncomputable def mFn (n : Nat) (fall : Bool) (b : Env → R Fl) : List D → R D := fun ds => match b (ds.map some ++ List.replicate (n - ds.length) none) with
  | .ok (.nx _) => if fall = true then .ok .non else .stuck
  | .ok (.rt d) => .ok d
  | .ok (.ex c fs _) => .err c fs
  | _ => .stuck
/-- a def that may be called: its level k, its result's shape, its number of parameters, its mirror -/
structure Cal (P : Program) (w : World) (K : PySem.W.Frag) (mg : Str → Option Value) (base : Heap) (L : LE) (x : Str) (k : Nat) (rs : Sh) (n : Nat) (m : List D → R D) : Prop where
  ex : ∃ f fd ps, FnOk P w K mg base (L2.CX P w) k f fd ps (spD L rs n m) ∧ mg x = some (.ref f) ∧ PySem.W.keepIn K (.ref f) = true ∧ Binds K fd ps []
noncomputable def WF' (E : XK) : WX := fun cls d _ H => E cls d H
section
variable {P : Program} {w : World} {K : PySem.W.Frag} {mg : Str → Option Value} {base : Heap} {L : LE}
theorem rep_start {N : List Str} {vs : List V} {ds : List D} {F B H : Hp} {fl rest : List Sh} (b : Bs L F B H) (d : DatL L.K F vs ds) (hf : fl = List.replicate ds.length .s ++ rest) (hn : fl.length = N.length) (hx : fl.all (fun sh => !sh.isX) = true) :
    Rep L fl F B (L2.start N vs) H (ds.map some ++ List.replicate (N.length - ds.length) none) := by
  have hl := d.length
  have h1 : ds.length ≤ N.length := by
    rw [← hn, hf, List.length_append, List.length_replicate]
    omega
  refine ⟨b, ?_, ?_, fun i u eo q => ?_, fun _ => [], fun i d' q => ?_, (fun i j a m => nomatch m), fun _ => List.nodup_nil, fun i a m => nomatch m⟩
  · unfold L2.start
    rw [List.length_append, List.length_map, List.length_replicate, hl, hn]
    omega
  · rw [List.length_append, List.length_map, List.length_replicate, hn]
    omega
  · have := List.all_eq_true.mp hx _ (List.mem_of_getElem? q)
    cases this
  · by_cases hi : i < ds.length
    · rw [List.getElem?_append_left (by rw [List.length_map]; exact hi), List.getElem?_map, List.getElem?_eq_getElem hi] at q
      cases q
      obtain ⟨v, e, dv⟩ := d.get (List.getElem?_eq_getElem hi)
      refine ⟨v, .s, ?_, ?_, rfl, .d (bw := false) dv⟩
      · unfold L2.start
        rw [List.getElem?_append_left (by rw [List.length_map, hl]; exact hi), List.getElem?_map, e]
        rfl
      · rw [hf, List.getElem?_append_left (by rw [List.length_replicate]; exact hi), List.getElem?_replicate, if_pos hi]
    · rw [List.getElem?_append_right (by rw [List.length_map]; omega), List.getElem?_replicate] at q
      split at q <;> cases q
theorem fnD {x qual : Str} {st : Stmt} {f : Addr} {fd : FuncData} {N ps : List Str} {k : Nat} (F : Fun K x qual st f fd) (S : FnScope N ps (defScope st)) (hL : L.K = K) {fl fl' rest : List Sh} {rs : Sh} {b : Env → R Fl} (fall : Bool)
    (hfl : fl = List.replicate ps.length .s ++ rest) (hln : fl.length = N.length) (hfall : fall = true → rs = .s)
    (hb : ∀ (cdv : Value) (A : Around) (outer : List PySem.Env) (s : Shared) (H : Hp) (E : XK), Room k (A.deeper (envOfC qual (defScope st) s.heap.objs.size f cdv)) →
      PSs (cxOf (L2.CX P w) P w K mg base N qual (defScope st) f cdv A outer s H E) (defBody st) (tS L ⟨rs, [], []⟩ fl fl' (WF' E) b))  (hnx : fl.all (fun sh => !sh.isX) = true := by rfl) :
    FnOk P w K mg base (L2.CX P w) (k + 1) f fd ps (spD L rs ps.length (mFn N.length fall b)) := by
  refine F.okX S (fun vs H Q E ⟨_, _, ds, _, d, hl, _⟩ => d.length.trans hl) (fun cdv A outer s H vs Q E hr ⟨F0, B, ds, bs, d, hl, p⟩ => ⟨_, hb cdv A outer s H E hr, ?_⟩)
  refine ⟨F0, B, _, rep_start (N := N) bs d (by rw [hl]; exact hfl) hln hnx, ?_⟩
  unfold mFn at p
  generalize b (ds.map some ++ List.replicate (N.length - ds.length) none) = r at p
  cases r with
  | ok y =>
    cases y with
    | nx ρ =>
      dsimp only at p
      cases fall with
      | false => rw [if_neg Bool.false_ne_true] at p; exact p.elim
      | true =>
        rw [if_pos rfl] at p
        have e := hfall rfl
        subst e
        exact fun σ' F' H' s r' => p .non F' H' [] s r'.bs (.d (bw := false) .non) List.nodup_nil (fun a m => nomatch m)
    | rt d => exact p
    | bk ρ => exact p.elim
    | ct ρ => exact p.elim
    | ex c fs ρ => exact fun cls d fl0 σ' F' H' s r' x => p cls d F' H' s r'.bs x
  | err c fs => exact p.elim
  | stuck => exact p.elim
theorem cal_of {x : Str} {f : Addr} {fd : FuncData} {ps : List Str} {k n : Nat} {rs : Sh} {m : List D → R D} {st : Stmt} {qual : Str} (G : FnOk P w K mg base (L2.CX P w) k f fd ps (spD L rs n m)) (F : Fun K x qual st f fd) (b : Binds K fd ps []) (hm : mg x = some (.ref f)) : Cal P w K mg base L x k rs n m :=
  ⟨f, fd, ps, G, hm, F.kp, b⟩
end

/-! ### calls -/
noncomputable def mCall (n : Nat) (m : List D → R D) (fs : Env → R (List D)) : Env → R D := fun ρ => fs ρ >>= fun ds => if ds.length = n then m ds else .stuck
noncomputable def noF {α : Type} (r : R α) : R α := match r with
  | .err c (_ :: _) => .stuck
  | r => r
noncomputable def mCallA (n : Nat) (m : List D → R D) (fs : Env → R (List D)) : Env → R D := fun ρ => fs ρ >>= fun ds => if ds.length = n then noF (m ds) >>= fun d => if isAtom d = true then .ok d else .stuck else .stuck
open Classical in
noncomputable def offH (F H : Hp) : Hp := fun a => if F a = none then (match H a with
  | some o => if isTbl o = true then none else some o
  | none => none) else none
noncomputable def visH (H : Hp) : Hp := fun a => match H a with
  | some o => if isTbl o = true then none else some o
  | none => none
section
variable {F H F' H' : Hp}
theorem visH_some {a : Addr} {o : HO} (h : H a = some o) (t : isTbl o = false) : visH H a = some o := by
  unfold visH; rw [h]; dsimp only; rw [if_neg (by rw [t]; exact Bool.false_ne_true)]
theorem visH_of {a : Addr} {o : HO} (h : visH H a = some o) : H a = some o ∧ isTbl o = false := by
  unfold visH at h
  cases q : H a with
  | none => rw [q] at h; cases h
  | some u =>
    rw [q] at h
    dsimp only at h
    by_cases t : isTbl u = true
    · rw [if_pos t] at h; cases h
    · rw [if_neg t] at h; cases h; exact ⟨rfl, by simpa using t⟩
theorem offH_some {a : Addr} {o : HO} (n : F a = none) (h : H a = some o) (t : isTbl o = false) : offH F H a = some o := by
  unfold offH; rw [if_pos n, h]; dsimp only; rw [if_neg (by rw [t]; exact Bool.false_ne_true)]
theorem offH_of {a : Addr} {o : HO} (h : offH F H a = some o) : F a = none ∧ H a = some o ∧ isTbl o = false := by
  unfold offH at h
  by_cases n : F a = none
  · rw [if_pos n] at h
    exact ⟨n, visH_of (H := H) h⟩
  · rw [if_neg n] at h; cases h
theorem offH_bs {L : LE} {B : Hp} (b : Bs L F B H) : Bs L F (offH F H) H :=
  ⟨b.fh, fun a o h => (offH_of h).2.1, fun a o h => (offH_of h).1, b.nf, fun a o h => (offH_of h).2.2, b.tab⟩
theorem offH_ext {L : LE} (s : Same F F') (fh0 : Same F H) (b : Bs L F' (offH F H) H') : Ext L.T F H F' H' := by
  refine ⟨fun a o h t => ?_, fun P m _ => b.tab P m, s, b.fh, fun a o h t n => b.fb a o (offH_some n h t), b.nf⟩
  cases q : F a with
  | none => exact b.bh a o (offH_some q h t)
  | some u =>
    have z := fh0 a u q
    rw [h] at z
    cases z
    exact b.fh a o (s a o q)
end
section
variable {X : Cx} {L : LE} {fl : List Sh} {W : WX} {pos : Pos}
theorem e_call {x : Str} {p : Pos} {e : Expr} {es : List Expr} {k j n : Nat} {rs : Sh} {m : List D → R D} {fs : Env → R (List D)} (c : Cal X.prog X.w X.K X.mg X.base L x k rs n m) (hr : Room j X.A) (tk : Takes X W)
    (ha : PA X (e :: es) (tA L fl false W fs)) (hk : k ≤ j := by first | decide | omega) (hg : Gl X x := by rfl) (hdb : (x == ("__debug__" : Str)) = false := by decide) (he : starEach (e :: es) X.env = (false, eval e X.env) :: starEach es X.env := by rfl) (hpl : (backTo pos (starEach es X.env)).any (·.1) = false := by rfl) :
    PE X (.Call (.Name x p) (e :: es) [] pos) (tD L fl rs W (mCall n m fs)) := by
  obtain ⟨f, fd, ps, G, hm, hkp, hb⟩ := c.ex
  refine (pe_callS G (hr.mono hk) hg hm hkp hb (fun σ => passAt tk σ) ha hdb he hpl).imp fun σ H Q ⟨F, B, ρ, r, p⟩ => ?_
  refine tA_bind rfl r (k := fun ds => if ds.length = n then m ds else .stuck) p fun ds vs F1 H1 _ e1 r1 d1 p1 => ?_
  by_cases hl : ds.length = n
  · rw [if_pos hl] at p1
    refine ⟨F1, offH F1 H1, ds, offH_bs r1.bs, d1, hl, ?_⟩
    unfold PostE at p1
    unfold PostF
    cases q : m ds with
    | ok d =>
      rw [q] at p1
      intro v F2 H2 S s b o nd fr
      refine p1 v F2 H2 S (offH_ext s r1.bs.fh b) o nd fun a m => ⟨(fr a m).1, fun u hu => ?_⟩
      cases t : isTbl u with
      | true => rfl
      | false =>
        have z := (fr a m).2
        cases qf : F1 a with
        | none => rw [offH_some qf hu t] at z; cases z
        | some u' =>
          have z2 := (fr a m).1
          rw [s a u' qf] at z2
          cases z2
    | err c fs =>
      rw [q] at p1
      exact fun cls d F2 H2 s b x => p1 cls d F2 H2 (offH_ext s r1.bs.fh b) x
    | stuck => rw [q] at p1; exact p1
  · rw [if_neg hl] at p1; exact p1.elim
/-! ### raise -/
/-- an own class of errors without an __init__ -/
structure Xcl (K : PySem.W.Frag) (mg : Str → Option Value) (L : LE) (c : Str) : Prop where
  g : mg c = some (.ref (L.ca c))
  x : PySem.W.excIn K (L.ca c) [.type "ValueError", .type "Exception", .type "BaseException", .type "object"] "ValueError.__new__" = true
  k : PySem.W.keepIn K (.ref (L.ca c)) = true
  b : PySem.W.subIn K (.ref (L.ca c)) (.type "BaseException") = some true
  t : PySem.W.typeIn K (.ref (L.ca c)) = some (.type "type")
/-! ### list comprehensions -/
noncomputable def wipeD (ρ : Env) : List Nat → Env
  | [] => ρ
  | v :: vs => (wipeD ρ vs).set v none
noncomputable def nE {α : Type} (r : R α) : R α := match r with
  | .ok a => .ok a
  | _ => .stuck
noncomputable def lcGo (T : D → Env → Option Env) (ft : Env → R Bool) (fe : Env → R D) (ρ : Env) : List D → R (List D)
  | [] => .ok []
  | d :: ds => match T d ρ with
    | none => .stuck
    | some ρ' => nE (ft ρ') >>= fun b => if b = true then nE (fe ρ') >>= fun y => lcGo T ft fe ρ ds >>= fun ys => .ok (y :: ys) else lcGo T ft fe ρ ds
noncomputable def mLc (fi : Env → R (List D)) (vs : List Nat) (T : D → Env → Option Env) (ft : Env → R Bool) (fe : Env → R D) : Env → R D := fun ρ => fi ρ >>= fun ds => lcGo T ft fe (wipeD ρ vs) ds >>= fun xs => if xs.length ≤ LN then .ok (.lst xs) else .stuck
noncomputable def mYes : Env → R Bool := fun _ => .ok true
noncomputable abbrev W0 : WX := fun _ _ _ _ => False
theorem wipe_get {σ : L2.St} {j : Nat} : ∀ {vs : List Nat}, (wipe σ vs)[j]? = if j ∈ vs ∧ j < σ.length then some none else σ[j]?
  | [] => by simp [wipe]
  | v :: vs => by
    unfold wipe
    by_cases hv : v = j
    · subst hv
      by_cases hl : v < σ.length
      · rw [List.getElem?_set_self (by rw [wipe_length]; exact hl), if_pos ⟨List.mem_cons_self, hl⟩]
      · rw [if_neg fun z => hl z.2, List.getElem?_eq_none (by rw [List.length_set, wipe_length]; omega), List.getElem?_eq_none (by omega)]
    · rw [List.getElem?_set_ne hv, wipe_get]
      have e : (j ∈ v :: vs ∧ j < σ.length) ↔ (j ∈ vs ∧ j < σ.length) := by simp [Ne.symm hv]
      by_cases m : j ∈ vs ∧ j < σ.length
      · rw [if_pos m, if_pos (e.mpr m)]
      · rw [if_neg m, if_neg fun z => m (e.mp z)]
theorem wipeD_length {ρ : Env} : ∀ {vs : List Nat}, (wipeD ρ vs).length = ρ.length
  | [] => rfl
  | v :: vs => by unfold wipeD; rw [List.length_set, wipeD_length]
theorem wipeD_some {ρ : Env} {i : Nat} {d : D} : ∀ {vs : List Nat}, (wipeD ρ vs)[i]? = some (some d) → ρ[i]? = some (some d) ∧ i ∉ vs
  | [], h => ⟨h, by simp⟩
  | v :: vs, h => by
    unfold wipeD at h
    by_cases hv : v = i
    · subst hv
      by_cases hl : v < (wipeD ρ vs).length
      · rw [List.getElem?_set_self hl] at h; cases h
      · rw [List.getElem?_eq_none (by rw [List.length_set]; omega)] at h; cases h
    · rw [List.getElem?_set_ne hv] at h
      obtain ⟨a, b⟩ := wipeD_some h
      exact ⟨a, by simp [b, Ne.symm hv]⟩
/-- no slot of vs holds a just value -/
noncomputable def noXs (fl : List Sh) (vs : List Nat) : Bool := vs.all fun i => match fl[i]? with
  | some (.x _ _) => false
  | _ => true
theorem noXs_no {fl : List Sh} {vs : List Nat} {i : Nat} {u : V} {eo : Option (Addr × List (Str × V))} (h : noXs fl vs = true) (m : i ∈ vs) (q : fl[i]? = some (Sh.x u eo)) : False := by
  have := List.all_eq_true.mp h i m
  rw [q] at this
  cases this
theorem Rep.wipe {F B H : Hp} {σ : L2.St} {ρ : Env} (r : Rep L fl F B σ H ρ) (vs : List Nat) (hx : noXs fl vs = true) : Rep L fl F B (L2.wipe σ vs) H (wipeD ρ vs) := by
  obtain ⟨Ss, h1, h2, h3, h4⟩ := r.sl
  refine ⟨r.bs, by rw [wipe_length]; exact r.ls, by rw [wipeD_length]; exact r.lr, fun i u eo q => by rw [wipe_get, if_neg fun z => noXs_no hx z.1 q]; exact r.px i u eo q, Ss, fun i d q => ?_, h2, h3, h4⟩
  obtain ⟨q1, q2⟩ := wipeD_some q
  obtain ⟨v, sh, a1, a2⟩ := h1 i d q1
  exact ⟨v, sh, by rw [wipe_get, if_neg fun z => q2 z.1]; exact a1, a2⟩
theorem wipe_same {σ σ' : L2.St} {vs : List Nat} (hl : σ'.length = σ.length) (h : ∀ j, j ∉ vs → σ'[j]? = σ[j]?) : wipe σ' vs = wipe σ vs := by
  apply List.ext_getElem?
  intro j
  rw [wipe_get, wipe_get, hl]
  by_cases m : j ∈ vs
  · by_cases l : j < σ.length
    · rw [if_pos ⟨m, l⟩, if_pos ⟨m, l⟩]
    · rw [if_neg fun z => l z.2, if_neg fun z => l z.2, List.getElem?_eq_none (by omega), List.getElem?_eq_none (by omega)]
  · rw [if_neg fun z => m z.1, if_neg fun z => m z.1, h j m]
theorem wipe_wipe {σ : L2.St} {vs : List Nat} : wipe (wipe σ vs) vs = wipe σ vs := by
  apply List.ext_getElem?
  intro j
  rw [wipe_get, wipe_length]
  by_cases m : j ∈ vs ∧ j < σ.length
  · rw [if_pos m, wipe_get, if_pos m]
  · rw [if_neg m]
theorem lc_noerr {T : D → Env → Option Env} {ft : Env → R Bool} {fe : Env → R D} {ρ : Env} {c : Str} {fs : List (Str × D)} : ∀ ds : List D, lcGo T ft fe ρ ds ≠ .err c fs
  | [], h => by cases h
  | d :: ds, h => by
    unfold lcGo at h
    split at h
    · cases h
    · rename_i ρ' _
      cases qt : ft ρ' with
      | ok b =>
        rw [qt] at h
        cases b with
        | true =>
          cases qe : fe ρ' with
          | ok y =>
            rw [qe] at h
            cases q : lcGo T ft fe ρ ds with
            | ok ys => rw [q] at h; cases h
            | err c fs => exact lc_noerr ds q
            | stuck => rw [q] at h; cases h
          | err c fs => rw [qe] at h; cases h
          | stuck => rw [qe] at h; cases h
        | false => exact lc_noerr ds h
      | err c fs => rw [qt] at h; cases h
      | stuck => rw [qt] at h; cases h
theorem t_lc {fi : Env → R (List D)} {vs : List Nat} {T : D → Env → Option Env} {ft : Env → R Bool} {fe : Env → R D} {σ : L2.St} {H : Hp} {Q : VK} (hw : noXs fl vs = true) (h : tD L fl (.l .s) W (mLc fi vs T ft fe) σ H Q) :
    tLc (tI L fl W fi) (tG L fl fl vs T) (tT L fl W0 ft) (tD L fl .s W0 fe) vs σ H Q := by
  obtain ⟨F, B, ρ, r, p⟩ := h
  refine ⟨F, B, ρ, r, ?_⟩
  unfold mLc at p
  cases qi : fi ρ with
  | err c fs => rw [qi, bind_err] at p; exact p
  | stuck => rw [qi, bind_stuck] at p; exact p
  | ok ds =>
    rw [qi, bind_ok] at p
    intro Jt F1 H1 e1 w Dn hD
    have r1 := r.ext e1
    have p := p.weak e1
    cases qg : lcGo T ft fe (wipeD ρ vs) ds with
    | err c fs =>
      exfalso
      exact lc_noerr _ qg
    | stuck => rw [qg, bind_stuck] at p; exact p.elim
    | ok xs =>
      rw [qg, bind_ok] at p
      by_cases hlen : xs.length ≤ LN
      · rw [if_pos hlen] at p
        have hF1 : F1 Dn = none := e1.fh.free hD
        refine ⟨fun i m H => m = ds.length - i ∧ i ≤ ds.length ∧ ∃ F' acc dacc rest, Ext L.T F1 H1 F' H ∧ F' Dn = none ∧ H Dn = some (.lst acc) ∧ DatL L.K F' acc dacc ∧ lcGo T ft fe (wipeD ρ vs) (ds.drop i) = .ok rest ∧ xs = dacc ++ rest,
          ⟨ds.length, rfl, Nat.zero_le _, F1, [], [], xs, Ext.newH r1.bs.fh r1.bs.nf hD, hF1, upd_same, .nil, qg, rfl⟩, ?_⟩
        rintro i m H2 ⟨rfl, hle, F2, acc, dacc, rest, e2, hF2, hacc, hd, hg, hx⟩
        obtain ⟨w1, w2⟩ := w F2 H2 e2.ff e2.fh e2.nt
        by_cases hlt : i < ds.length
        · have hdi : ds[i]? = some ds[i] := List.getElem?_eq_getElem hlt
          obtain ⟨go, yl⟩ := w1 i _ hdi
          refine .inr ⟨go, fun H' => ∃ F' acc dacc rest, Ext L.T F1 H1 F' H' ∧ F' Dn = none ∧ H' Dn = some (.lst acc) ∧ DatL L.K F' acc dacc ∧ lcGo T ft fe (wipeD ρ vs) (ds.drop (i + 1)) = .ok rest ∧ xs = dacc ++ rest,
            fun H' n => ⟨ds.length - (i + 1), by omega, rfl, hlt, n⟩, fun x H3 y => ?_⟩
          obtain ⟨F3, e3, d3⟩ := yl x H3 y
          have e13 := e2.trans e3
          have r3 : Rep L fl F3 B (wipe σ vs) H3 (wipeD ρ vs) := (r1.ext e13).wipe vs hw
          rw [List.drop_eq_getElem_cons hlt] at hg
          unfold lcGo at hg
          cases qT : T ds[i] (wipeD ρ vs) with
          | none => rw [qT] at hg; cases hg
          | some ρ' =>
            rw [qT] at hg
            dsimp only at hg
            refine ⟨F3, B, wipeD ρ vs, ds[i], r3, d3, ρ', qT, fun σ' ⟨hl', hk'⟩ r4 => ⟨?_, ?_⟩⟩
            · rw [wipe_same hl' hk', wipe_wipe]
            · refine ⟨F3, B, ρ', r4, ?_⟩
              cases qt : ft ρ' with
              | err c fs => rw [qt] at hg; cases hg
              | stuck => rw [qt] at hg; cases hg
              | ok b =>
                rw [qt] at hg
                have hg : (if b = true then nE (fe ρ') >>= fun y => lcGo T ft fe (wipeD ρ vs) (ds.drop (i + 1)) >>= fun ys => .ok (y :: ys) else lcGo T ft fe (wipeD ρ vs) (ds.drop (i + 1))) = .ok rest := hg
                intro F4 H4 e4
                have hF4 : ∀ {F5 H5}, Ext L.T F2 H2 F5 H5 → F5 Dn = none := fun e => e.hid Dn _ hacc rfl hF2
                cases b with
                | false =>
                  rw [if_neg Bool.false_ne_true] at hg ⊢
                  have e24 := e3.trans e4
                  exact ⟨F4, acc, dacc, rest, e13.trans e4, hF4 e24, e24.hh _ _ hacc rfl, hd.mono e24.ff.sm, hg, hx⟩
                | true =>
                  rw [if_pos rfl] at hg ⊢
                  refine ⟨F4, B, ρ', r4.ext e4, ?_⟩
                  cases qe : fe ρ' with
                  | err c fs => rw [qe] at hg; cases hg
                  | stuck => rw [qe] at hg; cases hg
                  | ok y =>
                    rw [qe] at hg
                    have hg : (lcGo T ft fe (wipeD ρ vs) (ds.drop (i + 1)) >>= fun ys => .ok (y :: ys)) = .ok rest := hg
                    intro v F5 H5 S5 e5 o5 _ _
                    have e25 := (e3.trans e4).trans e5
                    cases ql : lcGo T ft fe (wipeD ρ vs) (ds.drop (i + 1)) with
                    | err c fs => rw [ql] at hg; cases hg
                    | stuck => rw [ql] at hg; cases hg
                    | ok ys =>
                      rw [ql, bind_ok] at hg
                      cases hg
                      have hacc5 := e25.hh _ _ hacc rfl
                      have hlen2 : acc.length < LN := by
                        have h1 := hd.length
                        rw [hx, List.length_append, List.length_cons] at hlen
                        omega
                      refine ⟨acc, hacc5, lt_line hlen2, F5, acc ++ [v], dacc ++ [y], ys, ?_, hF4 e25, upd_same, (hd.mono e25.ff.sm).append (.cons (own_d o5).1 .nil), rfl, by rw [hx, List.append_assoc]; rfl⟩
                      have e15 := (e13.trans e4).trans e5
                      have ne : ∀ a o, H1 a = some o → a ≠ Dn := fun a o h z => by rw [z, hD] at h; cases h
                      refine ⟨fun a o h t => by rw [upd_ne (ne a o h)]; exact e15.hh a o h t, fun P m h => ?_, e15.ff, fun a o h => ?_, e15.hid, e15.nt⟩
                      · obtain ⟨ps, q1, q2⟩ := e15.ht P m h
                        obtain ⟨ps0, q3, _⟩ := h
                        exact ⟨ps, by rw [upd_ne (ne P _ q3)]; exact q1, q2⟩
                      · rw [upd_ne fun z => by rw [z, hF4 e25] at h; cases h]
                        exact e15.fh a o h
        · have e : i = ds.length := by omega
          subst e
          rw [List.drop_length] at hg
          cases hg
          refine .inl ⟨w2 _ (Nat.le_refl _), ?_⟩
          refine p _ F2 H2 [Dn] e2 (.l hacc (OwnL.ofDat (by rw [hx, List.append_nil]; exact hd))) (by simp) fun a m => ?_
          have e : a = Dn := by simpa using m
          subst e
          exact ⟨hF2, .of hD⟩
      · rw [if_neg hlen] at p; exact p.elim
end
end PD
set_option Elab.async false
set_option linter.all false
set_option maxRecDepth 100000
set_option maxHeartbeats 1000000
namespace PD
open PySem PySem.Spec PyProof.Rows L2

/-! ### operators on data -/
noncomputable def dAdd : D → D → Option D
  | .int i, .int j => some (.int (i + j))
  | .str s, .str t => if s.length + t.length ≤ LN then some (.str (s ++ t)) else none
  | .lst xs, .lst ys => if xs.length + ys.length ≤ LN then some (.lst (xs ++ ys)) else none
  | _, _ => none
noncomputable def dCat : D → D → Option D
  | .lst xs, .lst ys => if xs.length + ys.length ≤ LN then some (.lst (xs ++ ys)) else none
  | _, _ => none
noncomputable def dSub : D → D → Option D
  | .int i, .int j => some (.int (i - j))
  | _, _ => none
noncomputable def MB : Nat := 4000000
noncomputable def dMul : D → D → Option D
  | .int i, .int j => if i.natAbs.log2 + j.natAbs.log2 < MB then some (.int (i * j)) else none
  | .str s, .int j => if 0 ≤ j ∧ j ≤ 1000000 ∧ s.length * j.toNat ≤ LN then some (.str (List.replicate j.toNat s).flatten) else none
  | .lst s, .int j => if -1000000 ≤ j ∧ j ≤ 1000000 ∧ s.length * j.toNat ≤ LN then some (.lst (List.replicate j.toNat s).flatten) else none
  | _, _ => none
noncomputable def dRep : D → D → Option D
  | .lst s, .int j => if -1000000 ≤ j ∧ j ≤ 1000000 ∧ s.length * j.toNat ≤ LN then some (.lst (List.replicate j.toNat s).flatten) else none
  | _, _ => none
noncomputable def dMod : D → D → Option D
  | .int i, .int j => if 0 < j then some (.int (i % j)) else none
  | _, _ => none
noncomputable def dDiv : D → D → Option D
  | .int i, .int j => if 0 < j ∧ j.natAbs.log2 < 9000 then some (.int (i / j)) else none
  | _, _ => none
noncomputable def dPow : D → D → Option D
  | .int i, .int j => if 0 ≤ j ∧ j ≤ 1000 ∧ i.natAbs < 2 ^ 64 then some (.int (i ^ j.toNat)) else none
  | _, _ => none
section
variable {X : Cx} {L : LE} {bw : Bool}
theorem op_mulB : OpR X (binaryOp .Mult) (rI (fun i j => i.natAbs.log2 + j.natAbs.log2 < MB) fun i j => .int (i * j)) := opI fun i j t u s Q E hc q => mul_int q (by
  have b : ∀ x : Int, Builtin.Int.intBits x ≤ x.natAbs.log2 + 1 := fun x => by
    unfold Builtin.Int.intBits
    split <;> omega
  have h1 := b i
  have h2 := b j
  have h3 : i.natAbs.log2 + j.natAbs.log2 < 4000000 := hc
  have e : bitsLine = 134217728 := by decide
  intro z
  rw [Bool.and_eq_true] at z
  have z2 := z.2
  unfold Builtin.Int.intTooBig at z2
  have z3 := of_decide_eq_true z2
  rw [e] at z3
  omega)
theorem mulOk_of {x : Str} {n : Int} (h0 : 0 ≤ n) (h1 : n ≤ 1000000) (h2 : x.length * n.toNat ≤ LN) :
    (decide (n < -(2 ^ 63 : Int)) || decide (n ≥ 2 ^ 63)) = false ∧ (¬ n < 1 → (n == 1 || x.length == 0) = false → ¬ ((x.length : Int) > (2 ^ 63 - 1) / n)) ∧ (¬ n < 1 → (n == 1 || x.length == 0) = false → Builtin.Str.tooLong (x.length * n.toNat) = false) := by
  have e : LN = 1000000 := rfl
  refine ⟨?_, fun q _ => ?_, fun _ _ => ?_⟩
  · rw [Bool.or_eq_false_iff]
    exact ⟨decide_eq_false (by omega), decide_eq_false (by omega)⟩
  · have h3 : x.length ≤ 1000000 := by
      have : x.length * 1 ≤ x.length * n.toNat := Nat.mul_le_mul_left _ (by omega)
      omega
    have h4 : (1000000 : Int) ≤ (2 ^ 63 - 1) / n := by
      rw [Int.le_ediv_iff_mul_le (by omega)]
      have : 1000000 * n ≤ 1000000 * 1000000 := Int.mul_le_mul_of_nonneg_left h1 (by decide)
      omega
    omega
  · unfold Builtin.Str.tooLong
    have := sizeLine_eq
    simp only [decide_eq_false_iff_not, gt_iff_lt]
    omega
theorem foldl_app : ∀ (l : List (Array Nat)) (acc : Array Nat), (l.foldl (· ++ ·) acc).toList = acc.toList ++ (l.map Array.toList).flatten
  | [], acc => by simp
  | a :: l, acc => by rw [List.foldl_cons, foldl_app l]; simp
noncomputable def rMulS : R2 := fun x y H Q => ∃ s n, x = .str s ∧ y = .int n ∧ (0 ≤ n ∧ n ≤ 1000000 ∧ s.length * n.toNat ≤ LN) ∧ Q (.str ⟨(List.replicate n.toNat s.cps.toList).flatten.toArray⟩) H
theorem op_mulS : OpR X (binaryOp .Mult) rMulS := by
  intro pins s σ H x y v u Q I rx ry h
  obtain ⟨z, n, rfl, rfl, ⟨h0, h1, h2⟩, q⟩ := h
  obtain ⟨t, rfl⟩ := rx
  obtain ⟨t', rfl⟩ := ry
  obtain ⟨k1, k2, k3⟩ := mulOk_of h0 h1 h2
  have res : ∀ w : Str, w.cps.toList = (List.replicate n.toNat z.cps.toList).flatten → Q (.str w) H := fun w e => by
    rw [← str_eq e]; exact q
  refine PySem.P.mul_str k1 k2 k3 ?_
  by_cases c1 : n < 1
  · rw [if_pos c1]
    have e0 : n.toNat = 0 := by omega
    exact ⟨by decide, .str Str.empty, H, I.tok _, ⟨_, rfl⟩, res _ (by rw [e0]; rfl)⟩
  · rw [if_neg c1]
    by_cases c2 : (n == 1 || z.length == 0) = true
    · rw [if_pos c2]
      refine ⟨.str z, H, I, ⟨_, rfl⟩, res _ ?_⟩
      rw [Bool.or_eq_true] at c2
      rcases c2 with c2 | c2
      · have e1 : n = 1 := by simpa using c2
        subst e1
        simp
      · have e1 : z.cps.toList = [] := by
          have : z.cps.size = 0 := by simpa [Str.length] using c2
          simpa using this
        rw [e1]
        simp
    · rw [if_neg c2]
      have c2 : (n == 1 || z.length == 0) = false := by simpa using c2
      refine ⟨?_, ?_⟩
      · show ((List.replicate n.toNat z.cps).foldl (· ++ ·) #[]).size ≤ sizeLine
        rw [← Array.length_toList, foldl_app]
        have e : z.cps.toList.length = z.length := by simp [Str.length]
        simp only [List.nil_append, List.map_replicate, List.length_flatten, List.sum_replicate_nat, Array.toList_empty]
        rw [e, Nat.mul_comm]
        exact le_line h2
      refine ⟨.str ⟨(List.replicate n.toNat z.cps).foldl (· ++ ·) #[]⟩, H, I.tok _, ⟨_, rfl⟩, res _ ?_⟩
      rw [foldl_app]
      simp

theorem own_lift {K : PySem.W.Frag} {F H : Hp} {v : V} {d : D} (s : Same F H) (h : Dat K F v d) : Own K F H (.d bw) v d [] := .d (dat_lift s h)
/-- a result that needs no object -/
theorem opD_pure {r : R2} {bw2 : Bool} {g : D → D → Option D} (h : ∀ (F H : Hp) (x y : V) (dx dy d : D), Same F H → Dat L.K (cond bw H F) x dx → Dat L.K (cond bw H F) y dy → g dx dy = some d → ∃ v, (∀ F, Dat L.K F v d) ∧ ∀ Q : VK, Q v H → r x y H Q) : OpD L r bw (.d bw2) g :=
  fun F H x y dx dy d s nt hx hy e Q q => by
    obtain ⟨v, dv, go⟩ := h F H x y dx dy d s hx hy e
    exact go Q (q v F H [] (.refl s nt) (own_lift s (dv F)) List.nodup_nil fun a m => nomatch m)
/-- two roads, by the operands -/
theorem OpD.either {r r' : R2} {sh : Sh} {g g1 g2 : D → D → Option D} (h : OpD L r bw sh g1) (h' : OpD L r' bw sh g2) (e : ∀ x y d, g x y = some d → g1 x y = some d ∨ g2 x y = some d) : OpD L (fun x y H Q => r x y H Q ∨ r' x y H Q) bw sh g :=
  fun F H x y dx dy d s nt hx hy q Q k => (e dx dy d q).elim (fun z => .inl (h F H x y dx dy d s nt hx hy z Q k)) fun z => .inr (h' F H x y dx dy d s nt hx hy z Q k)
/-- a result that is new becomes shared -/
theorem OpD.frz {r : R2} {sh : Sh} {g : D → D → Option D} {bw2 : Bool} (h : OpD L r bw sh g) (n : sh.noB = true) : OpD L r bw (.d bw2) g :=
  fun F H x y dx dy d s nt hx hy q Q k => h F H x y dx dy d s nt hx hy q Q fun v F' H' S e o nd fr => by
    have s1 : Same F' (frzH F' H' S) := frzH_same fun a m => (fr a m).1
    have s2 : Same (frzH F' H' S) H' := frzH_to e.fh
    refine k v (frzH F' H' S) H' [] ⟨e.hh, e.ht, e.ff.trans s1, s2, fun a o' h1 t1 h2 => ?_, frzH_nt e.nt o.there⟩ (own_lift s2 (o.frz s1.sm n fun a m => frzH_in m)) List.nodup_nil (fun a m => nomatch m)
    by_cases m : a ∈ S
    · exact ((fr a m).2.no h1 t1).elim
    · rw [frzH_out m]; exact e.hid a o' h1 t1 h2
noncomputable def dAddI : D → D → Option D
  | .int i, .int j => some (.int (i + j))
  | _, _ => none
noncomputable def dAddS : D → D → Option D
  | .str s, .str t => if s.length + t.length ≤ LN then some (.str (s ++ t)) else none
  | _, _ => none
theorem od_addI {bw2 : Bool} : OpD L (rI0 fun i j => .int (i + j)) bw (.d bw2) dAddI := opD_pure fun F H x y dx dy d s hx hy e => by
  unfold dAddI at e
  split at e <;> cases e
  cases hx; cases hy
  exact ⟨_, fun _ => .int, fun Q q => ⟨_, _, rfl, rfl, q⟩⟩
theorem s_app {s t : List Nat} : (⟨s.toArray⟩ : Str) ++ ⟨t.toArray⟩ = ⟨(s ++ t).toArray⟩ := by
  show (⟨s.toArray ++ t.toArray⟩ : Str) = _
  simp
theorem s_len (s : List Nat) : (⟨s.toArray⟩ : Str).length = s.length := by simp [Str.length]
theorem od_addS {bw2 : Bool} : OpD L (fun x y H Q => ∃ i j, x = .str i ∧ y = .str j ∧ i.length + j.length ≤ sizeLine ∧ Q (.str (i ++ j)) H) bw (.d bw2) dAddS := opD_pure fun F H x y dx dy d s hx hy e => by
  unfold dAddS at e
  split at e
  · split at e <;> cases e
    rename_i s t hl
    cases hx; cases hy
    exact ⟨_, fun _ => .str, fun Q q => ⟨_, _, rfl, rfl, by rw [s_len, s_len]; exact le_line hl, by rw [s_app]; exact q⟩⟩
  · cases e
theorem od_cat : OpD L rCat false (.l .s) dCat := fun F H x y dx dy d s nt hx hy e Q q => by
  unfold dCat at e
  split at e
  · split at e <;> cases e
    rename_i xs ys hl
    cases hx with
    | lst h1 d1 =>
      cases hy with
      | lst h2 d2 =>
        have l1 := d1.length
        have l2 := d2.length
        refine ⟨_, _, _, _, rfl, rfl, s _ _ h1, s _ _ h2, le_line (by omega), fun p hp => ?_⟩
        refine q _ F _ [p] (Ext.newH s nt hp) (.l upd_same (OwnL.ofDat (d1.append d2))) (by simp) fun a m => ?_
        have e : a = p := by simpa using m
        subst e
        exact ⟨s.free hp, .of hp⟩
  · cases e
theorem od_add {bw2 : Bool} : OpD L (fun x y H Q => (fun x y H Q => rI0 (fun i j => .int (i + j)) x y H Q ∨ (fun x y H Q => ∃ i j, x = .str i ∧ y = .str j ∧ i.length + j.length ≤ sizeLine ∧ Q (.str (i ++ j)) H) x y H Q) x y H Q ∨ rCat x y H Q) false (.d bw2) dAdd :=
  OpD.either (g1 := fun x y => match dAddI x y with | some d => some d | none => dAddS x y) (OpD.either od_addI od_addS fun x y d e => by
    split at e
    · rename_i d' q
      cases e
      exact .inl q
    · exact .inr e) (od_cat.frz rfl) fun x y d e => by
    unfold dAdd at e
    split at e
    · exact .inl e
    · exact .inl e
    · exact .inr e
    · cases e
theorem or_add : OpR X (binaryOp .Add) (fun x y H Q => (fun x y H Q => rI0 (fun i j => .int (i + j)) x y H Q ∨ (fun x y H Q => ∃ i j, x = .str i ∧ y = .str j ∧ i.length + j.length ≤ sizeLine ∧ Q (.str (i ++ j)) H) x y H Q) x y H Q ∨ rCat x y H Q) := (op_add.or op_add_str).or op_cat
theorem od_sub {bw2 : Bool} : OpD L (rI0 fun i j => .int (i - j)) bw (.d bw2) dSub := opD_pure fun F H x y dx dy d s hx hy e => by
  unfold dSub at e
  split at e <;> cases e
  cases hx; cases hy
  exact ⟨_, fun _ => .int, fun Q q => ⟨_, _, rfl, rfl, q⟩⟩
theorem od_mod {bw2 : Bool} : OpD L (rI (fun _ j => 0 < j) fun i j => .int (i % j)) bw (.d bw2) dMod := opD_pure fun F H x y dx dy d s hx hy e => by
  unfold dMod at e
  split at e
  · split at e <;> cases e
    cases hx; cases hy
    exact ⟨_, fun _ => .int, fun Q q => ⟨_, _, rfl, rfl, by assumption, q⟩⟩
  · cases e
theorem od_div {bw2 : Bool} : OpD L (rI CDivW fun i j => .int (i / j)) bw (.d bw2) dDiv := opD_pure fun F H x y dx dy d s hx hy e => by
  unfold dDiv at e
  split at e
  · split at e <;> cases e
    cases hx; cases hy
    exact ⟨_, fun _ => .int, fun Q q => ⟨_, _, rfl, rfl, by assumption, q⟩⟩
  · cases e
theorem od_pow {bw2 : Bool} : OpD L (rI CPow fun i j => .int (i ^ j.toNat)) bw (.d bw2) dPow := opD_pure fun F H x y dx dy d s hx hy e => by
  unfold dPow at e
  split at e
  · split at e <;> cases e
    rename_i i j hh
    cases hx; cases hy
    exact ⟨_, fun _ => .int, fun Q q => ⟨_, _, rfl, rfl, ⟨hh.1, by omega, hh.2.2⟩, q⟩⟩
  · cases e
noncomputable def dMulI : D → D → Option D
  | .int i, .int j => if i.natAbs.log2 + j.natAbs.log2 < MB then some (.int (i * j)) else none
  | _, _ => none
noncomputable def dMulS : D → D → Option D
  | .str s, .int j => if 0 ≤ j ∧ j ≤ 1000000 ∧ s.length * j.toNat ≤ LN then some (.str (List.replicate j.toNat s).flatten) else none
  | _, _ => none
theorem od_mulI {bw2 : Bool} : OpD L (rI (fun i j => i.natAbs.log2 + j.natAbs.log2 < MB) fun i j => .int (i * j)) bw (.d bw2) dMulI := opD_pure fun F H x y dx dy d s hx hy e => by
  unfold dMulI at e
  split at e
  · split at e <;> cases e
    cases hx; cases hy
    exact ⟨_, fun _ => .int, fun Q q => ⟨_, _, rfl, rfl, by assumption, q⟩⟩
  · cases e
theorem od_mulS {bw2 : Bool} : OpD L rMulS bw (.d bw2) dMulS := opD_pure fun F H x y dx dy d s hx hy e => by
  unfold dMulS at e
  split at e
  · split at e <;> cases e
    rename_i hh
    cases hx; cases hy
    exact ⟨_, fun _ => .str, fun Q q => ⟨_, _, rfl, rfl, by rw [s_len]; exact hh, q⟩⟩
  · cases e
theorem datL_rep {K : PySem.W.Frag} {F : Hp} {vs : List V} {ds : List D} (h : DatL K F vs ds) : ∀ n : Nat, DatL K F (List.replicate n vs).flatten (List.replicate n ds).flatten
  | 0 => .nil
  | n + 1 => by
    rw [List.replicate_succ, List.replicate_succ, List.flatten_cons, List.flatten_cons]
    exact h.append (datL_rep h n)
theorem od_rep : OpD L rRep false (.l .s) dRep := fun F H x y dx dy d s nt hx hy e Q q => by
  unfold dRep at e
  split at e
  · split at e <;> cases e
    rename_i xs j hl
    cases hx with
    | lst h1 d1 =>
      cases hy
      have l1 := d1.length
      refine ⟨_, _, _, rfl, rfl, s _ _ h1, by omega, by omega, le_line (by rw [l1]; exact hl.2.2), fun p hp => ?_⟩
      refine q _ F _ [p] (Ext.newH s nt hp) (.l upd_same (OwnL.ofDat (datL_rep d1 _))) (by simp) fun a m => ?_
      have e : a = p := by simpa using m
      subst e
      exact ⟨s.free hp, .of hp⟩
  · cases e
theorem od_mul {bw2 : Bool} : OpD L (fun x y H Q => (fun x y H Q => rI (fun i j => i.natAbs.log2 + j.natAbs.log2 < MB) (fun i j => .int (i * j)) x y H Q ∨ rMulS x y H Q) x y H Q ∨ rRep x y H Q) false (.d bw2) dMul :=
  OpD.either (g1 := fun x y => match dMulI x y with | some d => some d | none => dMulS x y) (OpD.either od_mulI od_mulS fun x y d e => by
    split at e
    · rename_i d' q
      cases e
      exact .inl q
    · exact .inr e) (od_rep.frz rfl) fun x y d e => by
    unfold dMul at e
    split at e
    · rename_i i j
      refine .inl ?_
      show (match dMulI (.int i) (.int j) with | some d => some d | none => dMulS (.int i) (.int j)) = some d
      have e2 : dMulI (.int i) (.int j) = some d := e
      rw [e2]
    · exact .inl e
    · exact .inr e
    · cases e
theorem or_mul : OpR X (binaryOp .Mult) (fun x y H Q => (fun x y H Q => rI (fun i j => i.natAbs.log2 + j.natAbs.log2 < MB) (fun i j => .int (i * j)) x y H Q ∨ rMulS x y H Q) x y H Q ∨ rRep x y H Q) := (op_mulB.or op_mulS).or op_rep

/-! ### comparisons -/
noncomputable def dCmp (pi : Int → Int → Bool) (ps : List Nat → List Nat → Bool) : D → D → Option D
  | .int i, .int j => some (.bl (pi i j))
  | .str i, .str j => some (.bl (ps i j))
  | _, _ => none
noncomputable def dLt : D → D → Option D := dCmp (fun i j => decide (i < j)) fun i j => decide (i < j)
noncomputable def dLe : D → D → Option D := dCmp (fun i j => decide (i ≤ j)) fun i j => !decide (j < i)
noncomputable def dGt : D → D → Option D := dCmp (fun i j => decide (j < i)) fun i j => decide (j < i)
noncomputable def dGe : D → D → Option D := dCmp (fun i j => decide (j ≤ i)) fun i j => !decide (i < j)
noncomputable def dCmpI (pi : Int → Int → Bool) : D → D → Option D
  | .int i, .int j => some (.bl (pi i j))
  | _, _ => none
noncomputable def dCmpS (ps : List Nat → List Nat → Bool) : D → D → Option D
  | .str i, .str j => some (.bl (ps i j))
  | _, _ => none
theorem od_cmpI {pi : Int → Int → Bool} {bw2 : Bool} : OpD L (rI0 fun i j => .bl (pi i j)) bw (.d bw2) (dCmpI pi) := opD_pure fun F H x y dx dy d s hx hy e => by
  unfold dCmpI at e
  split at e <;> cases e
  cases hx; cases hy
  exact ⟨_, fun _ => .bl, fun Q q => ⟨_, _, rfl, rfl, q⟩⟩
theorem od_cmpS {ps : List Nat → List Nat → Bool} {bw2 : Bool} : OpD L (fun x y H Q => ∃ i j, x = .str i ∧ y = .str j ∧ Q (.bl (ps i.cps.toList j.cps.toList)) H) bw (.d bw2) (dCmpS ps) := opD_pure fun F H x y dx dy d s hx hy e => by
  unfold dCmpS at e
  split at e <;> cases e
  cases hx; cases hy
  exact ⟨_, fun _ => .bl, fun Q q => ⟨_, _, rfl, rfl, q⟩⟩
theorem od_cmp {pi : Int → Int → Bool} {ps : List Nat → List Nat → Bool} {bw2 : Bool} : OpD L (fun x y H Q => rI0 (fun i j => .bl (pi i j)) x y H Q ∨ (fun x y H Q => ∃ i j, x = .str i ∧ y = .str j ∧ Q (.bl (ps i.cps.toList j.cps.toList)) H) x y H Q) bw (.d bw2) (dCmp pi ps) :=
  OpD.either od_cmpI od_cmpS fun x y d e => by
    unfold dCmp at e
    split at e
    · exact .inl e
    · exact .inr e
    · cases e
theorem or_lt : OpR X (compareOp .Lt) (fun x y H Q => rI0 (fun i j => .bl (decide (i < j))) x y H Q ∨ (fun x y H Q => ∃ i j, x = .str i ∧ y = .str j ∧ Q (.bl (decide (i.cps.toList < j.cps.toList))) H) x y H Q) := op_lt.or op_lt_str
theorem or_le : OpR X (compareOp .LtE) (fun x y H Q => rI0 (fun i j => .bl (decide (i ≤ j))) x y H Q ∨ (fun x y H Q => ∃ i j, x = .str i ∧ y = .str j ∧ Q (.bl (!decide (j.cps.toList < i.cps.toList))) H) x y H Q) := op_le.or op_le_str
theorem or_gt : OpR X (compareOp .Gt) (fun x y H Q => rI0 (fun i j => .bl (decide (j < i))) x y H Q ∨ (fun x y H Q => ∃ i j, x = .str i ∧ y = .str j ∧ Q (.bl (decide (j.cps.toList < i.cps.toList))) H) x y H Q) := op_gt.or op_gt_str
theorem or_ge : OpR X (compareOp .GtE) (fun x y H Q => rI0 (fun i j => .bl (decide (j ≤ i))) x y H Q ∨ (fun x y H Q => ∃ i j, x = .str i ∧ y = .str j ∧ Q (.bl (!decide (i.cps.toList < j.cps.toList))) H) x y H Q) := op_ge.or op_ge_str
/-- is None -/
noncomputable def dIsN : D → D → Option D
  | .non, .non => some (.bl true)
  | _, .non => some (.bl false)
  | _, _ => none
noncomputable def dNotN : D → D → Option D
  | .non, .non => some (.bl false)
  | _, .non => some (.bl true)
  | _, _ => none
noncomputable def isNonD : D → Bool
  | .non => true
  | _ => false
theorem isN_of {K : PySem.W.Frag} {F : Hp} {x : V} {d : D} (h : Dat K F x d) : decide (x = V.non) = isNonD d := by
  cases h <;> simp [isNonD]
theorem od_isN {bw2 : Bool} : OpD L (fun x y H Q => y = .non ∧ Q (.bl (decide (x = .non))) H) bw (.d bw2) dIsN := opD_pure fun F H x y dx dy d s hx hy e => by
  have q := isN_of hx
  unfold dIsN at e
  split at e <;> cases e <;> cases hy
  · exact ⟨_, fun _ => .bl, fun Q k => ⟨rfl, by rw [q]; exact k⟩⟩
  · rename_i hn
    refine ⟨_, fun _ => .bl, fun Q k => ⟨rfl, ?_⟩⟩
    rw [q]
    cases dx <;> first | exact (hn rfl rfl).elim | exact (hn rfl).elim | exact k
theorem od_notN {bw2 : Bool} : OpD L (fun x y H Q => y = .non ∧ Q (.bl (!decide (x = .non))) H) bw (.d bw2) dNotN := opD_pure fun F H x y dx dy d s hx hy e => by
  have q := isN_of hx
  unfold dNotN at e
  split at e <;> cases e <;> cases hy
  · exact ⟨_, fun _ => .bl, fun Q k => ⟨rfl, by rw [q]; exact k⟩⟩
  · rename_i hn
    refine ⟨_, fun _ => .bl, fun Q k => ⟨rfl, ?_⟩⟩
    rw [q]
    cases dx <;> first | exact (hn rfl rfl).elim | exact (hn rfl).elim | exact k
/-! == -/
mutual
noncomputable def toP : D → PyData
  | .non => .none
  | .bl b => .bool b
  | .int i => .int i
  | .str s => .str ⟨s.toArray⟩
  | .lst xs => .list (toPs xs)
  | .tup xs => .tuple (toPs xs)
  | .scr ns => .list (ns.map .int)
  | .rng _ _ => .none
  | .obj _ _ _ => .none
  | .dic _ _ => .none
  | .dct _ _ => .none
noncomputable def toPs : List D → List PyData
  | [] => []
  | x :: xs => toP x :: toPs xs
end
mutual
/-- no range within -/
noncomputable def noR : D → Bool
  | .rng _ _ => false
  | .obj _ _ _ => false
  | .dic _ _ => false
  | .dct _ _ => false
  | .lst xs => noRs xs
  | .tup xs => noRs xs
  | _ => true
noncomputable def noRs : List D → Bool
  | [] => true
  | x :: xs => noR x && noRs xs
end
mutual
theorem dp_of {K : PySem.W.Frag} {H : Hp} : ∀ {v : V} {d : D}, noR d = true → Dat K H v d → Dp K H v (toP d)
  | _, _, _, .non => by unfold toP; exact .non
  | _, _, _, .bl => by unfold toP; exact .bl _
  | _, _, _, .int => by unfold toP; exact .int _
  | _, _, _, .str => by unfold toP; exact .str _
  | _, _, n, .lst h r => by unfold toP; unfold noR at n; exact .lst (SqL.of h) (dpl_of n r)
  | _, _, n, .tup h r => by unfold toP; unfold noR at n; exact .tup h (dpl_of n r)
  | _, _, _, .scr h => by unfold toP; exact .lst h (dpi_of _)
  | _, _, n, .rng _ => by unfold noR at n; cases n
  | _, _, n, .obj _ _ _ _ => by unfold noR at n; cases n
  | _, _, n, .dic _ _ _ => by unfold noR at n; cases n
  | _, _, n, .dct _ _ _ => by unfold noR at n; cases n
theorem dpl_of {K : PySem.W.Frag} {H : Hp} : ∀ {vs : List V} {ds : List D}, noRs ds = true → DatL K H vs ds → DpAll K H vs (toPs ds)
  | _, _, _, .nil => by unfold toPs; exact .nil
  | _, _, n, .cons h r => by
    unfold noRs at n
    rw [Bool.and_eq_true] at n
    unfold toPs; exact .cons (dp_of n.1 h) (dpl_of n.2 r)
theorem dpi_of {K : PySem.W.Frag} {H : Hp} : ∀ ns : List Int, DpAll K H (ns.map V.int) (ns.map PyData.int)
  | [] => .nil
  | n :: ns => .cons (.int n) (dpi_of ns)
end
noncomputable def okP (d : D) : Bool := noR d && SeqAt.shaped (toP d)
noncomputable def dEqB : D → D → Option Bool
  | .int i, .int j => some (i == j)
  | .str i, .str j => some (i == j)
  | .bl i, .bl j => some (i == j)
  | .non, .non => some true
  | x, y => if okP x = true ∧ okP y = true then some (PyData.eqv (toP x) (toP y)) else none
noncomputable def dEq (x y : D) : Option D := (dEqB x y).map .bl
noncomputable def dNe (x y : D) : Option D := (dEqB x y).map fun b => .bl !b
theorem dec_S {i j : List Nat} : decide (V.str ⟨i.toArray⟩ = V.str ⟨j.toArray⟩) = (i == j) := by
  rw [Bool.eq_iff_iff]
  simp
theorem eq_way {K : PySem.W.Frag} {H : Hp} {x y : V} {dx dy : D} {b : Bool} (hx : Dat K H x dx) (hy : Dat K H y dy) (e : dEqB dx dy = some b) :
    (scal x y = true ∧ decide (x = y) = b) ∨ ((noR dx = true ∧ noR dy = true) ∧ SeqAt.shaped (toP dx) = true ∧ SeqAt.shaped (toP dy) = true ∧ PyData.eqv (toP dx) (toP dy) = b) := by
  unfold dEqB at e
  split at e
  · cases e; cases hx; cases hy; exact .inl ⟨rfl, dec_int⟩
  · cases e; cases hx; cases hy; exact .inl ⟨rfl, dec_S⟩
  · cases e; cases hx; cases hy; exact .inl ⟨rfl, dec_bl⟩
  · cases e; cases hx; cases hy; exact .inl ⟨rfl, rfl⟩
  · split at e
    · rename_i hh
      cases e
      unfold okP at hh
      rw [Bool.and_eq_true, Bool.and_eq_true] at hh
      exact .inr ⟨⟨hh.1.1, hh.2.1⟩, hh.1.2, hh.2.2, rfl⟩
    · cases e
theorem cond_H {K : PySem.W.Frag} {F H : Hp} {v : V} {d : D} (s : Same F H) (h : Dat K (cond bw H F) v d) : Dat K H v d := by
  cases bw with
  | true => exact h
  | false => exact Dat.mono s.sm h
theorem od_eq {bw2 : Bool} (hK : X.K = L.K) : OpD L (fun x y H Q => rEq x y H Q ∨ rEqD X.K x y H Q) bw (.d bw2) dEq := opD_pure fun F H x y dx dy d s hx hy e => by
  unfold dEq at e
  cases q : dEqB dx dy with
  | none => rw [q] at e; cases e
  | some b =>
    rw [q] at e
    cases e
    refine ⟨_, fun _ => .bl, fun Q k => ?_⟩
    rcases eq_way (cond_H s hx) (cond_H s hy) q with ⟨z1, z2⟩ | ⟨n0, z1, z2, z3⟩
    · exact .inl ⟨z1, by rw [z2]; exact k⟩
    · exact .inr ⟨_, _, by rw [hK]; exact dp_of n0.1 (cond_H s hx), by rw [hK]; exact dp_of n0.2 (cond_H s hy), z1, z2, by rw [z3]; exact k⟩
theorem od_ne {bw2 : Bool} (hK : X.K = L.K) : OpD L (fun x y H Q => rNe x y H Q ∨ rNeD X.K x y H Q) bw (.d bw2) dNe := opD_pure fun F H x y dx dy d s hx hy e => by
  unfold dNe at e
  cases q : dEqB dx dy with
  | none => rw [q] at e; cases e
  | some b =>
    rw [q] at e
    cases e
    refine ⟨_, fun _ => .bl, fun Q k => ?_⟩
    rcases eq_way (cond_H s hx) (cond_H s hy) q with ⟨z1, z2⟩ | ⟨n0, z1, z2, z3⟩
    · exact .inl ⟨z1, by rw [z2]; exact k⟩
    · exact .inr ⟨_, _, by rw [hK]; exact dp_of n0.1 (cond_H s hx), by rw [hK]; exact dp_of n0.2 (cond_H s hy), z1, z2, by rw [z3]; exact k⟩
theorem or_eq {j : Nat} (hr : Room j X.A) : OpR X (compareOp .Eq) (fun x y H Q => rEq x y H Q ∨ rEqD X.K x y H Q) := op_eq.or (op_eqD hr.units)
theorem or_ne {j : Nat} (hr : Room j X.A) : OpR X (compareOp .NotEq) (fun x y H Q => rNe x y H Q ∨ rNeD X.K x y H Q) := op_ne.or (op_neD hr.units)
end
end PD
set_option Elab.async false
set_option linter.all false
set_option maxRecDepth 100000
set_option maxHeartbeats 1000000
namespace PD
open PySem PySem.Spec PyProof.Rows L2

/-! ### subscripts and slices -/
noncomputable def dIx : D → D → Option D
  | .lst xs, .int i => atI xs i
  | .tup xs, .int i => atI xs i
  | .scr ns, .int i => (atI ns i).map .int
  | .str s, .int i => if s.length ≤ LN then (atI s i).map fun c => .str [c] else none
  | _, _ => none
theorem atI_dat {K : PySem.W.Frag} {F : Hp} {vs : List V} {ds : List D} {i : Int} {d : D} (h : DatL K F vs ds) (e : atI ds i = some d) : ∃ v, atI vs i = some v ∧ Dat K F v d := by
  unfold atI at e ⊢
  rw [h.length]
  cases q : ixN ds.length i with
  | none => rw [q] at e; cases e
  | some j => rw [q] at e; exact h.get e
theorem atI_map {α β : Type} {f : α → β} {xs : List α} {i : Int} : atI (xs.map f) i = (atI xs i).map f := by
  unfold atI
  rw [List.length_map]
  cases ixN xs.length i with
  | none => rfl
  | some j => exact List.getElem?_map ..
section
variable {X : Cx} {L : LE} {bw : Bool} {fl : List Sh} {W : WX} {pos : Pos}
theorem dat_sq {K : PySem.W.Frag} {H : Hp} {v : V} {xs : List D} (h : Dat K H v (.lst xs)) : ∃ a vs, v = .ref a ∧ H a = some (.lst vs) ∧ DatL K H vs xs := by
  cases h with
  | lst h r => exact ⟨_, _, rfl, h, r⟩
theorem dat_tp {K : PySem.W.Frag} {H : Hp} {v : V} {xs : List D} (h : Dat K H v (.tup xs)) : ∃ a vs, v = .ref a ∧ SqT K H a vs ∧ DatL K H vs xs := by
  cases h with
  | tup h r => exact ⟨_, _, rfl, h, r⟩
theorem cond_sm {F H : Hp} (s : Same F H) : Sm (cond bw H F) H := by
  cases bw with
  | true => exact .refl _
  | false => exact s.sm
theorem od_ix (hK : X.K = L.K) : OpD L (rIx X.K) bw (.d bw) dIx := fun F H x y dx dy d s nt hx hy e Q q => by
  have fin : ∀ {v : V}, Dat L.K (cond bw H F) v d → Q v H := fun {v} h => q v F H [] (.refl s nt) (.d h) List.nodup_nil fun a m => nomatch m
  rw [hK]
  unfold dIx at e
  split at e
  · obtain ⟨a, vs, rfl, h1, h2⟩ := dat_sq hx
    cases hy
    obtain ⟨v, e1, e2⟩ := atI_dat h2 e
    exact .inl ⟨a, vs, _, v, rfl, rfl, sm_l (cond_sm s) (SqL.of h1), e1, fin e2⟩
  · obtain ⟨a, vs, rfl, h1, h2⟩ := dat_tp hx
    cases hy
    obtain ⟨v, e1, e2⟩ := atI_dat h2 e
    exact .inr (.inl ⟨a, vs, _, v, rfl, rfl, sm_t (cond_sm s) h1, e1, fin e2⟩)
  · rename_i ns i
    cases hx with
    | scr h =>
      cases hy
      cases q1 : atI ns i with
      | none => rw [q1] at e; cases e
      | some n =>
        rw [q1] at e
        cases e
        exact .inl ⟨_, _, _, .int n, rfl, rfl, sm_l (cond_sm s) h, by rw [atI_map, q1]; rfl, fin .int⟩
  · split at e
    · rename_i z i hl
      cases hx; cases hy
      cases q1 : atI z i with
      | none => rw [q1] at e; cases e
      | some c =>
        rw [q1] at e
        cases e
        exact .inr (.inr ⟨_, _, c, rfl, rfl, by rw [s_len]; exact le_line hl, q1, fin (.str (s := [c]))⟩)
    · cases e
  · cases e
theorem e_ix {a b : Expr} {fa fb : Env → R D} (ha : PE X a (tD L fl (.d bw) W fa)) (hb : PE X b (tD L fl (.d bw) W fb)) (hK : X.K = L.K := by rfl) (hs : PlainIx b := by exact fun _ _ => rfl) : PE X (.Subscript a b pos) (tD L fl (.d bw) W (m2 dIx fa fb)) :=
  (pe_ix ix_seq ha hb hs).imp fun _ _ _ h => t_op2 (od_ix hK) h
/-- an item of an own list with shared items -/
theorem e_ixO (i : Nat) {x : Str} {b : Expr} {fb : Env → R D} {pos' : Pos} {bw2 : Bool} (hb : PE X b (tD L fl .s W fb)) (hK : X.K = L.K := by rfl) (hs : PlainIx b := by exact fun _ _ => rfl) (hfl : fl[i]? = some (.l .s) := by rfl) (hN : X.N[i]? = some x := by rfl) (hv : Vis X.env.scope x := by first | exact Or.inl rfl | exact Or.inr (Or.inl rfl) | exact Or.inr (Or.inr rfl)) (hd : (x == ("__debug__" : Str)) = false := by decide)
    (hcd : (x == ("__classdict__" : Str)) = false := by decide) : PE X (.Subscript (.Name x pos') b pos) (tD L fl (.d bw2) W (m2 dIx (mV i) fb)) :=
  (pe_ix ix_seq (pv i hN hv hd hcd) hb hs).imp fun σ H Q ⟨F, B, ρ, r, p⟩ => by
    unfold m2 mV at p
    cases q : ρ[i]? with
    | none => rw [q] at p; exact p.elim
    | some o =>
      cases o with
      | none => rw [q] at p; exact p.elim
      | some d =>
        rw [q] at p
        obtain ⟨Ss, h1, _⟩ := r.sl
        obtain ⟨v, sh, a1, a2, a3, a4⟩ := h1 i d q
        rw [hfl] at a2
        cases a2
        generalize Ss i = S0 at a4
        refine ⟨v, a1, ?_⟩
        refine tD_bind rfl r (k := fun y => oR (dIx d y)) p fun dy y F1 H1 S1 _ e1 r1 o1 _ _ p1 => ?_
        have p2 := p1.weak e1
        cases q2 : dIx d dy with
        | none => rw [q2] at p2; exact p2.elim
        | some z =>
          rw [q2] at p2
          cases a4 with
          | l hp ho =>
            rename_i vs xs S
            have dy1 := (own_d o1).1
            cases dy with
            | int k =>
              cases dy1
              have hd := ((OwnL.datS ho).1).mono e1.ff.sm
              obtain ⟨w, e2, e3⟩ := atI_dat hd (show atI xs k = some z from q2)
              rw [hK]
              exact .inl ⟨_, vs, _, w, rfl, rfl, SqL.of (e1.hh _ _ hp rfl), e2, postE_ok p2 r1.refl (dat_lift r1.bs.fh e3)⟩
            | _ => cases q2

/-! slices -/
noncomputable def PostO (L : LE) (F H : Hp) (r : R (Option Int)) (W : WX) (σ : L2.St) (Q : Option Int → Hp → Prop) : Prop := match r with
  | .ok o => ∀ F' H', Ext L.T F H F' H' → Q o H'
  | .err c fs => ∀ cls d F' H', Ext L.T F H F' H' → ErrOk L c fs cls d F' H' → W cls d σ H'
  | .stuck => False
noncomputable def tO (L : LE) (fl : List Sh) (W : WX) (f : Env → R (Option Int)) : TO := fun σ H Q => ∃ F B ρ, Rep L fl F B σ H ρ ∧ PostO L F H (f ρ) W σ Q
noncomputable def mNo : Env → R (Option Int) := fun _ => .ok none
noncomputable def dInt? : D → Option (Option Int)
  | .int i => some (some i)
  | _ => none
noncomputable def mSo (f : Env → R D) : Env → R (Option Int) := fun ρ => f ρ >>= fun d => oR (dInt? d)
theorem o_none : PO X none (tO L fl W mNo) := ⟨fun pins s σ H Q I ⟨F, B, ρ, r, p⟩ => po_none.run pins s σ H Q I (p F H r.refl)⟩
theorem o_some {e : Expr} {f : Env → R D} (he : PE X e (tD L fl .b W f)) : PO X (some e) (tO L fl W (mSo f)) := ⟨fun pins s σ H Q I ⟨F, B, ρ, r, p⟩ => (po_some he).run pins s σ H Q I (by
  refine ⟨F, B, ρ, r, ?_⟩
  unfold mSo at p
  cases q : f ρ with
  | ok d =>
    rw [q, bind_ok] at p
    intro v F' H' S e o _ _
    have dv := (own_d o).1
    cases d with
    | int i => cases dv; exact ⟨i, rfl, p F' H' e⟩
    | _ => exact p.elim
  | err c fs => rw [q, bind_err] at p; exact p
  | stuck => rw [q, bind_stuck] at p; exact p)⟩
theorem PostO.weak {F H F' H' : Hp} {r : R (Option Int)} {σ : L2.St} {Q : Option Int → Hp → Prop} (p : PostO L F H r W σ Q) (e : Ext L.T F H F' H') : PostO L F' H' r W σ Q := by
  unfold PostO at p ⊢
  split at p
  · exact fun F2 H2 e2 => p F2 H2 (e.trans e2)
  · exact fun cls d F2 H2 e2 x => p cls d F2 H2 (e.trans e2) x
  · exact p
theorem tO_bind {F B H : Hp} {σ : L2.St} {ρ : Env} {f : Env → R (Option Int)} (r : Rep L fl F B σ H ρ) {Q : Option Int → Hp → Prop} {Q' : VK} {k : Option Int → R D} {sh' : Sh} (p : PostE L F H sh' (f ρ >>= k) W σ Q')
    (hk : ∀ o F' H', Ext L.T F H F' H' → Rep L fl F' B σ H' ρ → PostE L F' H' sh' (k o) W σ Q' → Q o H') : tO L fl W f σ H Q := by
  refine ⟨F, B, ρ, r, ?_⟩
  cases q : f ρ with
  | ok o => rw [q, bind_ok] at p; exact fun F' H' e => hk o F' H' e (r.ext e) (p.weak e)
  | err c fs => rw [q, bind_err] at p; exact p
  | stuck => rw [q, bind_stuck] at p; exact p
noncomputable def cutG {α : Type} (xs : List α) (lo hi : Option Int) : List α := (xs.drop (HT.sIx xs.length 0 lo)).take (HT.sIx xs.length xs.length hi - HT.sIx xs.length 0 lo)
theorem datL_cut {K : PySem.W.Frag} {F : Hp} {vs : List V} {ds : List D} (h : DatL K F vs ds) (lo hi : Option Int) : DatL K F (cutV vs lo hi) (cutG ds lo hi) := by
  unfold cutV cutG
  rw [h.length]
  exact (h.drop _).take _
noncomputable def dSl : D → Option Int → Option Int → Option D
  | .lst xs, lo, hi => some (.lst (cutG xs lo hi))
  | .str s, lo, hi => if s.length ≤ LN then some (.str (cutG s lo hi)) else none
  | _, _, _ => none
noncomputable def dSlL : D → Option Int → Option Int → Option D
  | .lst xs, lo, hi => some (.lst (cutG xs lo hi))
  | _, _, _ => none
noncomputable def mSl (g : D → Option Int → Option Int → Option D) (f : Env → R D) (fl fh : Env → R (Option Int)) : Env → R D := fun ρ => f ρ >>= fun x => fl ρ >>= fun l => fh ρ >>= fun h => oR (g x l h)
theorem cutS_G {s : List Nat} {lo hi : Option Int} : cutS ⟨s.toArray⟩ lo hi = ⟨(cutG s lo hi).toArray⟩ := by
  unfold cutS cutG
  rw [s_len]
/-- of a list (frozen) or a text -/
theorem e_sl {a : Expr} {lo hi : Option Expr} {p2 : Pos} {f : Env → R D} {fl' fh : Env → R (Option Int)} {bw : Bool} (ha : PE X a (tD L fl .s W f)) (hl : PO X lo (tO L fl W fl')) (hh : PO X hi (tO L fl W fh)) (hK : X.K = L.K := by rfl) : PE X (.Subscript a (.Slice lo hi none p2) pos) (tD L fl (.d bw) W (mSl dSl f fl' fh)) :=
  (pe_slice (sl_list.or sl_str) ha hl hh).imp fun σ H Q ⟨F, B, ρ, r, p⟩ => by
    refine tD_bind rfl r (k := fun x => fl' ρ >>= fun l => fh ρ >>= fun h => oR (dSl x l h)) p fun dx x F1 H1 S1 _ e1 r1 o1 _ _ p1 => ?_
    refine tO_bind r1 (k := fun l => fh ρ >>= fun h => oR (dSl dx l h)) (p1.weak e1) fun l F2 H2 e2 r2 p2 => ?_
    refine tO_bind r2 (k := fun h => oR (dSl dx l h)) p2 fun hh F3 H3 e3 r3 p3 => ?_
    have e13 := e2.trans e3
    cases dx with
    | lst xs =>
      obtain ⟨a, vs, rfl, h1, h2⟩ := dat_sq (own_d o1).1
      rw [hK]
      refine .inl ⟨a, vs, rfl, SqL.of (r3.bs.fh _ _ (e13.ff _ _ h1)), fun q hq => ?_⟩
      have e4 := Ext.newF (T := L.T) (o := .lst (cutV vs l hh)) r3.bs.fh r3.bs.nf hq rfl
      exact postE_ok p3 e4 (dat_lift e4.fh (.lst upd_same ((datL_cut (h2.mono e13.ff.sm) l hh).mono e4.ff.sm)))
    | str s =>
      have dv := (own_d o1).1
      cases dv
      have p4 : PostE L F3 H3 (.d bw) (oR (if s.length ≤ LN then some (.str (cutG s l hh)) else none)) W σ Q := p3
      by_cases hl : s.length ≤ LN
      · rw [if_pos hl] at p4
        exact .inr ⟨_, rfl, by rw [s_len]; exact le_line hl, by rw [cutS_G]; exact postE_ok p4 r3.refl .str⟩
      · rw [if_neg hl] at p4; exact p4.elim
    | _ => exact p3.elim

/-! ### in -/
noncomputable def findN (s t : List Nat) (lo : Nat) : Option Nat := (List.range' lo (s.length + 1 - lo)).find? fun i => decide (i + t.length ≤ s.length) && ((s.drop i).take t.length == t)
noncomputable def allAt (xs : List D) : Bool := xs.all isAtom
/-- == of atoms -/
noncomputable def eqA : D → D → Bool
  | .non, .non => true
  | .bl a, .bl b => a == b
  | .bl a, .int b => (if a then 1 else 0) == b
  | .int a, .bl b => a == (if b then 1 else 0)
  | .int a, .int b => a == b
  | .str a, .str b => a == b
  | _, _ => false
noncomputable def dInB : D → D → Option Bool
  | .str t, .str s => some (findN s t 0).isSome
  | x, .lst xs => if isAtom x = true ∧ allAt xs = true then some (xs.any fun y => eqA y x) else none
  | x, .tup xs => if isAtom x = true ∧ allAt xs = true then some (xs.any fun y => eqA y x) else none
  | _, _ => none
noncomputable def dIn (x y : D) : Option D := (dInB x y).map .bl
noncomputable def dNotIn (x y : D) : Option D := (dInB x y).map fun b => .bl !b
theorem at_findN {s t : List Nat} {i : Nat} : PySem.StrLaws.At ⟨s.toArray⟩ ⟨t.toArray⟩ (Str.length ⟨s.toArray⟩) i ↔ (decide (i + t.length ≤ s.length) && ((s.drop i).take t.length == t)) = true := by
  unfold PySem.StrLaws.At
  rw [s_len, s_len, PySem.StrLaws.subAt_eq, s_len, Bool.and_eq_true, decide_eq_true_eq]
theorem findN_some {s t : List Nat} {lo i : Nat} (h : findN s t lo = some i) : lo ≤ i ∧ (decide (i + t.length ≤ s.length) && ((s.drop i).take t.length == t)) = true ∧ ∀ k, lo ≤ k → k < i → ¬ (decide (k + t.length ≤ s.length) && ((s.drop k).take t.length == t)) = true := by
  unfold findN at h
  rw [List.find?_range'_eq_some] at h
  obtain ⟨h1, h2, h3⟩ := h
  have h4 := List.mem_range'_1.mp h2
  refine ⟨h4.1, h1, fun k k1 k2 => ?_⟩
  intro z
  have := h3 k k1 k2
  simp only [z] at this
  cases this
theorem findN_none {s t : List Nat} {lo : Nat} (h : findN s t lo = none) : ∀ i, lo ≤ i → ¬ (decide (i + t.length ≤ s.length) && ((s.drop i).take t.length == t)) = true := by
  intro i hi z
  unfold findN at h
  rw [List.find?_eq_none] at h
  have hl : i + t.length ≤ s.length := by
    rw [Bool.and_eq_true, decide_eq_true_eq] at z
    exact z.1
  exact h i (List.mem_range'_1.mpr ⟨hi, by omega⟩) z
/-- the model's search is findN -/
theorem occ_findN (s t : List Nat) (lo : Nat) : (match Builtin.Str.occurrences ⟨s.toArray⟩ ⟨t.toArray⟩ lo (Str.length ⟨s.toArray⟩) 1 with | k :: _ => some k | [] => none) = findN s t lo := by
  rcases PySem.StrLaws.occ_head_from ⟨s.toArray⟩ ⟨t.toArray⟩ lo 1 (Nat.le_refl _) with ⟨h, hn⟩ | ⟨i, r, h, hlo, ha, hn⟩
  · rw [h]
    cases q : findN s t lo with
    | none => rfl
    | some j =>
      obtain ⟨a, b, _⟩ := findN_some q
      exact (hn j a (at_findN.mpr b)).elim
  · rw [h]
    cases q : findN s t lo with
    | none => exact (findN_none q i hlo (at_findN.mp ha)).elim
    | some j =>
      obtain ⟨a, b, c⟩ := findN_some q
      rcases Nat.lt_trichotomy i j with z | z | z
      · exact (c i hlo z (at_findN.mp ha)).elim
      · rw [z]
      · exact (hn j a z (at_findN.mpr b)).elim
theorem occ_empty (s t : List Nat) : (!(Builtin.Str.occurrences ⟨s.toArray⟩ ⟨t.toArray⟩ 0 (Str.length ⟨s.toArray⟩) 1).isEmpty) = (findN s t 0).isSome := by
  rw [← occ_findN]
  cases Builtin.Str.occurrences ⟨s.toArray⟩ ⟨t.toArray⟩ 0 (Str.length ⟨s.toArray⟩) 1 <;> rfl
theorem flat_atom {K : PySem.W.Frag} {F : Hp} {v : V} {d : D} (h : Dat K F v d) (a : isAtom d = true) : flatV v = true := by
  cases h <;> first | rfl | cases a
theorem eqA_V {K : PySem.W.Frag} {F : Hp} {v w : V} {d e : D} (h : Dat K F v d) (h' : Dat K F w e) (a : isAtom d = true) (b : isAtom e = true) : eqV v w = eqA d e := by
  cases h <;> cases h' <;> first | rfl | cases a | cases b | skip
  rename_i s t
  show ((⟨s.toArray⟩ : Str) == ⟨t.toArray⟩) = (s == t)
  rw [Bool.eq_iff_iff]
  simp
theorem any_eqA {K : PySem.W.Frag} {F : Hp} {x : V} {dx : D} (h : Dat K F x dx) (a : isAtom dx = true) : ∀ {vs : List V} {ds : List D}, DatL K F vs ds → allAt ds = true → vs.all flatV = true ∧ inV x vs = ds.any fun y => eqA y dx
  | _, _, .nil, _ => ⟨rfl, rfl⟩
  | _, _, .cons g r, b => by
    unfold allAt at b
    rw [List.all_cons, Bool.and_eq_true] at b
    obtain ⟨i1, i2⟩ := any_eqA h a r b.2
    refine ⟨by rw [List.all_cons, flat_atom g b.1, i1]; rfl, ?_⟩
    unfold inV at i2 ⊢
    rw [List.any_cons, List.any_cons, i2, eqA_V g h b.1 a]
noncomputable def rInB (K : PySem.W.Frag) (neg : Bool) : R2 := fun x y H Q => (fun x y H Q => ∃ i j, x = .str i ∧ y = .str j ∧ Q (.bl (if neg then !(!(Builtin.Str.occurrences j i 0 j.length 1).isEmpty) else !(Builtin.Str.occurrences j i 0 j.length 1).isEmpty)) H) x y H Q ∨ rIn K neg x y H Q
theorem in_way {F H : Hp} {x y : V} {dx dy : D} {neg b : Bool} (s : Same F H) (hx : Dat L.K (cond bw H F) x dx) (hy : Dat L.K (cond bw H F) y dy) (e : dInB dx dy = some b) (Q : VK) (q : Q (.bl (if neg then !b else b)) H) : rInB L.K neg x y H Q := by
  unfold dInB at e
  split at e
  · cases e
    cases hx; cases hy
    refine .inl ⟨_, _, rfl, rfl, ?_⟩
    rw [occ_empty]
    exact q
  · split at e
    · rename_i hh
      cases e
      obtain ⟨a, vs, rfl, h1, h2⟩ := dat_sq hy
      obtain ⟨f1, f2⟩ := any_eqA hx hh.1 h2 hh.2
      exact .inr ⟨a, vs, rfl, .inl (sm_l (cond_sm s) (SqL.of h1)), flat_atom hx hh.1, f1, by rw [f2]; exact q⟩
    · cases e
  · split at e
    · rename_i hh
      cases e
      obtain ⟨a, vs, rfl, h1, h2⟩ := dat_tp hy
      obtain ⟨f1, f2⟩ := any_eqA hx hh.1 h2 hh.2
      exact .inr ⟨a, vs, rfl, .inr (sm_t (cond_sm s) h1), flat_atom hx hh.1, f1, by rw [f2]; exact q⟩
    · cases e
  · cases e
theorem od_in {bw2 : Bool} : OpD L (rInB L.K false) bw (.d bw2) dIn := opD_pure fun F H x y dx dy d s hx hy e => by
  unfold dIn at e
  cases q : dInB dx dy with
  | none => rw [q] at e; cases e
  | some b => rw [q] at e; cases e; exact ⟨.bl b, fun _ => .bl, fun Q k => in_way s hx hy q Q k⟩
theorem od_notIn {bw2 : Bool} : OpD L (rInB L.K true) bw (.d bw2) dNotIn := opD_pure fun F H x y dx dy d s hx hy e => by
  unfold dNotIn at e
  cases q : dInB dx dy with
  | none => rw [q] at e; cases e
  | some b => rw [q] at e; cases e; exact ⟨.bl (!b), fun _ => .bl, fun Q k => in_way s hx hy q Q k⟩
theorem or_in (hK : X.K = L.K) : OpR X (compareOp .In) (rInB L.K false) := by
  rw [← hK]
  exact op_in_str.or op_in_seq
theorem or_notIn (hK : X.K = L.K) : OpR X (compareOp .NotIn) (rInB L.K true) := by
  rw [← hK]
  exact op_notin_str.or op_notIn_seq

/-! ### built-ins -/
theorem callD_pure {r : List V → Hp → VK → Prop} {bw2 : Bool} {g : List D → Option D} (h : ∀ (F H : Hp) (vs : List V) (ds : List D) (d : D), Same F H → DatL L.K (cond bw H F) vs ds → g ds = some d → ∃ v, (∀ F, Dat L.K F v d) ∧ ∀ Q : VK, Q v H → r vs H Q) : CallD L r bw (.d bw2) g :=
  fun F H vs ds d s nt hx e Q q => by
    obtain ⟨v, dv, go⟩ := h F H vs ds d s hx e
    exact go Q (q v F H [] (.refl s nt) (own_lift s (dv F)) List.nodup_nil fun a m => nomatch m)
theorem datL1 {K : PySem.W.Frag} {F : Hp} {vs : List V} {d : D} (h : DatL K F vs [d]) : ∃ v, vs = [v] ∧ Dat K F v d := by
  cases h with
  | cons a b => cases b; exact ⟨_, rfl, a⟩
theorem datL2 {K : PySem.W.Frag} {F : Hp} {vs : List V} {d e : D} (h : DatL K F vs [d, e]) : ∃ v w, vs = [v, w] ∧ Dat K F v d ∧ Dat K F w e := by
  cases h with
  | cons a b => obtain ⟨w, rfl, c⟩ := datL1 b; exact ⟨_, _, rfl, a, c⟩
noncomputable def dLen : List D → Option D
  | [.str s] => if s.length ≤ LN then some (.int s.length) else none
  | [.lst xs] => some (.int xs.length)
  | [.tup xs] => some (.int xs.length)
  | [.scr xs] => some (.int xs.length)
  | _ => none
theorem cd_len {bw2 : Bool} (hK : X.K = L.K) : CallD L (fun xs H Q => ∃ x n, xs = [x] ∧ LenV X.K x H n ∧ Q (.int n) H) bw (.d bw2) dLen := callD_pure fun F H vs ds d s hx e => by
  rw [hK]
  unfold dLen at e
  split at e
  · split at e <;> cases e
    rename_i hl
    obtain ⟨v, rfl, h⟩ := datL1 hx
    cases h
    exact ⟨_, fun _ => .int, fun Q q => ⟨_, _, rfl, ⟨by rw [s_len]; exact le_line hl, (s_len _).symm⟩, q⟩⟩
  · cases e
    obtain ⟨v, rfl, h⟩ := datL1 hx
    obtain ⟨a, ws, rfl, h1, h2⟩ := dat_sq h
    exact ⟨_, fun _ => .int, fun Q q => ⟨_, _, rfl, .inl ⟨ws, sm_l (cond_sm s) (SqL.of h1), h2.length.symm⟩, q⟩⟩
  · cases e
    obtain ⟨v, rfl, h⟩ := datL1 hx
    obtain ⟨a, ws, rfl, h1, h2⟩ := dat_tp h
    exact ⟨_, fun _ => .int, fun Q q => ⟨_, _, rfl, .inr ⟨ws, sm_t (cond_sm s) h1, h2.length.symm⟩, q⟩⟩
  · cases e
    obtain ⟨v, rfl, h⟩ := datL1 hx
    cases h with
    | scr h => exact ⟨_, fun _ => .int, fun Q q => ⟨_, _, rfl, .inl ⟨_, sm_l (cond_sm s) h, (List.length_map ..).symm⟩, q⟩⟩
  · cases e
noncomputable def dAbs : List D → Option D
  | [.int i] => some (.int (if i < 0 then -i else i))
  | _ => none
theorem cd_abs {bw2 : Bool} : CallD L (fun xs H Q => ∃ i, xs = [.int i] ∧ Q (.int (if i < 0 then -i else i)) H) bw (.d bw2) dAbs := callD_pure fun F H vs ds d s hx e => by
  unfold dAbs at e
  split at e <;> cases e
  obtain ⟨v, rfl, h⟩ := datL1 hx
  cases h
  exact ⟨_, fun _ => .int, fun Q q => ⟨_, rfl, q⟩⟩
noncomputable def dMax2 : List D → Option D
  | [.int i, .int j] => some (.int (if j > i then j else i))
  | _ => none
noncomputable def dMin2 : List D → Option D
  | [.int i, .int j] => some (.int (if j < i then j else i))
  | _ => none
theorem cd_min {bw2 : Bool} : CallD L (fun xs H Q => ∃ i j, xs = [.int i, .int j] ∧ Q (.int (if j < i then j else i)) H) bw (.d bw2) dMin2 := callD_pure fun F H vs ds d s hx e => by
  unfold dMin2 at e
  split at e <;> cases e
  obtain ⟨v, w, rfl, h, h'⟩ := datL2 hx
  cases h; cases h'
  exact ⟨_, fun _ => .int, fun Q q => ⟨_, _, rfl, q⟩⟩
noncomputable def dInt1 : List D → Option D
  | [.int i] => some (.int i)
  | [.bl k] => some (.int (if k then 1 else 0))
  | _ => none
theorem cd_int {bw2 : Bool} : CallD L (fun xs H Q => (∃ i, xs = [.int i] ∧ Q (.int i) H) ∨ ∃ k, xs = [.bl k] ∧ Q (.int (if k then 1 else 0)) H) bw (.d bw2) dInt1 := callD_pure fun F H vs ds d s hx e => by
  unfold dInt1 at e
  split at e <;> cases e
  · obtain ⟨v, rfl, h⟩ := datL1 hx
    cases h
    exact ⟨_, fun _ => .int, fun Q q => .inl ⟨_, rfl, q⟩⟩
  · obtain ⟨v, rfl, h⟩ := datL1 hx
    cases h
    exact ⟨_, fun _ => .int, fun Q q => .inr ⟨_, rfl, q⟩⟩
noncomputable def dListOf : List D → Option D
  | [.lst xs] => some (.lst xs)
  | [.tup xs] => some (.lst xs)
  | _ => none
theorem cd_list (hK : X.K = L.K) : CallD L (fun xs H Q => ∃ p ys, xs = [.ref p] ∧ (SqL X.K H p ys ∨ SqT X.K H p ys) ∧ ∀ l, H l = none → Q (.ref l) (upd H l (.lst ys))) false (.l .s) dListOf := fun F H vs ds d s nt hx e Q q => by
  rw [hK]
  have fin : ∀ {ws : List V} {xs : List D} {a : Addr}, DatL L.K F ws xs → d = .lst xs → H a = none → Q (.ref a) (upd H a (.lst ws)) := fun {ws xs a} h e hp => by
    subst e
    refine q _ F _ [a] (Ext.newH s nt hp) (.l upd_same (OwnL.ofDat h)) (by simp) fun b m => ?_
    have e : b = a := by simpa using m
    subst e
    exact ⟨s.free hp, .of hp⟩
  unfold dListOf at e
  split at e <;> cases e
  · obtain ⟨v, rfl, h⟩ := datL1 hx
    obtain ⟨a, ws, rfl, h1, h2⟩ := dat_sq h
    exact ⟨a, ws, rfl, .inl (SqL.of (s _ _ h1)), fun l hl => fin h2 rfl hl⟩
  · obtain ⟨v, rfl, h⟩ := datL1 hx
    obtain ⟨a, ws, rfl, h1, h2⟩ := dat_tp h
    exact ⟨a, ws, rfl, .inr (sm_t s.sm h1), fun l hl => fin h2 rfl hl⟩
noncomputable def dTupOf : List D → Option D
  | [.lst xs] => some (.tup xs)
  | [.tup xs] => some (.tup xs)
  | _ => none
theorem cd_tup {bw2 : Bool} (hK : X.K = L.K) : CallD L (fun xs H Q => ∃ p ys, xs = [.ref p] ∧ ((SqL X.K H p ys ∧ ∀ l, H l = none → Q (.ref l) (upd H l (.tup ys))) ∨ (SqT X.K H p ys ∧ Q (.ref p) H))) false (.d bw2) dTupOf := fun F H vs ds d s nt hx e Q q => by
  rw [hK]
  unfold dTupOf at e
  split at e <;> cases e
  · obtain ⟨v, rfl, h⟩ := datL1 hx
    obtain ⟨a, ws, rfl, h1, h2⟩ := dat_sq h
    refine ⟨a, ws, rfl, .inl ⟨SqL.of (s _ _ h1), fun l hl => ?_⟩⟩
    have e4 := Ext.newF (T := L.T) (o := .tup ws) s nt hl rfl
    exact q _ _ _ [] e4 (own_lift e4.fh (.tup (SqT.of upd_same) (h2.mono e4.ff.sm))) List.nodup_nil fun a m => nomatch m
  · obtain ⟨v, rfl, h⟩ := datL1 hx
    obtain ⟨a, ws, rfl, h1, h2⟩ := dat_tp h
    exact ⟨a, ws, rfl, .inr ⟨sm_t s.sm h1, q _ F H [] (.refl s nt) (own_lift s (.tup h1 h2)) List.nodup_nil fun a m => nomatch m⟩⟩
end
end PD
set_option Elab.async false
set_option linter.all false
set_option maxRecDepth 100000
set_option maxHeartbeats 2000000
namespace PD
open PySem PySem.Spec PyProof.Rows L2

/-! ### all(x in WORDS for x in e) -/
noncomputable def dAllS (pb : Nat → Bool) : D → Option D
  | .str s => some (.bl (s.all pb))
  | _ => none
section
variable {X : Cx} {L : LE} {fl : List Sh} {W : WX} {pos : Pos}
end
section
variable {P : Program} {w : World} {K : PySem.W.Frag} {mg : Str → Option Value} {base : Heap} {L : LE}
end

/-! ### the end -/
open LamX in
theorem walk_tabs {l : PySem.W.OpenLaw} {n k : Nat} {q : Program} {loose : List Str} {XP : (Str → Option Value) → Heap → Prop} {YP : World → Heap → Prop} {d : DefRec} {K : Params → PySem.W.Frag} {CX : World → CXT} {x : Str}
    (hn : l.most = some n) (hn2 : n ≤ sizeLine) (hdf : d.params.defaults = []) (hr : Room k callerA) (hY : ∀ (w : World) (h : Heap), YP w h → (K w.params).In h)
    (F : ∀ (w : World) (mg : Str → Option Value) (fa : Addr) (h : Heap), YP w h → (K w.params).In h → h.Ns mainGlobals mg → mg d.name = some (.ref fa) →
      (∀ (nm : Str) (f : Addr), ((recsOf q).any fun e => e.name == nm) = true → mg nm = some (.ref f) → OwnTab (K w.params) f h) → LawAtS l w (K w.params) (CX w) k n x mg fa h)
    (hCX : ∀ (w : World) (H : Hp) (s : Shared) (e : Value) (s' : Shared), CX w [] H s (fun _ _ _ => False) e s' → False) :
    PySem.W.WalkO q loose XP YP l.row.toRowW d [] (fun f vs => PySem.call f vs) := by
  refine Att.attach_callB hn hdf fun w s0 s1 mg mb fa o pm cd doc a vs ns G Y ho hd hcd hmg hobj hints hlen hbits hg => ?_
  have KX := hY w _ Y
  have own : ∀ (nm : Str) (f : Addr), ((recsOf q).any fun e => e.name == nm) = true → mg nm = some (.ref f) → OwnTab (K w.params) f s1.heap := fun nm f hrec hm0 c P o1 fd1 e dd vs1 sl k1 k2 k3 k4 k5 => by
    obtain ⟨dL, hm, hn1⟩ := List.any_eq_true.mp hrec
    have hn2 : dL.name = nm := beq_iff_eq.mp hn1
    obtain ⟨a', o', fd', c', P', h1, h2, h3, h4, h5, h6⟩ := G.T.tab dL hm
    rw [hn2, hm0] at h1
    cases h1
    rw [KX _ _ k1] at h2
    cases h2
    rw [k2] at h3
    cases h3
    rw [k3] at h4
    cases h4
    obtain ⟨⟨oc, vc, e1, _, e3, e4⟩, hP⟩ := h6
    rw [KX _ _ k4] at e1
    cases e1
    cases e3
    rw [k5] at e4
    cases e4
    exact hP
  obtain ⟨fd, cs, sp, hT, nT, C, hb, hsp, hF⟩ := F w mg fa _ Y KX G.T.g hmg own
  exact law_callTs KX G.T.g G.T.b G.T.builtins G.T.nolimit hg hT nT C G.T.bmain hobj hints (Nat.le_trans hlen hn2) hr hF hb (fun H hH hS => hsp H a ns hlen hbits hH hS) fun H e s' => hCX w H s1 e s'
theorem cx_false {P : Program} {w : World} {H : Hp} {s : Shared} {e : Value} {s' : Shared} (h : L2.CX P w [] H s (fun _ _ _ => False) e s') : False := by
  obtain ⟨_, _, _, _, _, _, _, _, _, _, _, _, z⟩ := h
  exact z
/-- a code object's table, empty at the law's entry -/
structure CTab (K : PySem.W.Frag) (h : Heap) (c T : Addr) : Prop where
  t : h.get? T = some { cls := .none, data := .fields #[] }
  n : K.lookup T = none
  c : PySem.W.CodeHd h c T
open LamX in
theorem law_at {l : PySem.W.OpenLaw} {w : World} {K : PySem.W.Frag} {k n : Nat} {x : Str} {mg : Str → Option Value} {fa : Addr} {h : Heap} {fd : FuncData} (cs : List (Addr × Addr)) (ca : Str → Addr) (m : List D → R D) (hcs : ∀ p ∈ cs, CTab K h p.1 p.2) (hb : ∀ (s : Shared) (u : Value), BindsTo s fd ⟨[u], []⟩ [(x, u)])
    (hm : ∀ ns : List Int, ns.length ≤ n → (∀ z ∈ ns, Builtin.Int.intBits z ≤ 1048576) → m [.scr ns] = .ok (.bl true))
    (F : ∀ base : Heap, K.In base → base.Ns mainGlobals mg → (∀ p ∈ cs, GxR.TabB base mg p.1 p.2) → FnOk l.prog w K mg base (L2.CX l.prog w) k fa fd [x] (spD ⟨K, ca, cs.map (·.2)⟩ .s 1 m)) : LawAtS l w K (L2.CX l.prog w) k n x mg fa h := by
  refine ⟨fd, cs, _, fun p hp => (hcs p hp).t, fun p hp => (hcs p hp).n, fun p hp => (hcs p hp).c, hb, fun H a ns hl hbits hH hS => ?_, fun base kb nb tb => F base kb nb fun p hp => ⟨(tb p hp).code, (tb p hp).bm, (tb p hp).gP⟩⟩
  refine ⟨visH H, fun _ => none, [.scr ns], ⟨fun a o h => (visH_of h).1, (fun a o h => nomatch h), (fun a o h => nomatch h), fun a o h => (visH_of h).2, (fun a o h => nomatch h), fun P hP => ?_⟩, ?_, rfl, ?_⟩
  · obtain ⟨p, hp, e⟩ := List.mem_map.mp hP
    subst e
    exact ⟨#[], hH p hp, True.intro⟩
  · refine .cons (.scr ?_) .nil
    exact sm_l (fun a o h t => visH_some h t) hS
  · rw [hm ns hl hbits]
    intro v F' H' S s b o nd fr
    have dv := (own_d o).1
    cases dv
    rfl
end PD
set_option Elab.async false
set_option linter.all false
set_option maxRecDepth 100000
set_option maxHeartbeats 2000000
namespace PD
open PySem PySem.Spec PyProof.Rows L2

/-! ### isinstance(x, T) of a built-in T -/
noncomputable def tyN : D → String
  | .non => "NoneType"
  | .bl _ => "bool"
  | .int _ => "int"
  | .str _ => "str"
  | .lst _ => "list"
  | .scr _ => "list"
  | .tup _ => "tuple"
  | .rng _ _ => "range"
  | .obj _ _ _ => "object"
  | .dic _ _ => "dict"
  | .dct _ _ => "dict"
noncomputable def isRng : D → Bool
  | .rng _ _ => true
  | .obj _ _ _ => true
  | .dic _ _ => true
  | .dct _ _ => true
  | _ => false
noncomputable def isiB (T : String) (d : D) : Bool := tyN d == T || (T == "int" && tyN d == "bool")
noncomputable def dIsi (T : String) : D → Option D := fun d => if isRng d = true then none else some (.bl (isiB T d))
theorem tyX_of {K : PySem.W.Frag} {H : Hp} {v : V} {d : D} (n : isRng d = false) (h : Dat K H v d) : TyX K H v (.type (tyN d)) := by
  cases h with
  | rng _ => cases n
  | obj _ _ _ _ => cases n
  | dic _ _ _ => cases n
  | dct _ _ _ => cases n
  | non => exact .base .non
  | bl => exact .base (.bl _)
  | int => exact .base (.int _)
  | str => exact .base (.str _)
  | lst h r => exact .base (.lst h)
  | tup h r =>
    rcases h with (h | ⟨o, h⟩) | ⟨o, its, n, hk, hc, _⟩
    · exact .base (.tup h)
    · exact .fTuple h
    · exact .kTuple hk hc
  | scr h =>
    rcases h with (h | ⟨o, h⟩) | ⟨o, its, n, hk, hc, _⟩
    · exact .base (.lst h)
    · exact .base (.frz h)
    · exact .kList hk hc
noncomputable def kitOkB (T : String) : Bool := ["NoneType", "bool", "int", "str", "list", "tuple"].all fun a => kitB a T == some (a == T || (T == "int" && a == "bool"))
theorem kit_int : kitOkB "int" = true := by decide +kernel
theorem kit_bool : kitOkB "bool" = true := by decide +kernel
theorem kit_str : kitOkB "str" = true := by decide +kernel
theorem kit_list : kitOkB "list" = true := by decide +kernel
theorem kit_tuple : kitOkB "tuple" = true := by decide +kernel
theorem kit_of' {T : String} (h : kitOkB T = true) (d : D) (n : isRng d = false) : kitB (tyN d) T = some (isiB T d) := by
  unfold kitOkB at h
  rw [List.all_eq_true] at h
  have key : tyN d ∈ ["NoneType", "bool", "int", "str", "list", "tuple"] := by
    cases d <;> first | (simp [tyN]; done) | cases n
  have := h _ key
  exact eq_of_beq this
section
variable {X : Cx} {L : LE} {J : Jn} {fl fl1 fl' : List Sh} {W : WX} {pos : Pos}
theorem boot_isinstance : bootBuiltins "isinstance" = some (.builtin "isinstance") := by decide +kernel
theorem e_isi {T : String} {TS : Str} {e : Expr} {f : Env → R D} {p p2 : Pos} {bw : Bool} (hk : kitOkB T = true) (hm : X.mg "isinstance" = none) (hT : X.mg TS = none) (hv : bootBuiltins TS = some (.type T)) (he : PE X e (tD L fl .b W f)) (hK : X.K = L.K := by rfl) (hg : Gl X "isinstance" := by rfl) (hgT : Gl X TS := by rfl) (hn : TS ≠ "__name__" := by decide) (hdb : (TS == ("__debug__" : Str)) = false := by decide)
    (hse : starEach [e, .Name TS p2] X.env = (false, eval e X.env) :: starEach [.Name TS p2] X.env := by rfl) (hpl : (backTo pos (starEach [.Name TS p2] X.env)).any (·.1) = false := by rfl) :
    PE X (.Call (.Name "isinstance" p) [e, .Name TS p2] [] pos) (tD L fl (.d bw) W (m1 (dIsi T) f)) :=
  (pe_callB call_isi hg hm boot_isinstance (pa_cons he (pa_cons (pe_bltn (v := .ty T) hgT hT hv rfl hn hdb) pa_nil) hse) (he := hse) (hpl := hpl)).imp fun σ H Q ⟨F, B, ρ, r, p⟩ => by
    refine tD_bind rfl r (k := fun x => oR (dIsi T x)) p fun d v F1 H1 S1 _ e1 r1 o1 _ _ p1 => ?_
    have dv : Dat L.K H1 v d := (own_d o1).1
    unfold dIsi at p1
    cases n : isRng d with
    | true => rw [n, if_pos rfl] at p1; exact p1.elim
    | false =>
      rw [n, if_neg Bool.false_ne_true] at p1
      exact ⟨v, .ty T, _, _, _, rfl, .ty T, by rw [hK]; exact tyX_of n dv, kit_ty (kit_of' hk d n), postE_ok (d := .bl (isiB T d)) p1 e1 .bl⟩

/-! ### methods of texts -/
noncomputable def mM (g : List Nat → List D → Option D) (fo : Env → R D) (fs : Env → R (List D)) : Env → R D := fun ρ => fo ρ >>= fun o => match o with
  | .str s => fs ρ >>= fun xs => oR (g s xs)
  | _ => .stuck
/-- find: the first place from lo on, or -1 -/
noncomputable def findI (s t : List Nat) (lo : Nat) : Int := match findN s t lo with
  | some i => (i : Nat)
  | none => -1
noncomputable def dFind (s : List Nat) : List D → Option D
  | [.str t] => some (.int (findI s t 0))
  | _ => none
/-- join -/
noncomputable def strsOf : List D → Option (List (List Nat))
  | [] => some []
  | .str s :: ds => (strsOf ds).map (s :: ·)
  | _ => none
/-! ### list comprehensions, as the rules' own -/
theorem e_lc {elt tg iter : Expr} {ifs : List Expr} {scope : Scope} (own : List (Str × Nat)) {fi : Env → R (List D)} {T : D → Env → Option Env} {ft : Env → R Bool} {fe : Env → R D} (hN : X.N.Nodup) (hi : PI X tg iter (tI L fl W fi)) (ok : blkC X.N X.env.scope scope own = true)
    (hg : ∀ (s : Shared) (H : Hp) (C : Addr) (cl : List (Str × Addr)) (fp : List Addr), PG (X.blk s H scope (compEnvC scope cl C X.env) fp) tg (tG L fl fl (own.map (·.2)) T))
    (ht : ∀ (s : Shared) (H : Hp) (C : Addr) (cl : List (Str × Addr)) (fp : List Addr), PTs (X.blk s H scope (compEnvC scope cl C X.env) fp) ifs (tT L fl W0 ft))
    (he : ∀ (s : Shared) (H : Hp) (C : Addr) (cl : List (Str × Addr)) (fp : List Addr), PE (X.blk s H scope (compEnvC scope cl C X.env) fp) elt (tD L fl .s W0 fe))
    (hc : X.calm = true := by rfl) (hw : noXs fl (own.map (·.2)) = true := by rfl) (hs : ∀ x, foldedSetIterable iter X.env x = pure x := by intro _; rfl) : PE X (.ListComp elt [⟨tg, iter, ifs, 0⟩] scope pos) (tD L fl (.l .s) W (mLc fi (own.map (·.2)) T ft fe)) :=
  (pe_lc hc hN hi (blkOk_by ok) hg ht he hs).imp fun _ _ _ h => t_lc hw h
theorem ts_nil : PTs X [] (tT L fl W mYes) := ⟨fun pins s σ H Q I ⟨F, B, ρ, r, p⟩ => pts_nil.run pins s σ H Q I (p F H r.refl)⟩
theorem ts_one {c : Expr} {f : Env → R Bool} (h : PT X c (tT L fl W f)) : PTs X [c] (tT L fl W f) := pts_one h
/-- name = [..] -/
theorem s_setLc (i : Nat) {y : Str} {py spos : Pos} {elt tg iter : Expr} {ifs : List Expr} {scope : Scope} (own : List (Str × Nat)) {fi : Env → R (List D)} {T : D → Env → Option Env} {ft : Env → R Bool} {fe : Env → R D} (hN : X.N.Nodup) (hi : PI X tg iter (tI L fl W fi)) (ok : blkC X.N X.env.scope scope own = true)
    (hg : ∀ (s : Shared) (H : Hp) (C : Addr) (cl : List (Str × Addr)) (fp : List Addr), PG (X.blk s H scope (compEnvC scope cl C X.env) fp) tg (tG L fl fl (own.map (·.2)) T))
    (ht : ∀ (s : Shared) (H : Hp) (C : Addr) (cl : List (Str × Addr)) (fp : List Addr), PTs (X.blk s H scope (compEnvC scope cl C X.env) fp) ifs (tT L fl W0 ft))
    (he : ∀ (s : Shared) (H : Hp) (C : Addr) (cl : List (Str × Addr)) (fp : List Addr), PE (X.blk s H scope (compEnvC scope cl C X.env) fp) elt (tD L fl .s W0 fe))
    (hsw : swapsWith (.ListComp elt [⟨tg, iter, ifs, 0⟩] scope pos) (some (.Name y py)) spos.line X.env = pure true) (hf' : fl.set i (.l .s) = fl1 := by rfl) (hc : X.calm = true := by rfl) (hy : X.N[i]? = some y := by rfl) (hyl : X.env.scope.names.lookup y = some .local := by rfl) (hw : noXs fl (own.map (·.2)) = true := by rfl) (hs : ∀ x, foldedSetIterable iter X.env x = pure x := by intro _; rfl) :
    PS X (.Assign [.Name y py] (.ListComp elt [⟨tg, iter, ifs, 0⟩] scope pos) spos) (tS L J fl fl1 W (sSet i (mLc fi (own.map (·.2)) T ft fe))) :=
  (ps_setLc hc hN hy hyl hsw hi (blkOk_by ok) hg ht he hs).imp fun D σ H ⟨F, B, ρ, r, p⟩ => t_lc (L := L) (fl := fl) (W := W) hw ⟨F, B, ρ, r, PostS.bindE r p fun d v F' H' S _ e _ o nd fr p1 => by
    subst hf'
    exact p1 _ F' H' (.refl _) (r.setE e o rfl nd fr)⟩
end
end PD
set_option Elab.async false
set_option linter.all false
set_option maxRecDepth 100000
set_option maxHeartbeats 2000000
namespace PD
open PySem PySem.Spec PyProof.Rows L2
section
variable {X : Cx} {L : LE} {J : Jn} {fl fl1 fl' : List Sh} {W : WX} {pos : Pos}
theorem s_brk (h : J.fk = fl := by rfl) : PS X (.Break pos) (tS L J fl fl' W sBk) := ps_break.imp fun D σ H ⟨F, B, ρ, r, p⟩ => p σ F H (.refl _) (h ▸ r)
/-! unary operators -/
noncomputable def dNeg : D → Option D
  | .int i => some (.int (-i))
  | _ => none
theorem e_neg {a : Expr} {f : Env → R D} {bw : Bool} (ha : PE X a (tD L fl .s W f)) : PE X (.UnaryOp .USub a pos) (tD L fl (.d bw) W (m1 dNeg f)) :=
  (pe_un un_neg ha).imp fun σ H Q ⟨F, B, ρ, r, p⟩ => by
    refine tD_bind rfl r (k := fun d => oR (dNeg d)) p fun d v F1 H1 S1 _ e1 r1 o1 _ _ p1 => ?_
    have dv := (own_d o1).1
    cases d with
    | int i =>
      cases dv
      exact ⟨i, rfl, postE_ok (d := .int (-i)) p1 e1 .int⟩
    | _ => exact p1.elim
/-! x op= e on a shared name -/
noncomputable def sAug (i : Nat) (g : D → D → Option D) (f : Env → R D) : Env → R Fl := fun ρ => match ρ[i]? with
  | some (some x) => liftE (f ρ) ρ fun y => match g x y with
    | some d => .ok (.nx (ρ.set i (some d)))
    | none => .stuck
  | _ => .stuck
/-! targets of any form -/
noncomputable def sAsg (f : Env → R D) (T : D → Env → Option Env) : Env → R Fl := fun ρ => liftE (f ρ) ρ fun d => match T d ρ with
  | some ρ' => .ok (.nx ρ')
  | none => .stuck
/-! x[k] = e on an own list with shared items -/
noncomputable def sSetIx (i : Nat) (fe fk : Env → R D) : Env → R Fl := fun ρ => liftE (fe ρ) ρ fun d => match getL ρ i with
  | some xs => liftE (fk ρ) ρ fun k => match k with
    | .int j => match ixN xs.length j with
      | some m => .ok (.nx (ρ.set i (some (.lst (xs.set m d)))))
      | none => .stuck
    | _ => .stuck
  | none => .stuck
theorem s_setix (i : Nat) {x : Str} {e b : Expr} {fe fk : Env → R D} {xp sp : Pos} (he : PE X e (tD L fl .s W fe)) (hb : PE X b (tD L fl .s W fk)) (hs : fl[i]? = some (.l .s) := by rfl) (hN : X.N[i]? = some x := by rfl) (hv : Vis X.env.scope x := by first | exact Or.inl rfl | exact Or.inr (Or.inl rfl) | exact Or.inr (Or.inr rfl)) (hd : (x == ("__debug__" : Str)) = false := by decide)
    (hcd : (x == ("__classdict__" : Str)) = false := by decide)
    (ha : ∀ v, assign (.Subscript (.Name x xp) b sp) X.env v = (do
      let ov ← holding [v] (eval (.Name x xp) X.env)
      let iv ← holding [v, ov] (eval b X.env)
      standAt sp
      holding [v, ov, iv] (setItem ov iv v)
      release [v, ov, iv] []) := by intro _; rfl)
    (hs1 : swapsWithSole [.Subscript (.Name x xp) b sp] e pos.line X.env = pure false := by rfl) (hw : swappedStores [.Subscript (.Name x xp) b sp] e X.env = pure none := by rfl)
    (h1 : (assignEach [.Subscript (.Name x xp) b sp] X.env).map (·.2) = [assign (.Subscript (.Name x xp) b sp) X.env] := by rfl) : PS X (.Assign [.Subscript (.Name x xp) b sp] e pos) (tS L J fl fl W (sSetIx i fe fk)) :=
  (ps_asg he (pg_sub (pv i hN hv hd hcd) hb set_list ha) hs1 hw h1).imp fun D σ H ⟨F, B, ρ, r, p⟩ => ⟨F, B, ρ, r, PostS.bindE r p fun d v F1 H1 S _ e1 r1 o1 _ _ p1 => by
    cases q : getL ρ i with
    | none => simp only [q] at p1; exact p1.elim
    | some xs =>
      simp only [q] at p1
      have hx := getL_some q
      obtain ⟨l, vs, S, a1, a2, a3, a4, a5, a6, a7, a8, go⟩ := r1.mut hs hx
      refine ⟨.ref l, a1, F1, B, ρ, r1, PostS.bindE r1 p1 fun dk w F2 H2 S2 _ e2 r2 o2 _ _ p2 => ?_⟩
      have dw := (own_d o2).1
      cases dk with
      | int j =>
        cases dw
        dsimp only at p2
        cases q2 : ixN xs.length j with
        | none => simp only [q2] at p2; exact p2.elim
        | some m =>
          simp only [q2] at p2
          obtain ⟨dvs, eS⟩ := OwnL.datS a3
          subst eS
          have hl := dvs.length
          refine ⟨l, vs, j, m, rfl, rfl, e2.hh l _ a2 rfl, by rw [hl]; exact q2, ?_⟩
          exact p2 σ F2 _ (.refl _) (go F2 H2 _ _ [] e2 (OwnL.ofDat (DatL.set ((own_d o1).1.mono e2.ff.sm) m (dvs.mono e2.ff.sm))) (by simp) List.nodup_nil (fun a m => nomatch m) (fun a m => nomatch m))
      | _ => exact p2.elim⟩
end
end PD
set_option Elab.async false
set_option linter.all false
set_option maxRecDepth 100000
set_option maxHeartbeats 2000000
namespace PD
open PySem PySem.Spec PyProof.Rows L2
theorem boot_abs' : bootBuiltins "abs" = some (.builtin "abs") := by decide +kernel
theorem boot_min' : bootBuiltins "min" = some (.builtin "min") := by decide +kernel
/-- a module's constant -/
noncomputable def GInt (mg : Str → Option Value) (x : Str) (i : Int) : Prop := ∃ t, mg x = some (.int i t)
noncomputable def GStr (mg : Str → Option Value) (x : Str) (s : List Nat) : Prop := ∃ y t, mg x = some (.str y t) ∧ y.cps.toList = s
section
variable {X : Cx} {L : LE} {J : Jn} {fl fl1 fl' : List Sh} {W : WX} {pos : Pos}
theorem e_gi {i : Int} {x : Str} {bw : Bool} (hm : GInt X.mg x i) (hg : Gl X x := by rfl) (hd : (x == ("__debug__" : Str)) = false := by decide) : PE X (.Name x pos) (tD L fl (.d bw) W (mC (.int i))) := by
  obtain ⟨t, h⟩ := hm
  exact e_gint h hg hd
theorem e_gs {s : List Nat} {x : Str} {bw : Bool} (hm : GStr X.mg x s) (hg : Gl X x := by rfl) (hd : (x == ("__debug__" : Str)) = false := by decide) : PE X (.Name x pos) (tD L fl (.d bw) W (mC (.str s))) := by
  obtain ⟨y, t, h, e⟩ := hm
  exact e_gstr s h e hg hd
/-- name = [..], the list shared at once -/
theorem s_setLcS (i : Nat) {y : Str} {py spos : Pos} {elt tg iter : Expr} {ifs : List Expr} {scope : Scope} (own : List (Str × Nat)) {fi : Env → R (List D)} {T : D → Env → Option Env} {ft : Env → R Bool} {fe : Env → R D} (hN : X.N.Nodup) (hi : PI X tg iter (tI L fl W fi)) (ok : blkC X.N X.env.scope scope own = true)
    (hg : ∀ (s : Shared) (H : Hp) (C : Addr) (cl : List (Str × Addr)) (fp : List Addr), PG (X.blk s H scope (compEnvC scope cl C X.env) fp) tg (tG L fl fl (own.map (·.2)) T))
    (ht : ∀ (s : Shared) (H : Hp) (C : Addr) (cl : List (Str × Addr)) (fp : List Addr), PTs (X.blk s H scope (compEnvC scope cl C X.env) fp) ifs (tT L fl W0 ft))
    (he : ∀ (s : Shared) (H : Hp) (C : Addr) (cl : List (Str × Addr)) (fp : List Addr), PE (X.blk s H scope (compEnvC scope cl C X.env) fp) elt (tD L fl .s W0 fe))
    (hsw : swapsWith (.ListComp elt [⟨tg, iter, ifs, 0⟩] scope pos) (some (.Name y py)) spos.line X.env = pure true) (hf' : fl.set i .s = fl1 := by rfl) (hc : X.calm = true := by rfl) (hy : X.N[i]? = some y := by rfl) (hyl : X.env.scope.names.lookup y = some .local := by rfl) (hw : noXs fl (own.map (·.2)) = true := by rfl) (hs : ∀ x, foldedSetIterable iter X.env x = pure x := by intro _; rfl) :
    PS X (.Assign [.Name y py] (.ListComp elt [⟨tg, iter, ifs, 0⟩] scope pos) spos) (tS L J fl fl1 W (sSet i (mLc fi (own.map (·.2)) T ft fe))) :=
  (s_setLc (J := J) (fl1 := fl.set i (.l .s)) i own hN hi ok hg ht he hsw rfl hc hy hyl hw hs).imp fun D σ H ⟨F, B, ρ, r, p⟩ => ⟨F, B, ρ, r, by
    subst hf'
    unfold PostS at p ⊢
    split at p
    · intro σ' F' H' s r'
      obtain ⟨F2, s2, r2⟩ := r'.frz (sh := .s) (i := i)
      rw [List.set_set] at r2
      exact p σ' F2 H' (s.trans s2) r2
    · exact p
    · exact p
    · exact p
    · exact p
    · exact p
    · exact p⟩
/-! x.extend(e), name = x.pop() on own lists with shared items -/
noncomputable def sExt (i : Nat) (f : Env → R D) : Env → R Fl := fun ρ => match getL ρ i with
  | some xs => liftE (f ρ) ρ fun d => match d with
    | .lst ys => if xs.length + ys.length ≤ LN then .ok (.nx (ρ.set i (some (.lst (xs ++ ys))))) else .stuck
    | _ => .stuck
  | none => .stuck
theorem s_extend (i : Nat) {x : Str} {e : Expr} {f : Env → R D} {xp apos cpos : Pos} (he : PE X e (tD L fl .s W f)) (hK : X.K = L.K := by rfl) (hs : fl[i]? = some (.l .s) := by rfl) (hN : X.N[i]? = some x := by rfl) (hv : Vis X.env.scope x := by first | exact Or.inl rfl | exact Or.inr (Or.inl rfl) | exact Or.inr (Or.inr rfl)) (hd : (x == ("__debug__" : Str)) = false := by decide)
    (hcd : (x == ("__classdict__" : Str)) = false := by decide) (hbase : attributeBase (.Name x xp) "extend" X.env (eval (.Name x xp) X.env) = eval (.Name x xp) X.env := by rfl)
    (hfew : ((backTo cpos (starEach [e] X.env)).all (fun x => !x.1) && (backToKw cpos (keywordEach [] X.env)).all (fun x => x.1.isSome) && decide (([e] : List Expr).length + ([] : List Keyword).length + (if ([] : List Keyword).isEmpty then 0 else 1) < 30)) = true := by rfl)
    (hline : (apos.endLine == cpos.line) = true := by rfl) (hse : starEach [e] X.env = (false, eval e X.env) :: starEach [] X.env := by rfl) (hplain : (backTo cpos (starEach [] X.env)).any (·.1) = false := by rfl)
    (hsw : swapsWith (.Call (.Attribute (.Name x xp) "extend" apos) [e] [] cpos) none pos.line X.env = pure false := by rfl) :
    PS X (.Expr (.Call (.Attribute (.Name x xp) "extend" apos) [e] [] cpos) pos) (tS L J fl fl W (sExt i f)) :=
  (ps_expr (pe_bm PySem.F.plainAttrs_list PySem.F.slot_list_extend PySem.F.type_list_extend mt_extend (pv i hN hv hd hcd) (pa_cons he pa_nil hse) hbase hfew hline hse hplain) hsw).imp fun D σ H ⟨F, B, ρ, r, p⟩ => by
    unfold sExt at p
    cases q : getL ρ i with
    | none => rw [q] at p; exact p.elim
    | some xs =>
      rw [q] at p
      have hx := getL_some q
      obtain ⟨l, vs, S, a1, a2, a3, a4, a5, a6, a7, a8, go⟩ := r.mut hs hx
      refine ⟨.ref l, a1, .inl ⟨rfl, _, SqL.of a2⟩, F, B, ρ, r, PostS.bindE r p fun d v F' H' S' _ e r' o nd fr p1 => ?_⟩
      obtain ⟨dvs, eS⟩ := OwnL.datS a3
      subst eS
      cases d with
      | lst ys =>
        obtain ⟨b, ws, rfl, h1, h2⟩ := dat_sq (own_d o).1
        dsimp only at p1
        by_cases hl : xs.length + ys.length ≤ LN
        · rw [if_pos hl] at p1
          have hlv := dvs.length
          have hlw := h2.length
          refine ⟨l, b, vs, ws, rfl, rfl, e.hh l _ a2 rfl, r'.bs.fh _ _ h1, le_line (by omega), ?_⟩
          exact p1 σ F' _ (.refl _) (go F' H' _ _ [] e (OwnL.ofDat ((dvs.mono e.ff.sm).append h2)) (by simp) List.nodup_nil (fun a m => nomatch m) (fun a m => nomatch m))
        · rw [if_neg hl] at p1; exact p1.elim
      | _ => exact p1.elim
/-- x.append(e) where the value of e is dropped: as before -/
noncomputable def sPop (j i : Nat) : Env → R Fl := fun ρ => match getL ρ i with
  | some xs => match xs.getLast? with
    | some d => .ok (.nx ((ρ.set i (some (.lst xs.dropLast))).set j (some d)))
    | none => .stuck
  | none => .stuck
theorem s_pop (j i : Nat) {x y : Str} {xp yp apos cpos : Pos} (hN : X.N.Nodup) (hK : X.K = L.K := by rfl) (hs : fl[i]? = some (.l .s) := by rfl) (hf' : fl.set j .s = fl1 := by rfl) (hNi : X.N[i]? = some x := by rfl) (hNj : X.N[j]? = some y := by rfl) (hx : Loc X.env.scope y := by first | exact Or.inl rfl | exact Or.inr rfl) (hv : Vis X.env.scope x := by first | exact Or.inl rfl | exact Or.inr (Or.inl rfl) | exact Or.inr (Or.inr rfl)) (hd : (x == ("__debug__" : Str)) = false := by decide)
    (hcd : (x == ("__classdict__" : Str)) = false := by decide) (hbase : attributeBase (.Name x xp) "pop" X.env (eval (.Name x xp) X.env) = eval (.Name x xp) X.env := by rfl) (hline : (apos.endLine == cpos.line) = true := by rfl)
    (hsw : swapsWith (.Call (.Attribute (.Name x xp) "pop" apos) [] [] cpos) (some (.Name y yp)) pos.line X.env = pure false := by rfl) (hf : X.fn y = true ∨ X.env.scope.names.lookup y = some .local := by first | exact .inl rfl | exact .inr rfl | assumption) :
    PS X (.Assign [.Name y yp] (.Call (.Attribute (.Name x xp) "pop" apos) [] [] cpos) pos) (tS L J fl fl1 W (sPop j i)) :=
  (ps_set hN hNj hx (pe_bm0 PySem.F.plainAttrs_list PySem.F.slot_list_pop PySem.F.type_list_pop mt_pop (pv i hNi hv hd hcd) hbase hline) hsw hf).imp fun D σ H ⟨F, B, ρ, r, p⟩ => by
    unfold sPop at p
    cases q : getL ρ i with
    | none => rw [q] at p; exact p.elim
    | some xs =>
      rw [q] at p
      have hx := getL_some q
      obtain ⟨l, vs, S, a1, a2, a3, a4, a5, a6, a7, a8, go⟩ := r.mut hs hx
      obtain ⟨dvs, eS⟩ := OwnL.datS a3
      subst eS
      cases q2 : xs.getLast? with
      | none => simp only [q2] at p; exact p.elim
      | some d =>
        simp only [q2] at p
        have hl := dvs.length
        rw [List.getLast?_eq_getElem?, ← hl] at q2
        obtain ⟨w, e1, e2⟩ := dvs.get q2
        have dl : DatL L.K F vs.dropLast xs.dropLast := by
          rw [List.dropLast_eq_take, List.dropLast_eq_take, hl]
          exact dvs.take _
        have r2 := go F H vs.dropLast xs.dropLast [] r.refl (OwnL.ofDat dl) (by simp) List.nodup_nil (fun a m => nomatch m) (fun a m => nomatch m)
        refine ⟨.ref l, a1, .inl ⟨rfl, _, SqL.of a2⟩, l, vs, w, rfl, rfl, a2, e1, ?_⟩
        have r3 := r2.setE (i := j) r2.refl (.d (bw := false) e2) rfl List.nodup_nil (fun a m => nomatch m)
        subst hf'
        exact p _ F _ (.refl _) r3
/-! a, b = e1, e2 with plain local names -/
noncomputable def sPar (i j : Nat) (f g : Env → R D) : Env → R Fl := fun ρ => liftE (f ρ) ρ fun a => liftE (g ρ) ρ fun b => .ok (.nx ((ρ.set i (some a)).set j (some b)))
end
theorem xcl_mk {K : PySem.W.Frag} {mg : Str → Option Value} {ca : Str → Addr} {T : List Addr} {c : Str} {x : Addr} (e : ca c = x) (g : mg c = some (.ref x)) (q : PySem.W.excIn K x [.type "ValueError", .type "Exception", .type "BaseException", .type "object"] "ValueError.__new__" = true)
    (k : PySem.W.keepIn K (.ref x) = true) (b : PySem.W.subIn K (.ref x) (.type "BaseException") = some true) (t : PySem.W.typeIn K (.ref x) = some (.type "type")) : Xcl K mg ⟨K, ca, T⟩ c := by
  subst e
  exact ⟨g, q, k, b, t⟩
/-! a mirror without fuel -/
section
variable {P : Program} {w : World} {K : PySem.W.Frag} {mg : Str → Option Value} {base : Heap} {L : LE}
theorem fn_stuck {x qual : Str} {st : Stmt} {f : Addr} {fd : FuncData} {N ps : List Str} {k : Nat} (F : Fun K x qual st f fd) (S : FnScope N ps (defScope st)) (hL : L.K = K) {rs : Sh} :
    FnOk P w K mg base (L2.CX P w) (k + 1) f fd ps (spD L rs ps.length (fun _ => .stuck)) := by
  refine F.okX S (fun vs H Q E ⟨_, _, ds, _, d, hl, _⟩ => d.length.trans hl) (fun cdv A outer s H vs Q E hr ⟨F0, B, ds, bs, d, hl, p⟩ => p.elim)
end
end PD
set_option Elab.async false
set_option linter.all false
set_option maxRecDepth 100000
set_option maxHeartbeats 2000000
/-! # try with any number of clauses, named or not -/
namespace PD
open PySem PySem.Spec PyProof.Rows L2
/-- a clause: its class, its name's slot, what its suite asks -/
noncomputable abbrev Cl1 := Value × Option Nat × (Addr → Value → Option Addr → TS)
/-- the ends behind a suite: the name is gone -/
noncomputable def endsI (io : Option Nat) (D : Ends) : Ends := match io with
  | some i => { nx := fun τ G => D.nx (τ.set i none) G, rt := D.rt, bk := fun τ G => D.bk (τ.set i none) G, ct := fun τ G => D.ct (τ.set i none) G }
  | none => D
noncomputable def putI (io : Option Nat) (a : Addr) (τ : L2.St) : L2.St := match io with
  | some i => τ.set i (some (.ref a))
  | none => τ
noncomputable def wN (K : PySem.W.Frag) (Wo : WX) (D : Ends) : List Cl1 → WX
  | [] => Wo
  | c :: r => fun k d τ G => ∃ b, PySem.W.exmOne K k c.1 = some b ∧ (b = true → ∀ a, G a = none → c.2.2 a k d (endsI c.2.1 D) (putI c.2.1 a τ) G) ∧ (b = false → wN K Wo D r k d τ G)
noncomputable def slotOk (X : Cx) (no : Option Str) (io : Option Nat) : Prop := match no, io with
  | some n, some i => X.N[i]? = some n ∧ X.env.kindOf n = some .local
  | none, none => True
  | _, _ => False
inductive Cls1 (X : Cx) : List ExceptHandler → List Cl1 → Prop
  | nil : Cls1 X [] []
  | cons {y : Str} {v : Value} {no : Option Str} {io : Option Nat} {u : Addr → Value → Option Addr → TS} {s0 : Stmt} {ss : List Stmt} {p1 p2 : Pos} {hs : List ExceptHandler} {l : List Cl1} (hc : Names X y v) (hio : slotOk X no io)
      (hu : ∀ (a : Addr) (o : Obj) (k : Value) (d : Option Addr) (pn : List (Addr × Obj)), Zc k d o → (∃ fs, o.data = .fields fs) → PSs (X.suite a ((a, o) :: pn)) (s0 :: ss) (u a k d)) (r : Cls1 X hs l) :
      Cls1 X (.ExceptHandler (some (.Name y p1)) no (s0 :: ss) p2 :: hs) ((v, io, u) :: l)
section
variable {X : Cx} {Wo : WX} {bd : List Stmt} {h0 : ExceptHandler} {hs : List ExceptHandler} {l : List Cl1} {pp : Pos} {tb : WX → TS}
theorem ps_tryN (e1 : X.stack = X.env :: X.outer) (e2 : X.env.frame = some X.env.locals) (nd : X.N.Nodup) (tk : Takes X Wo)
    (hb : ∀ (W : WX) (pn : List (Addr × Obj)) (xe : Value → Shared → Prop), Takes (X.tr pn xe) W → PassesOwn (model X.prog X.w) X.A X.env xe → PSs (X.tr pn xe) bd (tb W)) (hc : Cls1 X (h0 :: hs) l) :
    PS X (.Try bd (h0 :: hs) [] [] pp) (fun D τ G => tb (wN X.K Wo D l) D τ G) := by
  refine ⟨fun ps t τ G D I q => ?_⟩
  have k0 := I.ok
  have k1 : X.A.frames = some (X.env :: X.outer) := k0.frames.trans (congrArg some e1)
  refine wpAny_Try_except (wpAny_mono ((hb (wN X.K Wo D l) (X.pn ++ ps) (fun e t1 => wpAny (model X.prog X.w) X.A (noteFrame e X.env) (fun _ t2 => wpAny (model X.prog X.w) X.A (setFlight e none) (fun _ t3 => wpAny (model X.prog X.w) X.A (handleBy e X.env (h0 :: hs)) (SP X ps D) X.xe t3) X.xe t2) X.xe t1) (fun u t' z => ?_) PassesOwn.looking).run [] t τ G D (I.toTry _) q) (fun f t1 z => ?_) fun e t1 z => z)
  · obtain ⟨a, B, tI, ps', τ', G', k, d, rfl, J0, nb, up, sk, na, os, ag, w⟩ := z
    have J : Inv X ps τ' G' tI := J0.ofTry k0
    have sk' : Sky B (X.env :: X.outer) a (Zc k d) X.env.locals t'.heap := e1 ▸ sk
    show wpAny (model X.prog X.w) X.A (noteFrame (.ref a) X.env) _ _ _
    refine Sky.land Zc.steady k1 e2 sk' fun g3 f3 u3 => ?_
    have J3 : Inv X ps τ' G' { t' with heap := g3 } := J.landed nb f3.1 (up.trans u3) os ag
    obtain ⟨o3, w3, a3, z3, d3⟩ := f3.there
    have off : a ∉ frs (X.env :: X.outer) := fun m => by
      obtain ⟨_, o', x1, x2⟩ := f3.2.2.1.mem m
      rw [a3] at x1; cases x1; exact x2 _ d3
    have nl : a ≠ X.env.locals := fun z => off (List.mem_filterMap.mpr ⟨X.env, List.mem_cons_self, e2.trans (by rw [z])⟩)
    have nf : a ∉ X.fs := fun m => by
      obtain ⟨e, x1, x2⟩ := List.mem_filterMap.mp m
      exact off (List.mem_filterMap.mpr ⟨e, List.mem_cons_of_mem _ x1, x2⟩)
    have S3 := J3.suite a3 d3 na nl nf
    have go : ∀ {hz : List ExceptHandler} {lz : List Cl1}, Cls1 X hz lz → wN X.K Wo D lz k d τ' G' → wpAny (model X.prog X.w) X.A (handleBy (.ref a) X.env hz) (SP X ps D) X.xe { t' with heap := g3 } := by
      intro hz lz hk
      induction hk with
      | nil =>
        intro w
        obtain ⟨_, _, _, o, fs, T, _, _, x1, _, x3, x4, _⟩ := id f3
        refine wpAny_handleBy_nil ?_
        unfold PySem.passOn
        refine wpAny_bind (wpAny_field x1 x3 x4 ?_)
        rw [if_neg (show ¬ ((Value.ref T == Value.none) = true) from by simp)]
        have fin : wpAny (model X.prog X.w) X.A (setFlight (.ref a) X.env.frame) (fun _ t4 => wpAny (model X.prog X.w) X.A (throw (.ref a) : Sem Flow) (SP X ps D) X.xe t4) X.xe { t' with heap := g3 } := by
          rw [e2]
          exact HandSPX.setFlight_upZ f3 fun g4 y4 u4 => wpAny_throw (tk _ _ ⟨a, B, tI, ps, τ', G', k, d, rfl, J, nb, (up.trans u3).trans u4, .inr (.inr (by rw [e1]; exact y4)), na, os, ag, w⟩)
        first | exact wpAny_bind (wpAny_pure (wpAny_bind fin)) | exact wpAny_bind fin
      | @cons y v no io u s0 ss p1 p2 hs2 l2 hn hio hu r ih =>
        intro w
        obtain ⟨b, w1, wy, wn⟩ := w
        refine wpAny_handleBy_cons (codeAny_handlers_test ?_) (by intro q; cases q)
        have LT : PySem.W.Looks (model X.prog X.w) g3 (typeOf (.ref a)) k := fun A Q E s kk q => wpAny_typeOf_ref (kk _ _ a3) (by rw [z3.1]; exact q)
        have LM := PySem.W.exm_one (M := model X.prog X.w) J3.kIn LT w1
        have tst : ∀ {Q : Value → Shared → Prop} {E : Value → Shared → Prop}, Q v { t' with heap := g3 } → wpAny (model X.prog X.w) (X.A.mark (some (.ref a))) (eval (.Name y p1) X.env) Q E { t' with heap := g3 } := fun {Q E} q => by
          obtain ⟨hg, hd, hm | ⟨hm, hv, hnn⟩⟩ := hn
          · exact ld_glob (X := X.suite a ((a, o3) :: (X.pn ++ ps))) S3 hg hm q hd
          · exact ld_blt (X := X.suite a ((a, o3) :: (X.pn ++ ps))) S3 hg hm hv q hnn hd
        refine tst (LM.here ?_)
        cases b with
        | false => exact ih (wn rfl)
        | true =>
          have fl4 : ∀ {P : Heap → Prop} , True := trivial
          cases io with
          | none =>
            cases no with
            | some n => exact hio.elim
            | none =>
              refine codeAny_handlers_suite (HandSPX.lands_againZ f3 fun g4 f4 u4 => ?_)
              obtain ⟨o4, w4, a4, z4, d4⟩ := f4.there
              have S4 := (J.landed (s' := { t' with heap := g4 }) nb f4.1 ((up.trans u3).trans u4) os ag).suite a4 d4 na nl nf
              refine wpAny_mono ((hu a o4 k d (X.pn ++ ps) z4 ⟨_, d4⟩).run [] _ _ G' _ S4 (wy rfl a na)) (fun f t6 z => ?_) fun _ _ z => z.elim
              cases f with
              | ret u => obtain ⟨v6, x1, x2, x3, x4, x5⟩ := z; exact ⟨_, _, _, x3.unsuite k0, x4, x5⟩
              | next => obtain ⟨x1, x2, x3, x4⟩ := z; exact ⟨_, _, x3.unsuite k0, x4⟩
              | brk => obtain ⟨x1, x2, x3, x4⟩ := z; exact ⟨_, _, x3.unsuite k0, x4⟩
              | cont => obtain ⟨x1, x2, x3, x4⟩ := z; exact ⟨_, _, x3.unsuite k0, x4⟩
          | some i =>
            cases no with
            | none => exact hio.elim
            | some n =>
              obtain ⟨hi, hl⟩ := hio
              refine codeAny_handlers_suite_as (HandSPX.lands_againZ f3 fun g4 f4 u4 => ?_)
              obtain ⟨o4, w4, a4, z4, d4⟩ := f4.there
              have S4 := (J.landed (s' := { t' with heap := g4 }) nb f4.1 ((up.trans u3).trans u4) os ag).suite a4 d4 na nl nf
              refine store_ok (X := X.suite a ((a, o4) :: (X.pn ++ ps))) (v := .ref a) S4 nd hi (.inl hl) rfl (fun t5 S5 => ?_) (.inr hl)
              refine wpAny_mono ((hu a o4 k d (X.pn ++ ps) z4 ⟨_, d4⟩).run [] t5 _ G' _ S5 (wy rfl a na)) (fun f t6 z => ?_) fun _ _ z => z.elim
              have fin : ∀ {τ6 : L2.St} {G6 : Hp} {Q : Shared → Prop}, Inv (X.suite a ((a, o4) :: (X.pn ++ ps))) [] τ6 G6 t6 → (∀ t7, Inv X ps (τ6.set i none) G6 t7 → Q t7) → wpAny (model X.prog X.w) X.A (do bindName X.env n .none; unbindBehindTheSuite X.env n p2) (fun _ t7 => Q t7) X.xe t6 := fun x q => gone_ok (x.unsuite k0) nd hi hl q
              cases f with
              | ret u => obtain ⟨v6, x1, x2, x3, x4, x5⟩ := z; exact fin x3 fun t7 y => ⟨_, _, _, y, x4, x5⟩
              | next => obtain ⟨x1, x2, x3, x4⟩ := z; exact fin x3 fun t7 y => ⟨_, _, y, x4⟩
              | brk => obtain ⟨x1, x2, x3, x4⟩ := z; exact fin x3 fun t7 y => ⟨_, _, y, x4⟩
              | cont => obtain ⟨x1, x2, x3, x4⟩ := z; exact fin x3 fun t7 y => ⟨_, _, y, x4⟩
    exact go hc w
  · cases f with
    | ret u => obtain ⟨v, x1, x2, x3, x4, x5⟩ := z; exact ⟨v, x1, x2, x3.ofTry k0, x4, x5⟩
    | next => obtain ⟨x1, x2, x3, x4⟩ := z; exact wpAny_execs_nil ⟨x1, x2, x3.ofTry k0, x4⟩
    | brk => obtain ⟨x1, x2, x3, x4⟩ := z; exact ⟨x1, x2, x3.ofTry k0, x4⟩
    | cont => obtain ⟨x1, x2, x3, x4⟩ := z; exact ⟨x1, x2, x3.ofTry k0, x4⟩
end
end PD
set_option Elab.async false
set_option linter.all false
set_option maxRecDepth 100000
set_option maxHeartbeats 2000000
namespace PD
open PySem PySem.Spec PyProof.Rows L2

/-! ### all slots shared -/
section
variable {L : LE} {F B H : Hp} {σ : L2.St} {ρ : Env}
theorem Rep.frzN : ∀ (n : Nat) {F : Hp} {fl : List Sh}, Rep L fl F B σ H ρ → ∃ F' fl', Same F F' ∧ Rep L fl' F' B σ H ρ ∧ fl'.length = fl.length ∧ (∀ j, j < n → j < fl.length → fl'[j]? = some .s) ∧ ∀ j, n ≤ j → fl'[j]? = fl[j]?
  | 0, F, fl, r => ⟨F, fl, .refl _, r, rfl, (fun j h => by omega), fun _ _ => rfl⟩
  | n + 1, F, fl, r => by
    obtain ⟨F1, fl1, s1, r1, l1, a1, b1⟩ := Rep.frzN n r
    obtain ⟨F2, s2, r2⟩ := r1.frz (sh := .s) (i := n)
    refine ⟨F2, fl1.set n .s, s1.trans s2, r2, by rw [List.length_set, l1], fun j h1 h2 => ?_, fun j h => ?_⟩
    · by_cases z : j = n
      · subst z; rw [List.getElem?_set_self (by omega)]
      · rw [List.getElem?_set_ne (Ne.symm z)]; exact a1 j (by omega) h2
    · rw [List.getElem?_set_ne (by omega)]; exact b1 j (by omega)
theorem Rep.frzAll {fl : List Sh} (r : Rep L fl F B σ H ρ) : ∃ F', Same F F' ∧ Rep L (List.replicate fl.length .s) F' B σ H ρ := by
  obtain ⟨F', fl', s, r', l, a, _⟩ := Rep.frzN fl.length r
  have e : fl' = List.replicate fl.length .s := by
    apply List.ext_getElem?
    intro j
    by_cases h : j < fl.length
    · rw [a j h h, List.getElem?_replicate, if_pos h]
    · rw [List.getElem?_eq_none (by omega), List.getElem?_replicate, if_neg h]
  subst e
  exact ⟨F', s, r'⟩
/-- a slot gets just a value -/
theorem Rep.setX {fl : List Sh} (r : Rep L fl F B σ H ρ) (i : Nat) (v : V) (eo : Option (Addr × List (Str × V))) (he : ∀ dx ws, eo = some (dx, ws) → F dx = some (.xd ws)) : Rep L (fl.set i (.x v eo)) F B (σ.set i (some v)) H (ρ.set i none) := by
  refine ⟨r.bs, by rw [List.length_set, List.length_set]; exact r.ls, by rw [List.length_set, List.length_set]; exact r.lr, fun j u eo2 q => ?_, ?_⟩
  · by_cases z : j = i
    · subst z
      have hl : j < fl.length := by
        have := (List.getElem?_eq_some_iff.mp q).1
        rwa [List.length_set] at this
      rw [List.getElem?_set_self hl] at q
      cases q
      exact ⟨by rw [List.getElem?_set_self (by rw [r.ls]; exact hl)], he⟩
    · rw [List.getElem?_set_ne (Ne.symm z)] at q ⊢
      exact r.px j u eo2 q
  · obtain ⟨Ss, h1, h2, h3, h4⟩ := r.sl
    refine ⟨Ss, fun j d q => ?_, h2, h3, h4⟩
    by_cases z : j = i
    · subst z
      have hl : j < ρ.length := by
        have := (List.getElem?_eq_some_iff.mp q).1
        rwa [List.length_set] at this
      rw [List.getElem?_set_self hl] at q
      cases q
    · rw [List.getElem?_set_ne (Ne.symm z)] at q
      obtain ⟨v', sh, a1, a2, a3, a4⟩ := h1 j d q
      exact ⟨v', sh, by rw [List.getElem?_set_ne (Ne.symm z)]; exact a1, by rw [List.getElem?_set_ne (Ne.symm z)]; exact a2, a3, a4⟩
end

/-! ### try: body, except C1 as e1: .., except C2: .. -/
/-- what the name's slot is behind the suite's start and end -/
noncomputable def clrI (io : Option Nat) (ρ : Env) : Env := match io with
  | some i => ρ.set i none
  | none => ρ
/-- a clause: which classes it catches, its name's slot, its suite -/
structure Cl2 where
  tbl : Str → Option Bool
  io : Option Nat
  g : Env → R Fl
noncomputable def endN (io : Option Nat) : R Fl → R Fl
  | .ok (.rt d) => .ok (.rt d)
  | .ok (.nx ρ) => .ok (.nx (clrI io ρ))
  | _ => .stuck
noncomputable def goN : List Cl2 → Str → List (Str × D) → Env → R Fl
  | [], c, fs, ρ => .ok (.ex c fs ρ)
  | k :: r, c, fs, ρ => match k.tbl c with
    | some true => if fs = [] then endN k.io (k.g (clrI k.io ρ)) else .stuck
    | some false => goN r c fs ρ
    | none => .stuck
noncomputable def sTryN (cl : List Cl2) (f : Env → R Fl) : Env → R Fl := fun ρ => match f ρ with
  | .ok (.ex c fs ρ') => if ρ'.length = ρ.length then goN cl c fs ρ' else .stuck
  | r => r
noncomputable def xfl (fl : List Sh) (io : Option Nat) (a : Addr) : List Sh := match io with
  | some i => (List.replicate fl.length .s).set i (.x (.ref a) none)
  | none => List.replicate fl.length .s
section
variable {X : Cx} {L : LE} {J : Jn} {fl fl1 fl' : List Sh} {W : WX} {pos : Pos}
/-- the name is gone -/
theorem Rep.clr {F B H : Hp} {σ : L2.St} {ρ : Env} {fl fl' : List Sh} (r : Rep L fl F B σ H ρ) (i : Nat) (h : fl' = fl.set i .s) : Rep L fl' F B (σ.set i none) H (ρ.set i none) := by
  subst h
  refine ⟨r.bs, by rw [List.length_set, List.length_set]; exact r.ls, by rw [List.length_set, List.length_set]; exact r.lr, fun j u eo q => ?_, ?_⟩
  · by_cases z : j = i
    · subst z
      have hl : j < fl.length := by
        have := (List.getElem?_eq_some_iff.mp q).1
        rwa [List.length_set] at this
      rw [List.getElem?_set_self hl] at q
      cases q
    · rw [List.getElem?_set_ne (Ne.symm z)] at q ⊢
      exact r.px j u eo q
  · obtain ⟨Ss, h1, h2, h3, h4⟩ := r.sl
    refine ⟨Ss, fun j d q => ?_, h2, h3, h4⟩
    by_cases z : j = i
    · subst z
      have hl : j < ρ.length := by
        have := (List.getElem?_eq_some_iff.mp q).1
        rwa [List.length_set] at this
      rw [List.getElem?_set_self hl] at q
      cases q
    · rw [List.getElem?_set_ne (Ne.symm z)] at q
      obtain ⟨v', sh, a1, a2, a3, a4⟩ := h1 j d q
      exact ⟨v', sh, by rw [List.getElem?_set_ne (Ne.symm z)]; exact a1, by rw [List.getElem?_set_ne (Ne.symm z)]; exact a2, a3, a4⟩
/-- the clauses of a try whose body ends at fl' -/
inductive Cls2 (X : Cx) (L : LE) (J : Jn) (fl fl' : List Sh) : List ExceptHandler → List Cl2 → List Cl1 → Prop
  | nil : Cls2 X L J fl fl' [] [] []
  | cons {x : Str} {no : Option Str} {io : Option Nat} {tbl : Str → Option Bool} {g : Env → R Fl} {b0 : Stmt} {suite : List Stmt} {np p2 : Pos} {hs : List ExceptHandler} {cl : List Cl2} {l : List Cl1} {flE : Addr → List Sh}
      (hg : Gl X x) (hd : (x == ("__debug__" : Str)) = false) (hm : X.mg x = some (.ref (L.ca x))) (ht : ∀ c b, tbl c = some b → PySem.W.exmOne X.K (.ref (L.ca c)) (.ref (L.ca x)) = some b ∧ (b = true → c = x)) (hio : slotOk X no io)
      (hfl : ∀ a, (match io with | some i => (flE a).set i .s | none => flE a) = fl')
      (hsu : ∀ (a : Addr) (oe : Obj) (pn : List (Addr × Obj)), Zc (.ref (L.ca x)) none oe → (∃ vs, oe.data = .fields vs) → PSs (X.suite a ((a, oe) :: pn)) (b0 :: suite) (tS L J (xfl fl io a) (flE a) W0 g))
      (r : Cls2 X L J fl fl' hs cl l) :
      Cls2 X L J fl fl' (.ExceptHandler (some (.Name x np)) no (b0 :: suite) p2 :: hs) (⟨tbl, io, g⟩ :: cl)
        ((.ref (L.ca x), io, fun a k d D σ H => (k = .ref (L.ca x) ∧ d = none) ∧ tS L J (xfl fl io a) (flE a) W0 g D σ H) :: l)
theorem Cls2.to1 {hs : List ExceptHandler} {cl : List Cl2} {l : List Cl1} (h : Cls2 X L J fl fl' hs cl l) : Cls1 X hs l := by
  induction h with
  | nil => exact .nil
  | @cons x no io tbl g b0 suite np p2 hs cl l flE hg hd hm ht hio hfl hsu _ ih =>
    refine .cons ⟨hg, hd, .inl hm⟩ hio (fun a oe k d pn hz hv => ?_) ih
    by_cases hc : k = .ref (L.ca x) ∧ d = none
    · obtain ⟨rfl, rfl⟩ := hc
      exact (hsu a oe pn hz hv).imp fun D σ H h => h.2
    · exact ⟨fun pins s D σ H I h => (hc h.1).elim⟩
theorem Cls2.run {hs : List ExceptHandler} {cl : List Cl2} {l : List Cl1} (h : Cls2 X L J fl fl' hs cl l) {D : Ends} {F B F' H' : Hp} {c : Str} {fs : List (Str × PD.D)} {ρ' : Env} {σ' : L2.St} {d : Option Addr} {fl0 : List Sh} (hK : X.K = X.K)
    (r : Rep L fl0 F' B σ' H' ρ') (hl : fl0.length = fl.length) (s : Same F F') (er : ErrOk L c fs (.ref (L.ca c)) d F' H') (p : PostS L J fl' F B W D (goN cl c fs ρ')) : wN X.K W D l (.ref (L.ca c)) d σ' H' := by
  induction h with
  | nil => exact p (.ref (L.ca c)) d fl0 σ' F' H' s r er
  | @cons x no io tbl g b0 suite np p2 hs cl l flE hg hd hm ht hio hfl hsu _ ih =>
    unfold goN at p
    dsimp only at p
    cases qt : tbl c with
    | none => rw [qt] at p; exact p.elim
    | some b =>
      obtain ⟨t1, t2⟩ := ht c b qt
      rw [qt] at p
      cases b with
      | false => exact ⟨false, t1, fun z => (nomatch z), fun _ => ih p⟩
      | true =>
        refine ⟨true, t1, fun _ a ha => ?_, fun z => (nomatch z)⟩
        have ex := t2 rfl
        subst ex
        dsimp only at p
        by_cases hfs : fs = []
        · rw [if_pos hfs] at p
          subst hfs
          have ed : d = none := er.2
          subst ed
          refine ⟨⟨rfl, rfl⟩, ?_⟩
          obtain ⟨F2, s2, r2⟩ := r.frzAll
          rw [hl] at r2
          cases io with
          | none =>
            refine ⟨F2, B, _, r2, ?_⟩
            have hf : flE a = fl' := hfl a
            rw [hf]
            have p : PostS L J fl' F B W D (endN none (g ρ')) := p
            show PostS L J fl' F2 B W0 D (g ρ')
            cases qg : g ρ' with
            | ok z =>
              rw [qg] at p
              cases z with
              | rt d => exact PostS.weak (r := .ok (.rt d)) p (s.trans s2)
              | nx ρ2 => exact PostS.weak (r := .ok (.nx ρ2)) p (s.trans s2)
              | _ => exact p.elim
            | _ => rw [qg] at p; exact p.elim
          | some i =>
            have r3 := r2.setX i (.ref a) none (fun _ _ z => nomatch z)
            refine ⟨F2, B, _, r3, ?_⟩
            have hf : (flE a).set i .s = fl' := hfl a
            have p : PostS L J fl' F B W D (endN (some i) (g (ρ'.set i none))) := p
            show PostS L J (flE a) F2 B W0 _ (g (ρ'.set i none))
            cases qg : g (ρ'.set i none) with
            | ok z =>
              rw [qg] at p
              cases z with
              | rt d => exact PostS.weak (r := .ok (.rt d)) p (s.trans s2)
              | nx ρ2 =>
                have p := PostS.weak (r := .ok (.nx (ρ2.set i none))) p (s.trans s2)
                exact fun σ3 F3 H3 s3 r4 => p _ F3 H3 s3 (r4.clr i hf.symm)
              | _ => exact p.elim
            | _ => rw [qg] at p; exact p.elim
        · rw [if_neg hfs] at p; exact p.elim
/-! isinstance(e, C) of the error that the suite holds -/
/-- what isinstance of an error of the class C asks -/
structure XE (K : PySem.W.Frag) (L : LE) (c : Str) : Prop where
  e : ExcC K (L.ca c)
/-- the class T stands at ca T; an error of the class c is one of T: b -/
structure XK (K : PySem.W.Frag) (mg : Str → Option Value) (L : LE) (c T : Str) (b : Bool) : Prop where
  g : mg T = some (.ref (L.ca T))
  k : PySem.W.kitOne K (.ref (L.ca c)) (.ref (L.ca T)) = some b
/-! with a tuple of own classes -/
/-- own classes named in a row -/
inductive Clss (X : Cx) (L : LE) : List Expr → List Addr → Prop
  | nil : Clss X L [] []
  | cons {T : Str} {p : Pos} {es : List Expr} {cs : List Addr} : X.mg T = some (.ref (L.ca T)) → Gl X T → (T == ("__debug__" : Str)) = false → Clss X L es cs → (starEach (.Name T p :: es) X.env = (false, eval (.Name T p) X.env) :: starEach es X.env) → Clss X L (.Name T p :: es) (L.ca T :: cs)
theorem pa_clss {es : List Expr} {cs : List Addr} (h : Clss X L es cs) : PA X es (fun σ H Q => Q (cs.map V.ref) H) := by
  induction h with
  | nil => exact pa_nil.imp fun σ H Q h => h
  | cons h1 h2 h3 _ h5 ih => exact (pa_cons (pe_glob (v := .ref (L.ca _)) h2 h1 rfl h3) ih h5).imp fun σ H Q h => h
end
end PD
set_option Elab.async false
set_option linter.all false
set_option maxRecDepth 100000
set_option maxHeartbeats 2000000
namespace PD
open PySem PySem.Spec PyProof.Rows L2

/-! ### list(range(..)), xs[::-1] -/
noncomputable def dRevL : D → Option D
  | .lst xs => some (.lst xs.reverse)
  | _ => none
theorem DatL.snoc {K : PySem.W.Frag} {F : Hp} {v : V} {d : D} : ∀ {vs : List V} {ds : List D}, DatL K F vs ds → Dat K F v d → DatL K F (vs ++ [v]) (ds ++ [d])
  | _, _, .nil, h => .cons h .nil
  | _, _, .cons a r, h => .cons a (DatL.snoc r h)
section
variable {X : Cx} {L : LE} {J : Jn} {fl fl1 fl' : List Sh} {W : WX} {pos : Pos}
/-! ### owned tuples of atoms and lists -/
/-- an own list of atoms -/
noncomputable def mAtL (f : Env → R D) : Env → R D := fun ρ => f ρ >>= fun d => match d with
  | .lst xs => if allAt xs = true then .ok (.lst xs) else .stuck
  | _ => .stuck
/-! y = x[k]: the own list in x's tuple becomes y's, and x is given up -/
end
theorem boot_ValueError : bootBuiltins "ValueError" = some (.type "ValueError") := by decide +kernel
/-! ### the classes that a try knows -/
/-- the class x is caught, those of l are let through -/
noncomputable def tblL (x : Str) (l : List Str) : Str → Option Bool := fun c => if c = x then some true else if c ∈ l then some false else none
theorem tblL_ok {K : PySem.W.Frag} {L : LE} {x : Str} {l : List Str} (e : PySem.W.exmOne K (.ref (L.ca x)) (.ref (L.ca x)) = some true) (n : ∀ c ∈ l, PySem.W.exmOne K (.ref (L.ca c)) (.ref (L.ca x)) = some false) :
    ∀ c b, tblL x l c = some b → PySem.W.exmOne K (.ref (L.ca c)) (.ref (L.ca x)) = some b ∧ (b = true → c = x) := fun c b h => by
  unfold tblL at h
  by_cases z : c = x
  · rw [if_pos z] at h; cases h; subst z; exact ⟨e, fun _ => rfl⟩
  · rw [if_neg z] at h
    by_cases m : c ∈ l
    · rw [if_pos m] at h; cases h; exact ⟨n c m, fun q => (nomatch q)⟩
    · rw [if_neg m] at h; cases h
/-- a class that is caught -/
structure XH (K : PySem.W.Frag) (mg : Str → Option Value) (L : LE) (c : Str) : Prop where
  m : mg c = some (.ref (L.ca c))
  x : PySem.W.exmOne K (.ref (L.ca c)) (.ref (L.ca c)) = some true
  e : XE K L c
theorem xh_mk {K : PySem.W.Frag} {mg : Str → Option Value} {ca : Str → Addr} {T : List Addr} {c : Str} {x : Addr} (e : ca c = x) (g : mg c = some (.ref x)) (q : PySem.W.exmOne K (.ref x) (.ref x) = some true) (z : ExcC K x) : XH K mg ⟨K, ca, T⟩ c := by
  subst e
  exact ⟨g, q, ⟨z⟩⟩
theorem xk_mk {K : PySem.W.Frag} {mg : Str → Option Value} {ca : Str → Addr} {T : List Addr} {c d : Str} {x y : Addr} {b : Bool} (e : ca c = x) (e2 : ca d = y) (g : mg d = some (.ref y)) (q : PySem.W.kitOne K (.ref x) (.ref y) = some b) : XK K mg ⟨K, ca, T⟩ c d b := by
  subst e e2
  exact ⟨g, q⟩
theorem kb_mk {K : PySem.W.Frag} {ca : Str → Addr} {c : Str} {x : Addr} {v : Value} {b : Bool} (e : ca c = x) (q : PySem.W.kitOne K (.ref x) v = some b) : PySem.W.kitOne K (.ref (ca c)) v = some b := by
  subst e
  exact q
end PD
set_option Elab.async false
set_option linter.all false
set_option maxRecDepth 100000
set_option maxHeartbeats 4000000
namespace PD
open PySem PySem.Spec PyProof.Rows L2

/-! ### sets of texts and ints -/
section
variable {X : Cx}
end
/-! ### len({e for x in it}), e texts -/
/-- the different ones, as they come -/
noncomputable def ded : List (List Nat) → List (List Nat) → List (List Nat)
  | acc, [] => acc
  | acc, z :: zs => ded (if z ∈ acc then acc else acc ++ [z]) zs
noncomputable def mLenSc (fi : Env → R (List D)) (vs : List Nat) (T : D → Env → Option Env) (ft : Env → R Bool) (fe : Env → R D) : Env → R D := fun ρ => fi ρ >>= fun ds => lcGo T ft fe (wipeD ρ vs) ds >>= fun xs => match strsOf xs with
  | some zs => if zs.length ≤ 4000 then .ok (.int ((ded [] zs).length : Nat)) else .stuck
  | none => .stuck
section
variable {X : Cx} {L : LE} {fl : List Sh} {W : WX} {pos : Pos}
end
end PD
set_option Elab.async false
set_option linter.all false
set_option maxRecDepth 100000
set_option maxHeartbeats 4000000
namespace PD
open PySem PySem.Spec PyProof.Rows L2

/-! ### sum, max, min of a list of ints -/
noncomputable def intsOf : List D → Option (List Int)
  | [] => some []
  | .int i :: ds => (intsOf ds).map (i :: ·)
  | _ => none
noncomputable def dSumL : List D → Option D
  | [.lst xs] => match intsOf xs with
    | some ns => some (.int ns.sum)
    | none => none
  | _ => none
section
variable {X : Cx} {L : LE} {bw : Bool}
end
end PD
set_option Elab.async false
set_option linter.all false
set_option maxRecDepth 100000
set_option maxHeartbeats 4000000
namespace PD
open PySem PySem.Spec PyProof.Rows L2

/-! ### for k, x in enumerate(xs, start=c) -/
section
variable {X : Cx} {L : LE} {fl : List Sh} {W : WX} {pos : Pos}
/-- pairs of counts and items -/
noncomputable def enumL (c : Int) : List D → List D
  | [] => []
  | x :: xs => .tup [.int c, x] :: enumL (c + 1) xs
theorem enumL_len : ∀ {c : Int} {xs : List D}, (enumL c xs).length = xs.length
  | _, [] => rfl
  | c, x :: xs => by unfold enumL; rw [List.length_cons, List.length_cons, enumL_len]
theorem enumL_get : ∀ {c : Int} {xs : List D} {i : Nat}, (enumL c xs)[i]? = (xs[i]?).map fun x => .tup [.int (c + (i : Nat)), x]
  | _, [], i => by simp [enumL]
  | c, x :: xs, 0 => by simp [enumL]
  | c, x :: xs, i + 1 => by
    unfold enumL
    rw [List.getElem?_cons_succ, List.getElem?_cons_succ, enumL_get, show c + 1 + (i : Nat) = c + ((i + 1 : Nat) : Int) by omega]
noncomputable def gEn (c : Int) : D → Option (List D)
  | .lst xs => some (enumL c xs)
  | _ => none
end
end PD
set_option Elab.async false
set_option linter.all false
set_option maxRecDepth 100000
set_option maxHeartbeats 2000000
/-! # own classes: fields, methods -/
namespace PD
open PySem PySem.Spec PyProof.Rows L2
section
variable {K : PySem.W.Frag}
theorem lookup_zip {F : Hp} {f : Str} {d : D} : ∀ {ks : List Str} {us : List V} {ds : List D}, DatL K F us ds → (ks.zip ds).lookup f = some d → ∃ v, (ks.zip us).lookup f = some v ∧ Dat K F v d
  | [], us, ds, _, h => by simp at h
  | k :: ks, [], [], .nil, h => by simp at h
  | k :: ks, u :: us, e :: ds, .cons hd hr, h => by
    rw [List.zip_cons_cons] at h ⊢
    rw [List.lookup_cons] at h ⊢
    cases q : f == k with
    | true =>
      rw [q] at h
      cases h
      exact ⟨u, rfl, hd⟩
    | false =>
      rw [q] at h
      exact lookup_zip hr h
theorem lookup_no {f : Str} : ∀ {ks : List Str} {us : List V}, ks.contains f = false → (ks.zip us).lookup f = none
  | [], us, _ => rfl
  | k :: ks, [], _ => rfl
  | k :: ks, u :: us, h => by
    rw [List.contains_cons] at h
    obtain ⟨h1, h2⟩ := Bool.or_eq_false_iff.mp h
    rw [List.zip_cons_cons, List.lookup_cons, h1]
    exact lookup_no h2
/-- the class c has the attribute f from its instances alone -/
noncomputable def FldC (K : PySem.W.Frag) (c f : Str) : Prop := ∀ C, PySem.W.nsIn K mainGlobals c = some (some (.ref C)) → Cls K C ∧ NoAttr K C f
theorem fldC_mk {c f : Str} {x : Addr} (a : PySem.W.nsIn K mainGlobals c = some (some (.ref x))) (h1 : PySem.W.plainGet K x Str.empty = true) (h2 : PySem.W.hasDictIn K x = true) (h3 : PySem.W.plainOver K x = true)
    (h4 : PySem.W.findIn K (.ref x) "__setattr__" = some (some (.builtin "object.__setattr__"))) (h5 : PySem.W.findIn K (.ref x) f = some none) : FldC K c f := fun C h => by
  rw [a] at h
  cases h
  exact ⟨⟨h1, h2, h3, h4⟩, h5⟩
end
noncomputable def dFld (cs : List Str) (f : Str) : D → Option D
  | .obj c ks vs => if c ∈ cs then (ks.zip vs).lookup f else none
  | _ => none
/-- a method that may be called -/
structure MCal (P : Program) (w : World) (K : PySem.W.Frag) (mg : Str → Option Value) (base : Heap) (L : LE) (c m : Str) (k : Nat) (rs : Sh) (n : Nat) (mt : List D → R D) : Prop where
  ex : ∀ C, PySem.W.nsIn K mainGlobals c = some (some (.ref C)) → ∃ f fd ps, Cls K C ∧ Meth K C m f ∧ FnOk P w K mg base (L2.CX P w) k f fd ps (spD L rs (n + 1) mt) ∧ Binds K fd ps []
theorem mcal_mk {P : Program} {w : World} {K : PySem.W.Frag} {mg : Str → Option Value} {base : Heap} {L : LE} {c m : Str} {k n : Nat} {rs : Sh} {mt : List D → R D} {x f : Addr} {fd : FuncData} {ps : List Str}
    (a : PySem.W.nsIn K mainGlobals c = some (some (.ref x))) (h1 : PySem.W.plainGet K x Str.empty = true) (h2 : PySem.W.hasDictIn K x = true) (h3 : PySem.W.plainOver K x = true)
    (h4 : PySem.W.findIn K (.ref x) "__setattr__" = some (some (.builtin "object.__setattr__"))) (h5 : PySem.W.findIn K (.ref x) m = some (some (.ref f))) (h6 : PySem.W.isFn K (.ref f) = true) (h7 : PySem.W.keepIn K (.ref f) = true)
    (G : FnOk P w K mg base (L2.CX P w) k f fd ps (spD L rs (n + 1) mt)) (b : Binds K fd ps []) : MCal P w K mg base L c m k rs n mt := ⟨fun C h => by
  rw [a] at h
  cases h
  exact ⟨f, fd, ps, ⟨h1, h2, h3, h4⟩, ⟨h5, h6, h7⟩, G, b⟩⟩
noncomputable def mMeth (tab : List (Str × (List D → R D))) (m : Str) (n : Nat) (fo : Env → R D) (fs : Env → R (List D)) : Env → R D := fun ρ => fo ρ >>= fun o => match o with
  | .obj c ks vs => match tab.lookup c with
    | some mt => if ks.contains m = true then .stuck else fs ρ >>= fun ds => if ds.length = n then mt (.obj c ks vs :: ds) else .stuck
    | none => .stuck
  | _ => .stuck
section
variable {X : Cx} {L : LE} {fl : List Sh} {W : WX} {pos : Pos}
theorem e_fld {cs : List Str} {e : Expr} {f : Str} {fe : Env → R D} {bw : Bool} (hc : ∀ c ∈ cs, FldC L.K c f) (he : PE X e (tD L fl (.d bw) W fe)) (hK : X.K = L.K := by rfl) (hb : attributeBase e f X.env (eval e X.env) = eval e X.env := by rfl) :
    PE X (.Attribute e f pos) (tD L fl (.d bw) W (m1 (dFld cs f) fe)) :=
  (pe_fld he hb).imp fun σ H Q ⟨F, B, ρ, r, p⟩ => by
    refine tD_bind rfl r (k := fun x => oR (dFld cs f x)) p fun d v F1 H1 S1 _ e1 r1 o1 _ _ p1 => ?_
    have dv := (own_d o1).1
    cases d with
    | obj c ks ds =>
      have p2 : PostE L F H (.d bw) (oR (if c ∈ cs then (ks.zip ds).lookup f else none)) W σ Q := p1
      by_cases hm : c ∈ cs
      · rw [if_pos hm] at p2
        cases dv with
        | @obj a C dx _ _ us _ hn ha hl hd =>
          cases q : (ks.zip ds).lookup f with
          | none => rw [q] at p2; exact p2.elim
          | some d =>
            rw [q] at p2
            obtain ⟨v, h1, h2⟩ := lookup_zip hd q
            obtain ⟨c1, c2⟩ := hc c hm C hn
            rw [hK]
            refine ⟨a, C, dx, _, v, rfl, ?_, c1, c2, h1, postE_ok p2 e1 h2⟩
            cases bw with
            | true => exact ha
            | false => exact e1.fh _ _ ha
      · rw [if_neg hm] at p2; exact p2.elim
    | _ => exact p1.elim
theorem postF_of {F1 B H1 : Hp} {rs : Sh} {r0 : R D} {σ : L2.St} {Q : VK} (r1 : Bs L F1 B H1) (p1 : PostE L F1 H1 rs r0 W σ Q) : PostF L F1 (offH F1 H1) rs r0 Q (WE W σ) := by
  unfold PostE at p1
  unfold PostF
  cases r0 with
  | ok d =>
    intro v F2 H2 S s b o nd fr
    refine p1 v F2 H2 S (offH_ext s r1.fh b) o nd fun a m => ⟨(fr a m).1, fun u hu => ?_⟩
    cases t : isTbl u with
    | true => rfl
    | false =>
      have z := (fr a m).2
      cases qf : F1 a with
      | none => rw [offH_some qf hu t] at z; cases z
      | some u' =>
        have z2 := (fr a m).1
        rw [s a u' qf] at z2
        cases z2
  | err c fs => exact fun cls d F2 H2 s b x => p1 cls d F2 H2 (offH_ext s r1.fh b) x
  | stuck => exact p1
noncomputable def mMeth0 (tab : List (Str × (List D → R D))) (m : Str) (fo : Env → R D) : Env → R D := fun ρ => fo ρ >>= fun o => match o with
  | .obj c ks vs => match tab.lookup c with
    | some mt => if ks.contains m = true then .stuck else mt [.obj c ks vs]
    | none => .stuck
  | _ => .stuck
theorem e_meth0 {pl : Sem Bool} {tab : List (Str × (List D → R D))} {o : Expr} {m : Str} {apos : Pos} {k j : Nat} {rs : Sh} {fo : Env → R D}
    (ht : ∀ c mt, tab.lookup c = some mt → MCal X.prog X.w X.K X.mg X.base L c m k rs 0 mt) (hr : Room j X.A) (tk : Takes X W) (ho : PE X o (tD L fl .s W fo)) (hk : k ≤ j := by first | decide | omega)
    (hev : eval (.Call (.Attribute o m apos) [] [] pos) X.env = (do
      let ov ← eval o X.env
      standAt apos.atName
      let (f, first) ← holding [ov] (getMethod ov m pl)
      callWith pos f first (backTo pos (starEach [] X.env)) (backToKw pos (keywordEach [] X.env))) := by rfl) (hK : X.K = L.K := by rfl) :
    PE X (.Call (.Attribute o m apos) [] [] pos) (tD L fl rs W (mMeth0 tab m fo)) := ⟨fun pins s σ H Q I ⟨F, B, ρ, r, p⟩ => by
  have ho' : tD L fl .s W fo σ H (fun v H1 => ∃ d F1, Ext L.T F H F1 H1 ∧ Rep L fl F1 B σ H1 ρ ∧ Dat L.K F1 v d ∧ PostE L F1 H1 rs (match d with
      | .obj c ks vs => match tab.lookup c with
        | some mt => if ks.contains m = true then .stuck else mt [.obj c ks vs]
        | none => .stuck
      | _ => .stuck) W σ Q) := tD_bind rfl r p fun d v F1 H1 S1 _ e1 r1 o1 _ _ p1 => ⟨d, F1, e1, r1, (own_d o1).1, p1.weak e1⟩
  refine PySem.W.methodCall_KW (pl := pl) (thn (ho.run pins s σ H _ I ho') fun u s1 ⟨x, H1, I1, rx, d, F1, e1, r1, dv, p1⟩ => ?_) hev
  cases d with
  | obj c ks ds =>
    dsimp only at p1
    cases qt : tab.lookup c with
    | none => rw [qt] at p1; exact p1.elim
    | some mt =>
      rw [qt] at p1
      dsimp only at p1
      by_cases hc : ks.contains m = true
      · rw [if_pos hc] at p1; exact p1.elim
      · rw [if_neg hc] at p1
        have hn0 : ks.contains m = false := by simpa using hc
        cases dv with
        | @obj a C dx _ _ us _ hn hA hl hd =>
          obtain rfl : u = Value.ref a := rx
          obtain ⟨f, fd, ps, c1, c2, G, hb⟩ := (ht c mt qt).ex C (by rw [hK]; exact hn)
          refine getmeth_ok I1 (r1.bs.fh _ _ hA) c1 c2 (lookup_no hn0) ?_
          exact PySem.W.callWith_K0 (first := [.ref a]) I1.kIn c2.kp (run_fnS (us := [.ref a]) (vs := [.ref a]) G (hr.mono hk) hb (passAt tk σ) I1 (.cons rfl .nil) ⟨F1, offH F1 H1, [.obj c ks ds], offH_bs r1.bs, .cons (.obj hn hA hl hd) .nil, rfl, postF_of r1.bs p1⟩)
  | _ => exact p1.elim⟩
end
end PD
set_option Elab.async false
set_option linter.all false
set_option maxRecDepth 100000
set_option maxHeartbeats 2000000
/-! # own classes: __init__, C(..) -/
namespace PD
open PySem PySem.Spec PyProof.Rows L2
section
variable {L : LE} {fl : List Sh} {F B H : Hp} {σ : L2.St} {ρ : Env}
/-- the instance that a slot holds gets its fields -/
theorem Rep.mutI {i : Nat} {p C dx : Addr} {c : Str} {ks : List Str} {ds : List D} (r : Rep L fl F B σ H ρ) (hs : fl[i]? = some (.i p C dx)) (hx : ρ[i]? = some (some (.obj c ks ds))) :
    ∃ us, σ[i]? = some (some (.ref p)) ∧ PySem.W.nsIn L.K mainGlobals c = some (some (.ref C)) ∧ H p = some (.ins C dx (ks.zip us)) ∧ ks.length = us.length ∧ DatL L.K F us ds ∧ F p = none ∧ B p = none ∧
      ∀ F' H0 ks' us' ds', Ext L.T F H F' H0 → ks'.length = us'.length → DatL L.K F' us' ds' → Rep L fl F' B σ (upd H0 p (.ins C dx (ks'.zip us'))) (ρ.set i (some (.obj c ks' ds'))) := by
  obtain ⟨Ss, h1, h2, h3, h4⟩ := r.sl
  obtain ⟨v, sh, a1, a2, a3, a4⟩ := h1 i _ hx
  rw [hs] at a2
  cases a2
  have n4 := h4 i
  have n2 := fun j a => h2 i j a
  generalize hS : Ss i = S0 at a4 n4 n2
  cases a4 with
  | @i _ _ _ _ _ us _ hc hp hl hd =>
    have nF := (n4 p List.mem_cons_self).1
    have nB := (n4 p List.mem_cons_self).2.1
    refine ⟨us, a1, hc, hp, hl, hd, nF, nB, fun F' H0 ks' us' ds' ex l' d' => ?_⟩
    have r' := r.ext ex
    have Fp : F' p = none := ex.hid p _ hp rfl nF
    have at_ : ∀ a, a ≠ p → upd H0 p (.ins C dx (ks'.zip us')) a = H0 a := fun a z => upd_ne z
    refine ⟨⟨fun a o q => ?_, fun a o q => ?_, r'.bs.fb, r'.bs.nf, r'.bs.nb, fun P hP => ?_⟩, r.ls, by rw [List.length_set]; exact r.lr, r'.px, ?_⟩
    · rw [at_ a fun z => by rw [z, Fp] at q; cases q]; exact r'.bs.fh a o q
    · rw [at_ a fun z => by rw [z, nB] at q; cases q]; exact r'.bs.bh a o q
    · obtain ⟨ps, q, k⟩ := r'.bs.tab P hP
      have hp0 := ex.hh p _ hp rfl
      exact ⟨ps, by rw [at_ P fun z => by rw [z, hp0] at q; cases q]; exact q, k⟩
    · refine ⟨Ss, fun j d2 q => ?_, h2, h3, fun j a m => ?_⟩
      · by_cases z : j = i
        · subst z
          have hlr : j < ρ.length := (List.getElem?_eq_some_iff.mp hx).1
          rw [List.getElem?_set_self hlr] at q
          cases q
          rw [hS]
          exact ⟨_, _, a1, hs, a3, .i hc upd_same l' d'⟩
        · rw [List.getElem?_set_ne (Ne.symm z)] at q
          obtain ⟨v', sh', b1, b2, b3, b4⟩ := h1 j d2 q
          refine ⟨v', sh', b1, b2, b3, Own.at ex.ff.sm b3 b4 fun a m => ?_⟩
          have na : a ≠ p := fun w => z (h2 j i a m (by rw [hS, w]; exact List.mem_cons_self))
          rw [at_ a na]
          obtain ⟨_, _, u, q3, q4⟩ := h4 j a m
          rw [q3]
          exact ex.hh a u q3 q4
      · obtain ⟨q1, q2, u, q3, q4⟩ := h4 j a m
        by_cases w : a = p
        · subst w
          exact ⟨Fp, nB, _, upd_same, rfl⟩
        · exact ⟨ex.hid a u q3 q4 q1, q2, u, by rw [at_ a w]; exact ex.hh a u q3 q4, q4⟩
theorem putF_new {f : Str} {y : V} : ∀ {ks : List Str} {us : List V}, ks.length = us.length → ks.contains f = false → putF f y (ks.zip us) = (ks ++ [f]).zip (us ++ [y])
  | [], [], _, _ => rfl
  | k :: ks, [], h, _ => by simp at h
  | [], u :: us, h, _ => by simp at h
  | k :: ks, u :: us, h, n => by
    rw [List.contains_cons] at n
    obtain ⟨n1, n2⟩ := Bool.or_eq_false_iff.mp n
    have hk : ¬ k = f := fun e => by rw [e] at n1; simp at n1
    have ih := putF_new (f := f) (y := y) (ks := ks) (us := us) (by simpa using h) n2
    show (if k = f then _ else (k, u) :: putF f y (ks.zip us)) = (k, u) :: (ks ++ [f]).zip (us ++ [y])
    rw [if_neg hk, ih]
end
/-- self.f = e, a new field -/
noncomputable def sFldI (i : Nat) (f : Str) (fe : Env → R D) : Env → R Fl := fun ρ => liftE (fe ρ) ρ fun d => match ρ[i]? with
  | some (some (.obj c ks vs)) => if ks.contains f = false ∧ ks.length < 900 then .ok (.nx (ρ.set i (some (.obj c (ks ++ [f]) (vs ++ [d]))))) else .stuck
  | _ => .stuck
section
variable {X : Cx} {L : LE} {J : Jn} {fl fl1 fl' : List Sh} {W : WX} {pos : Pos}
theorem s_fldI (i : Nat) {p0 C dx : Addr} {x f : Str} {e : Expr} {fe : Env → R D} {xp pos' : Pos} {c : Str} (hc : FldC L.K c f) (hcn : PySem.W.nsIn L.K mainGlobals c = some (some (.ref C))) (he : PE X e (tD L fl .s W fe)) (hK : X.K = L.K := by rfl) (hs : fl[i]? = some (.i p0 C dx) := by rfl)
    (hN : X.N[i]? = some x := by rfl) (hv : Vis X.env.scope x := by first | exact Or.inl rfl | exact Or.inr (Or.inl rfl) | exact Or.inr (Or.inr rfl)) (hd : (x == ("__debug__" : Str)) = false := by decide) (hcd : (x == ("__classdict__" : Str)) = false := by decide)
    (hsw : swapsWith e (some (.Attribute (.Name x xp) f pos')) pos.line X.env = pure false := by rfl) :
    PS X (.Assign [.Attribute (.Name x xp) f pos'] e pos) (tS L J fl fl W (sFldI i f fe)) :=
  (ps_fld (pv i hN hv hd hcd) he hsw).imp fun D σ H ⟨F, B, ρ, r, p⟩ => by
    refine ⟨F, B, ρ, r, PostS.bindE r p fun d v F1 H1 S1 _ e1 r1 o1 _ _ p1 => ?_⟩
    have dv := (own_d o1).1
    cases q : ρ[i]? with
    | none => rw [q] at p1; exact p1.elim
    | some o =>
      cases o with
      | none => rw [q] at p1; exact p1.elim
      | some d0 =>
        rw [q] at p1
        cases d0 with
        | obj c' ks ds =>
          dsimp only at p1
          by_cases hk : ks.contains f = false ∧ ks.length < 900
          · rw [if_pos hk] at p1
            obtain ⟨us, a1, a2, a3, a4, a5, a6, a7, up⟩ := r1.mutI hs q
            obtain ⟨c1, c2⟩ := hc C hcn
            refine ⟨.ref p0, a1, p0, C, dx, ks.zip us, rfl, a3, by rw [hK]; exact c1, by rw [hK]; exact c2, by rw [List.length_zip]; omega, ?_⟩
            rw [putF_new a4 hk.1]
            refine p1 _ F1 _ (.refl _) (up F1 H1 (ks ++ [f]) (us ++ [v]) (ds ++ [d]) (.refl r1.bs.fh r1.bs.nf) (by rw [List.length_append, List.length_append, a4]; rfl) (a5.append (.cons dv .nil)))
          · rw [if_neg hk] at p1; exact p1.elim
        | _ => exact p1.elim
end

/-! ### __init__ -/
noncomputable def PostIn (L : LE) (F B : Hp) (x C dx : Addr) (ks : List Str) (r : R (List D)) (Q : VK) (E : L2.XK) : Prop := match r with
  | .ok ds => ∀ F' H' us, Same F F' → Bs L F' B H' → F' x = none → H' x = some (.ins C dx (ks.zip us)) → ks.length = us.length → DatL L.K F' us ds → Q .non H'
  | .err c fs => ∀ cls d F' H', Same F F' → Bs L F' B H' → ErrOk L c fs cls d F' H' → E cls d H'
  | .stuck => False
noncomputable def spI (L : LE) (c : Str) (ks : List Str) (n : Nat) (m : List D → R (List D)) : Sp := fun vs H Q E => ∃ F B ds x C dx us, vs = .ref x :: us ∧ PySem.W.nsIn L.K mainGlobals c = some (some (.ref C)) ∧ Bs L F B H ∧ F x = none ∧ B x = none ∧
  H x = some (.ins C dx []) ∧ DatL L.K F us ds ∧ ds.length = n ∧ PostIn L F B x C dx ks (m ds) Q E
noncomputable def initOf (ks : List Str) (ρ : Env) : R (List D) := match ρ[0]? with
  | some (some (D.obj _ ks' vs)) => if ks' = ks then .ok vs else .stuck
  | _ => .stuck
noncomputable def mInit (c : Str) (ks : List Str) (N : Nat) (b : Env → R Fl) : List D → R (List D) := fun ds => match b (some (.obj c [] []) :: (ds.map some ++ List.replicate (N - 1 - ds.length) none)) with
  | .ok (.nx ρ) => initOf ks ρ
  | .ok (.ex c fs _) => .err c fs
  | _ => .stuck
section
variable {P : Program} {w : World} {K : PySem.W.Frag} {mg : Str → Option Value} {base : Heap} {L : LE}
theorem fnI {c : Str} {ks : List Str} {x qual : Str} {st : Stmt} {f : Addr} {fd : FuncData} {N ps : List Str} {s0 : Str} {k : Nat} (F : Fun K x qual st f fd) (S : FnScope N (s0 :: ps) (defScope st)) (hL : L.K = K) {fl fl' rest : List Sh} {b : Env → R Fl}
    (hfl : fl = List.replicate ps.length .s ++ rest) (hln : fl.length + 1 = N.length) (hnx : fl.all (fun sh => !sh.isX) = true)
    (hb : ∀ (y C dx : Addr) (hc : PySem.W.nsIn L.K mainGlobals c = some (some (.ref C))) (cdv : Value) (A : Around) (outer : List PySem.Env) (s : Shared) (H : Hp) (E : L2.XK), Room k (A.deeper (envOfC qual (defScope st) s.heap.objs.size f cdv)) →
      PSs (cxOf (L2.CX P w) P w K mg base N qual (defScope st) f cdv A outer s H E) (defBody st) (tS L ⟨.s, [], []⟩ (.i y C dx :: fl) (.i y C dx :: fl') (WF' E) b)) :
    FnOk P w K mg base (L2.CX P w) (k + 1) f fd (s0 :: ps) (spI L c ks ps.length (mInit c ks N.length b)) := by
  refine F.okX S (fun vs H Q E ⟨_, _, ds, _, _, _, us, e, _, _, _, _, _, d, hl, _⟩ => by rw [e, List.length_cons, List.length_cons, d.length, hl]) (fun cdv A outer s H vs Q E hr ⟨F0, B, ds, y, C, dx, us, ev, hc, bs, n1, n2, hy, d, hl, p⟩ => ⟨_, hb y C dx hc cdv A outer s H E hr, ?_⟩)
  subst ev
  have hus := d.length
  have r0 : Rep L (.i y C dx :: fl) F0 B (L2.start N (.ref y :: us)) H (some (.obj c [] []) :: (ds.map some ++ List.replicate (N.length - 1 - ds.length) none)) := by
    have hrl : ds.length ≤ fl.length := by
      rw [hfl, List.length_append, List.length_replicate]
      omega
    refine ⟨bs, ?_, ?_, fun i u eo q => ?_, (fun i => if i = 0 then [y] else []), fun i d' q => ?_, fun i j a m1 m2 => ?_, fun i => ?_, fun i a m => ?_⟩
    · unfold L2.start
      rw [List.length_append, List.length_map, List.length_replicate, List.length_cons, List.length_cons, hus]
      omega
    · rw [List.length_cons, List.length_append, List.length_map, List.length_replicate, List.length_cons]
      omega
    · cases i with
      | zero => cases q
      | succ i =>
        have := List.all_eq_true.mp hnx _ (List.mem_of_getElem? (show fl[i]? = some (Sh.x u eo) from q))
        cases this
    · cases i with
      | zero =>
        cases q
        exact ⟨.ref y, .i y C dx, rfl, rfl, rfl, .i (us := []) hc hy rfl .nil⟩
      | succ i =>
        rw [List.getElem?_cons_succ] at q
        by_cases hi : i < ds.length
        · rw [List.getElem?_append_left (by rw [List.length_map]; exact hi), List.getElem?_map, List.getElem?_eq_getElem hi] at q
          cases q
          obtain ⟨v, e, dv⟩ := d.get (List.getElem?_eq_getElem hi)
          refine ⟨v, .s, ?_, ?_, rfl, .d (bw := false) dv⟩
          · unfold L2.start
            rw [List.map_cons, List.cons_append, List.getElem?_cons_succ, List.getElem?_append_left (by rw [List.length_map, hus]; exact hi), List.getElem?_map, e]
            rfl
          · rw [List.getElem?_cons_succ, hfl, List.getElem?_append_left (by rw [List.length_replicate]; omega), List.getElem?_replicate, if_pos (by omega)]
        · rw [List.getElem?_append_right (by rw [List.length_map]; omega), List.getElem?_replicate] at q
          split at q <;> cases q
    · dsimp only at m1 m2
      have z1 : i = 0 := by
        by_cases z : i = 0
        · exact z
        · rw [if_neg z] at m1; cases m1
      have z2 : j = 0 := by
        by_cases z : j = 0
        · exact z
        · rw [if_neg z] at m2; cases m2
      rw [z1, z2]
    · dsimp only
      by_cases z : i = 0
      · rw [if_pos z]; simp
      · rw [if_neg z]; exact List.nodup_nil
    · dsimp only at m
      by_cases z : i = 0
      · rw [if_pos z] at m
        have e : a = y := by simpa using m
        subst e
        exact ⟨n1, n2, _, hy, rfl⟩
      · rw [if_neg z] at m; cases m
  refine ⟨F0, B, _, r0, ?_⟩
  unfold mInit at p
  generalize b (some (.obj c [] []) :: (ds.map some ++ List.replicate (N.length - 1 - ds.length) none)) = r at p
  cases r with
  | ok z =>
    cases z with
    | nx ρ =>
      dsimp only at p
      intro σ' F' H' s r'
      unfold initOf at p
      cases q : ρ[0]? with
      | none => rw [q] at p; exact p.elim
      | some o =>
        cases o with
        | none => rw [q] at p; exact p.elim
        | some d0 =>
          rw [q] at p
          cases d0 with
          | obj c' ks' vs =>
            dsimp only at p
            by_cases hk : ks' = ks
            · rw [if_pos hk] at p
              subst hk
              obtain ⟨us', a1, a2, a3, a4, a5, a6, a7, _⟩ := r'.mutI (i := 0) rfl q
              exact p F' H' us' s r'.bs a6 a3 a4 a5
            · rw [if_neg hk] at p; exact p.elim
          | _ => exact p.elim
    | ex c fs ρ => exact fun cls d fl0 σ' F' H' s r' x => p cls d F' H' s r'.bs x
    | _ => exact p.elim
  | err c fs => exact p.elim
  | stuck => exact p.elim
end
end PD
namespace PD
open PySem PySem.Spec PyProof.Rows L2
/-- a class that may be made -/
structure MkC (P : Program) (w : World) (K : PySem.W.Frag) (mg : Str → Option Value) (base : Heap) (L : LE) (c : Str) (k : Nat) (ks : List Str) (n : Nat) (mi : List D → R (List D)) : Prop where
  ex : ∃ C f fd ps, PySem.W.nsIn K mainGlobals c = some (some (.ref C)) ∧ mg c = some (.ref C) ∧ Mk K C f ∧ FnOk P w K mg base (L2.CX P w) k f fd ps (spI L c ks n mi) ∧ Binds K fd ps []
noncomputable def mMake (c : Str) (ks : List Str) (n : Nat) (mi : List D → R (List D)) (fs : Env → R (List D)) : Env → R D := fun ρ => fs ρ >>= fun ds => if ds.length = n then mi ds >>= fun vs => .ok (.obj c ks vs) else .stuck
theorem make_ext {L : LE} {F1 F' B1 H1 H' : Hp} {x C dx : Addr} {fs : List (Str × V)} (nx : H1 x = none) (s : Same F1 F') (fh0 : Same F1 H1) (hB : ∀ a o, F1 a = none → H1 a = some o → isTbl o = false → B1 a = some o) (b : Bs L F' B1 H') (fx : F' x = none) (hx : H' x = some (.ins C dx fs)) :
    Ext L.T F1 H1 (upd F' x (.ins C dx fs)) H' := by
  refine ⟨fun a o h t => ?_, fun P m _ => b.tab P m, fun a o h => ?_, fun a o h => ?_, fun a o h t n => ?_, fun a o h => ?_⟩
  · cases q : F1 a with
    | none => exact b.bh a o (hB a o q h t)
    | some u =>
      have z := fh0 a u q
      rw [h] at z
      cases z
      exact b.fh a o (s a o q)
  · have z := s a o h
    rw [upd_ne fun e => by rw [e, fx] at z; cases z]
    exact z
  · by_cases e : a = x
    · subst e; rw [upd_same] at h; cases h; exact hx
    · rw [upd_ne e] at h; exact b.fh a o h
  · have ne : a ≠ x := fun e => by rw [e, nx] at h; cases h
    rw [upd_ne ne]
    exact b.fb a o (hB a o n h t)
  · by_cases e : a = x
    · subst e; rw [upd_same] at h; cases h; rfl
    · rw [upd_ne e] at h; exact b.nf a o h
section
variable {X : Cx} {L : LE} {fl : List Sh} {W : WX} {pos : Pos}
/-- C's own __init__ runs on a new instance -/
theorem run_mk {C f : Addr} {fd : FuncData} {ps : List Str} {sp : Sp} {E : L2.St → L2.XK} {k : Nat} {pins : List (Addr × Obj)} {σ : L2.St} {H : Hp} {s : Shared} {Q : VK} {us : List Value} {vs : List V} (M : Mk X.K C f) (G : FnOk X.prog X.w X.K X.mg X.base (L2.CX X.prog X.w) k f fd ps sp) (hr : Room (k + 1) X.A) (hb : Binds X.K fd ps [])
    (hx : PassesAt (L2.CX X.prog X.w) X σ (E σ)) (I : Inv X pins σ H s) (r : Vals vs us) (hb2 : ∀ x dx, H x = none → H dx = none → dx ≠ x → ∀ (h' : Hp), h' = upd (upd H dx (.own x)) x (.ins C dx []) → sp (.ref x :: vs) h' (fun v H2 => v = .non ∧ Q (.ref x) H2) (fun c d H2 => E σ c d H2)) 
    (hxx : ∀ (h' : Hp) (s2 : Shared) (e : Value) (s' : Shared), Inv X pins σ h' s2 → L2.CX X.prog X.w X.stack h' s2 (E σ) e s' → X.xe e s') :
    wpAny (model X.prog X.w) X.A (call (.ref C) us) (EP X pins σ Q) X.xe s := by
  obtain ⟨n1, hn1⟩ : ∃ n, n = s.heap.objs.size := ⟨_, rfl⟩
  have q := hb2 (s.heap.objs.size + 1) s.heap.objs.size (I.hok.fresh (Nat.le_succ _)) (I.hok.fresh (Nat.le_refl _)) (Nat.ne_of_lt (Nat.lt_succ_self _)) _ rfl
  have J := Inv.made (C := C) I
  have r' : Vals (V.ref (s.heap.objs.size + 1) :: vs) (Value.ref (s.heap.objs.size + 1) :: us) := .cons rfl r
  have hl : (Value.ref (s.heap.objs.size + 1) :: us).length = ps.length := by rw [← r'.length]; exact G.len _ _ _ _ q
  have b := hb _ (Value.ref (s.heap.objs.size + 1) :: us) J.kIn (by rw [List.append_nil]; exact hl)
  rw [List.append_nil] at b
  refine wpAny_call (make_map (f := f) I.kIn M.makes M.init (beq_iff_eq.mp M.fn) (codeAny_mono (G.run _ X.stack _ _ ⟨Value.ref (s.heap.objs.size + 1) :: us, []⟩ _ _ _ _ (hr.make C us []) (J.env0.make C us []) b r' q) fun z s' hz => ?_))
  cases z with
  | error e => exact hxx _ _ e s' J hz
  | ok fl =>
    cases fl with
    | ret u =>
      obtain ⟨v, H', I3, rv, ev, q3⟩ := J.after hz
      subst ev
      exact ⟨rv, ⟨V.ref (s.heap.objs.size + 1), H', I3, rfl, q3⟩⟩
    | _ => exact False.elim hz
/-- the making, from what is frozen -/
theorem make_core {c : Str} {k n : Nat} {ks : List Str} {mi : List D → R (List D)} {C f : Addr} {fd : FuncData} {ps : List Str} {pins : List (Addr × Obj)} {σ : L2.St} {H1 F1 : Hp} {s1 : Shared} {us : List Value} {vs : List V} {ds : List D} {Q : VK}
    (hn : PySem.W.nsIn X.K mainGlobals c = some (some (.ref C))) (M : Mk X.K C f) (G : FnOk X.prog X.w X.K X.mg X.base (L2.CX X.prog X.w) k f fd ps (spI L c ks n mi)) (hb : Binds X.K fd ps []) (hr : Room (k + 1) X.A) (tk : Takes X W) (I1 : Inv X pins σ H1 s1) (rv : Vals vs us)
    (fh : Same F1 H1) (nf : NoT F1) (tab : ∀ P ∈ L.T, GxR.TabG H1 P) (d1 : DatL L.K F1 vs ds) (hl : ds.length = n) (hK : X.K = L.K) (p1 : PostE L F1 H1 .s (mi ds >>= fun vs => .ok (.obj c ks vs)) W σ Q) :
    wpAny (model X.prog X.w) X.A (call (.ref C) us) (EP X pins σ Q) X.xe s1 := by
    refine run_mk (E := WE W) M G hr hb (passAt tk σ) I1 rv (fun x dx nx ndx ne h' eh' => ?_) (fun h' s2 e s' J z => tk e s' (XE.of_call J (fun _ _ _ h => h) z))
    subst eh'
    have f1x : F1 x = none := fh.free nx
    have f1d : F1 dx = none := fh.free ndx
    obtain ⟨B1, hB1⟩ : ∃ B1, B1 = offH F1 (upd H1 dx (.own x)) := ⟨_, rfl⟩
    have hBx : B1 x = none := by
      cases q : B1 x with
      | none => rfl
      | some o =>
        rw [hB1] at q
        have := (offH_of q).2.1
        rw [upd_ne (Ne.symm ne), nx] at this
        cases this
    have bs : Bs L F1 B1 (upd (upd H1 dx (.own x)) x (.ins C dx [])) := by
      refine ⟨fun a o h => ?_, fun a o h => ?_, fun a o h => ?_, nf, fun a o h => ?_, fun P m => ?_⟩
      · have z1 : a ≠ x := fun z => by rw [z, f1x] at h; cases h
        have z2 : a ≠ dx := fun z => by rw [z, f1d] at h; cases h
        rw [upd_ne z1, upd_ne z2]
        exact fh a o h
      · rw [upd_ne fun z => by rw [z, hBx] at h; cases h]
        rw [hB1] at h
        exact (offH_of h).2.1
      · rw [hB1] at h; exact (offH_of h).1
      · rw [hB1] at h; exact (offH_of h).2.2
      · obtain ⟨t, z, y⟩ := tab P m
        have z1 : P ≠ x := fun w => by rw [w, nx] at z; cases z
        have z2 : P ≠ dx := fun w => by rw [w, ndx] at z; cases z
        exact ⟨t, by rw [upd_ne z1, upd_ne z2]; exact z, y⟩
    have hB : ∀ a o, F1 a = none → H1 a = some o → isTbl o = false → B1 a = some o := fun a o n h t => by
      rw [hB1]
      exact offH_some n (by rw [upd_ne fun z => by rw [z, ndx] at h; cases h]; exact h) t
    refine ⟨F1, B1, ds, x, C, dx, vs, rfl, by rw [← hK]; exact hn, bs, f1x, hBx, upd_same, d1, hl, ?_⟩
    unfold PostIn
    cases qm : mi ds with
    | ok ws =>
      rw [qm, bind_ok] at p1
      intro F' H' us' s b fx hx hlk dw
      have ex := make_ext (L := L) nx s fh hB b fx hx
      refine ⟨rfl, postE_ok p1 ex (dat_lift ex.fh (.obj (by rw [← hK]; exact hn) upd_same hlk (dw.mono (same_upd fx).sm)))⟩
    | err c2 fs2 =>
      rw [qm, bind_err] at p1
      intro cls d F' H' s b x
      have hext : Ext L.T F1 H1 F' H' := by
        refine ⟨fun a o h t => ?_, fun P m _ => b.tab P m, s, b.fh, fun a o h t n => b.fb a o (hB a o n h t), b.nf⟩
        cases q : F1 a with
        | none => exact b.bh a o (hB a o q h t)
        | some u =>
          have z := fh a u q
          rw [h] at z
          cases z
          exact b.fh a o (s a o q)
      exact p1 cls d F' H' hext x
    | stuck => rw [qm] at p1; exact p1
theorem postE_s {F H : Hp} {bw : Bool} {r0 : R D} {σ : L2.St} {Q : VK} (p : PostE L F H (.d bw) r0 W σ Q) : PostE L F H .s r0 W σ Q := by
  unfold PostE at p ⊢
  split at p
  · exact fun v F' H' S e o nd fr => p v F' H' [] e (.d (dat_lift e.fh (own_d o).1)) List.nodup_nil (fun a m => nomatch m)
  · exact p
  · exact p
theorem e_make {c : Str} {p : Pos} {e : Expr} {es : List Expr} {k j n : Nat} {ks : List Str} {mi : List D → R (List D)} {fs : Env → R (List D)} {bw : Bool} (q : MkC X.prog X.w X.K X.mg X.base L c k ks n mi) (hr : Room j X.A) (tk : Takes X W)
    (ha : PA X (e :: es) (tA L fl false W fs)) (hk : k + 1 ≤ j := by first | decide | omega) (hg : Gl X c := by rfl) (hdb : (c == ("__debug__" : Str)) = false := by decide) (he : starEach (e :: es) X.env = (false, eval e X.env) :: starEach es X.env := by rfl) (hpl : (backTo pos (starEach es X.env)).any (·.1) = false := by rfl) (hK : X.K = L.K := by rfl) :
    PE X (.Call (.Name c p) (e :: es) [] pos) (tD L fl (.d bw) W (mMake c ks n mi fs)) := ⟨fun pins s σ H Q I ⟨F, B, ρ, r, pp⟩ => by
  obtain ⟨C, f, fd, ps, hn, hm, M, G, hb⟩ := q.ex
  have ha' : tA L fl false W fs σ H (fun vs H2 => ∃ F2 ds2, Ext L.T F H F2 H2 ∧ Rep L fl F2 B σ H2 ρ ∧ DatL L.K F2 vs ds2 ∧ PostE L F2 H2 (.d bw) (if ds2.length = n then mi ds2 >>= fun vs => .ok (.obj c ks vs) else .stuck) W σ Q) :=
    tA_bind rfl r pp fun ds2 vs F2 H2 _ e2 r2 d2 p2 => ⟨F2, ds2, e2, r2, d2, p2⟩
  refine wpAny_Call_Name_kw (ld_glob I hg hm ?_ hdb)
  refine PySem.W.callWith_K (h₀ := X.base) I.ok.mod.kin M.kp (thn (ha.run pos pins s σ H _ I ha') fun us s1 ⟨vs, H1, I1, rv, F1, ds, e1, r1, d1, p1⟩ => ⟨I1.kIn, ?_⟩) he hpl
  by_cases hl : ds.length = n
  · rw [if_pos hl] at p1
    exact make_core hn M G hb (hr.mono hk) tk I1 rv r1.bs.fh r1.bs.nf r1.bs.tab d1 hl hK (postE_s p1)
  · rw [if_neg hl] at p1; exact p1.elim⟩
end
/-! ### own lists handed to a call whose result holds no list -/
mutual
/-- no list within -/
noncomputable def noL : D → Bool
  | .lst _ => false
  | .scr _ => false
  | .tup xs => noLs xs
  | .obj _ _ xs => noLs xs
  | .dic _ _ => false
  | .dct _ _ => false
  | _ => true
noncomputable def noLs : List D → Bool
  | [] => true
  | x :: xs => noL x && noLs xs
end
noncomputable def isLst : HO → Bool
  | .lst _ => true
  | _ => false
/-- what is frozen, and all lists -/
noncomputable def lf (F H : Hp) : Hp := fun a => match F a with
  | some o => some o
  | none => match H a with
    | some (.lst vs) => some (.lst vs)
    | _ => none
section
variable {K : PySem.W.Frag} {F H F2 F3 : Hp}
theorem lf_F {a : Addr} {o : HO} (h : F a = some o) : lf F H a = some o := by unfold lf; rw [h]
theorem lf_l {a : Addr} {vs : List V} (n : F a = none) (h : H a = some (.lst vs)) : lf F H a = some (.lst vs) := by unfold lf; rw [n, h]
theorem lf_of {a : Addr} {o : HO} (h : lf F H a = some o) : F a = some o ∨ (F a = none ∧ H a = some o ∧ isLst o = true) := by
  unfold lf at h
  cases q : F a with
  | some u => rw [q] at h; exact .inl h
  | none =>
    rw [q] at h
    dsimp only at h
    split at h
    · rename_i vs e
      cases h
      exact .inr ⟨rfl, e, rfl⟩
    · cases h
theorem lf_same : Same F (lf F H) := fun a o h => lf_F h
theorem lf_to (s : Same F H) : Same (lf F H) H := fun a o h => by
  rcases lf_of h with h | ⟨_, h, _⟩
  · exact s a o h
  · exact h
theorem lf_nt (n : NoT F) : NoT (lf F H) := fun a o h => by
  rcases lf_of h with h | ⟨_, _, h⟩
  · exact n a o h
  · cases o with
    | lst _ => rfl
    | _ => cases h
theorem rd_no {a : Addr} {u : HO} (nu : isLst u = false) (k : ∀ a o, F2 a = some o → isLst o = false → F3 a = some o) (h : Rd F2 a u) : Rd F3 a u := by
  rcases h with h | ⟨o, h⟩
  · exact .inl (k _ _ h nu)
  · exact .inr ⟨o, k _ _ h rfl⟩
mutual
theorem dat_noL (k : ∀ a o, F2 a = some o → isLst o = false → F3 a = some o) : ∀ {v : V} {d : D}, noL d = true → Dat K F2 v d → Dat K F3 v d
  | _, _, _, .non => .non
  | _, _, _, .bl => .bl
  | _, _, _, .int => .int
  | _, _, _, .str => .str
  | _, _, n, .lst _ _ => nomatch n
  | _, _, n, .scr _ => nomatch n
  | _, _, n, .tup h r => .tup (by
      rcases h with h | h
      · exact .inl (rd_no rfl k h)
      · exact .inr h) (datL_noL k (by unfold noL at n; exact n) r)
  | _, _, _, .rng h => .rng (k _ _ h rfl)
  | _, _, n, .obj c h l r => .obj c (k _ _ h rfl) l (datL_noL k (by unfold noL at n; exact n) r)
  | _, _, n, .dic _ _ _ => nomatch n
  | _, _, n, .dct _ _ _ => nomatch n
theorem datL_noL (k : ∀ a o, F2 a = some o → isLst o = false → F3 a = some o) : ∀ {vs : List V} {ds : List D}, noLs ds = true → DatL K F2 vs ds → DatL K F3 vs ds
  | _, _, _, .nil => .nil
  | _, _, n, .cons h r => by
    unfold noLs at n
    rw [Bool.and_eq_true] at n
    exact .cons (dat_noL k n.1 h) (datL_noL k n.2 r)
end
end
noncomputable def gNoL (d : D) : R D := if noL d = true then .ok d else .stuck
open Classical in
/-- what was frozen, and what is new -/
noncomputable def newF (F1 H1 F2 : Hp) : Hp := fun a => match F1 a with
  | some o => some o
  | none => if ∃ o, H1 a = some o ∧ isTbl o = false then none else F2 a
section
variable {L : LE} {W : WX} {F1 H1 F2 H2 : Hp}
theorem newF_ext (fh : Same F1 H1) (nf : NoT F1) (e : Ext L.T (lf F1 H1) H1 F2 H2) : Ext L.T F1 H1 (newF F1 H1 F2) H2 ∧ ∀ a o, F2 a = some o → isLst o = false → newF F1 H1 F2 a = some o := by
  have s12 : Same F1 F2 := fun a o h => e.ff a o (lf_F h)
  refine ⟨⟨e.hh, e.ht, fun a o h => ?_, fun a o h => ?_, fun a o h t n => ?_, fun a o h => ?_⟩, fun a o h nl => ?_⟩
  · unfold newF; rw [h]
  · unfold newF at h
    cases q : F1 a with
    | some u => rw [q] at h; cases h; exact e.fh a o (s12 a o q)
    | none =>
      rw [q] at h
      dsimp only at h
      split at h
      · cases h
      · exact e.fh a o h
  · unfold newF
    rw [n]
    dsimp only
    rw [if_pos ⟨o, h, t⟩]
  · unfold newF at h
    cases q : F1 a with
    | some u => rw [q] at h; cases h; exact nf a o q
    | none =>
      rw [q] at h
      dsimp only at h
      split at h
      · cases h
      · exact e.nt a o h
  · unfold newF
    cases q : F1 a with
    | some u =>
      have z := s12 a u q
      rw [h] at z
      cases z
      rfl
    | none =>
      dsimp only
      split
      · rename_i hx
        obtain ⟨u, h1, h2⟩ := hx
        exfalso
        cases ql : lf F1 H1 a with
        | none =>
          have z := e.hid a u h1 h2 ql
          rw [h] at z; cases z
        | some u' =>
          have z := e.ff a u' ql
          rw [h] at z
          cases z
          rcases lf_of ql with y | ⟨_, _, y⟩
          · rw [q] at y; cases y
          · rw [y] at nl; cases nl
      · exact h
theorem errOk_noL {c : Str} {fs : List (Str × D)} {cls : Value} {d : Option Addr} {F3 : Hp} (k : ∀ a o, F2 a = some o → isLst o = false → F3 a = some o) (h : ErrOk L c fs cls d F2 H2) : ErrOk L c fs cls d F3 H2 := by
  obtain ⟨h1, h2⟩ := h
  refine ⟨h1, ?_⟩
  split at h2
  · exact h2
  · obtain ⟨dx, ws, a1, a2, a3⟩ := h2
    exact ⟨dx, ws, a1, k _ _ a2 rfl, fun p m => by
      obtain ⟨v, b1, b2, b3⟩ := a3 p m
      exact ⟨v, b1, b2, dat_atom b2 b3⟩⟩
end
/-- shapes of lists, and lists of lists -/
noncomputable def Sh.listy : Sh → Bool
  | .d bw => !bw
  | .l e => e.listy
  | _ => false
section
variable {K : PySem.W.Frag} {F H : Hp}
mutual
theorem Own.lf : ∀ {sh : Sh} {v : V} {d : D} {S : List Addr}, sh.listy = true → Own K F H sh v d S → (∀ a ∈ S, F a = none) → Dat K (PD.lf F H) v d
  | _, _, _, _, _, .d (bw := false) h, _ => h.mono lf_same.sm
  | _, _, _, _, n, .d (bw := true) _, _ => nomatch n
  | _, _, _, _, n, .l h r, k => .lst (lf_l (k _ List.mem_cons_self) h) (OwnL.lf (by exact n) r fun a m => k a (List.mem_cons_of_mem _ m))
  | _, _, _, _, n, .na _ _, _ => nomatch n
  | _, _, _, _, n, .nl _ _, _ => nomatch n
  | _, _, _, _, n, .nt _ _, _ => nomatch n
  | _, _, _, _, n, .i _ _ _ _, _ => nomatch n
  | _, _, _, _, n, .q _ _ _, _ => nomatch n
  | _, _, _, _, n, .qt _ _ _, _ => nomatch n
theorem OwnL.lf : ∀ {sh : Sh} {vs : List V} {ds : List D} {S : List Addr}, sh.listy = true → OwnL K F H sh vs ds S → (∀ a ∈ S, F a = none) → DatL K (PD.lf F H) vs ds
  | _, _, _, _, _, .nil, _ => .nil
  | _, _, _, _, n, .cons h r, k => .cons (Own.lf n h fun a m => k a (List.mem_append_left _ m)) (OwnL.lf n r fun a m => k a (List.mem_append_right _ m))
end
end
section
variable {X : Cx} {L : LE} {fl : List Sh} {W : WX} {pos : Pos}
noncomputable def mCallL (n : Nat) (m : List D → R D) (fs : Env → R (List D)) : Env → R D := fun ρ => fs ρ >>= fun ds => if ds.length = n then m ds >>= gNoL else .stuck
theorem lf_bs {F1 B1 H1 : Hp} (b : Bs L F1 B1 H1) : Bs L (lf F1 H1) (offH (lf F1 H1) H1) H1 := ⟨lf_to b.fh, fun a o h => (offH_of h).2.1, fun a o h => (offH_of h).1, lf_nt b.nf, fun a o h => (offH_of h).2.2, b.tab⟩
noncomputable def mMakeL (c : Str) (ks : List Str) (n : Nat) (mi : List D → R (List D)) (fs : Env → R (List D)) : Env → R D := fun ρ => fs ρ >>= fun ds => if ds.length = n then (mi ds >>= fun vs => .ok (.obj c ks vs)) >>= gNoL else .stuck
end
end PD
set_option Elab.async false
set_option linter.all false
set_option maxRecDepth 100000
set_option maxHeartbeats 4000000
/-! # what is not reached; tables of methods; walks over lists and tuples; enumerate; isinstance of an own class -/
namespace PD
open PySem PySem.Spec PyProof.Rows L2
section
variable {X : Cx} {L : LE} {J : Jn} {fl fl1 fl' : List Sh} {W : WX} {pos : Pos}
theorem i_seq {tg e : Expr} {f : Env → R D} {g : D → Option (List D)} (he : PE X e (tD L fl .s W f)) (hg : ∀ d xs, g d = some xs → gL d = some xs ∨ gT d = some xs ∨ gS d = some xs) (hK : X.K = L.K := by rfl) : PI X tg e (tI L fl W (iOf g f)) := ⟨fun pins s σ H Q I h => by
  obtain ⟨F, B, ρ, r, p⟩ := h
  cases q : f ρ with
  | stuck => unfold iOf at p; rw [q] at p; exact p.elim
  | err c fs => exact (i_list he hK).run pins s σ H Q I ⟨F, B, ρ, r, by unfold iOf at p ⊢; rw [q] at p ⊢; exact p⟩
  | ok d =>
    cases qg : g d with
    | none => unfold iOf at p; rw [q, bind_ok, qg] at p; exact p.elim
    | some xs =>
      have p' : PostI L F H (.ok xs) W σ Q := by unfold iOf at p; rw [q, bind_ok, qg] at p; exact p
      rcases hg d xs qg with z | z | z
      · exact (i_list he hK).run pins s σ H Q I ⟨F, B, ρ, r, by unfold iOf; rw [q, bind_ok, z]; exact p'⟩
      · exact (i_tup he hK).run pins s σ H Q I ⟨F, B, ρ, r, by unfold iOf; rw [q, bind_ok, z]; exact p'⟩
      · exact (i_str he).run pins s σ H Q I ⟨F, B, ρ, r, by unfold iOf; rw [q, bind_ok, z]; exact p'⟩⟩
end
/-- a list, a tuple or a text walked -/
noncomputable def gSq : D → Option (List D)
  | .lst xs => some xs
  | .tup xs => some xs
  | .scr ns => some (ns.map .int)
  | .str s => some (s.map fun c => .str [c])
  | _ => none
theorem gSq_ok : ∀ d xs, gSq d = some xs → gL d = some xs ∨ gT d = some xs ∨ gS d = some xs := fun d xs h => by
  cases d with
  | lst ys => exact .inl h
  | tup ys => exact .inr (.inl h)
  | scr ns => exact .inl h
  | str s => exact .inr (.inr h)
  | _ => cases h
section
variable {P : Program} {w : World} {K : PySem.W.Frag} {mg : Str → Option Value} {base : Heap} {L : LE} {m : Str} {n : Nat} {rs : Sh}
theorem MCal.mono {c : Str} {j k : Nat} {mt : List D → R D} (h : MCal P w K mg base L c m j rs n mt) (hk : j ≤ k) : MCal P w K mg base L c m k rs n mt := ⟨fun C hC => by
  obtain ⟨f, fd, ps, a, b, G, d⟩ := h.ex C hC
  exact ⟨f, fd, ps, a, b, G.mono hk, d⟩⟩
theorem tab_nil {k : Nat} : ∀ c mt, ([] : List (Str × (List D → R D))).lookup c = some mt → MCal P w K mg base L c m k rs n mt := fun c mt h => (nomatch h)
theorem tab_cons {c : Str} {j k : Nat} {mt : List D → R D} {tab : List (Str × (List D → R D))} (h : MCal P w K mg base L c m j rs n mt) (r : ∀ c' mt', tab.lookup c' = some mt' → MCal P w K mg base L c' m k rs n mt') (hk : j ≤ k := by decide) :
    ∀ c' mt', ((c, mt) :: tab).lookup c' = some mt' → MCal P w K mg base L c' m k rs n mt' := fun c' mt' q => by
  rw [List.lookup_cons] at q
  cases e : c' == c with
  | true =>
    rw [e] at q
    cases q
    have : c' = c := by simpa using e
    subst this
    exact h.mono hk
  | false => rw [e] at q; exact r c' mt' q
theorem mkC_mk {c : Str} {ks : List Str} {mi : List D → R (List D)} {k : Nat} {x f : Addr} {fd : FuncData} {ps : List Str} (a : PySem.W.nsIn K mainGlobals c = some (some (.ref x))) (g : mg c = some (.ref x)) (h1 : PySem.W.makesIn K x = true) (h2 : PySem.W.findIn K (.ref x) "__init__" = some (some (.ref f)))
    (h3 : PySem.W.isFn K (.ref f) = true) (h4 : PySem.W.keepIn K (.ref x) = true) (G : FnOk P w K mg base (L2.CX P w) k f fd ps (spI L c ks n mi)) (b : Binds K fd ps []) : MkC P w K mg base L c k ks n mi := ⟨x, f, fd, ps, a, g, ⟨h1, h2, h3, h4⟩, G, b⟩
end
/-! ### enumerate(list) -/
section
variable {X : Cx} {L : LE} {fl : List Sh} {W : WX} {pos : Pos}
/-! ### isinstance(e, C) of an instance of C -/
noncomputable def dIsC (c : Str) : D → Option D
  | .obj c' _ _ => if c' = c then some (.bl true) else none
  | _ => none
/-- what isinstance of the class asks -/
structure IsC (K : PySem.W.Frag) (mg : Str → Option Value) (c : Str) : Prop where
  ex : ∃ C, PySem.W.nsIn K mainGlobals c = some (some (.ref C)) ∧ mg c = some (.ref C) ∧ C8.InsC K C
end
end PD
namespace PD
open PySem PySem.Spec PyProof.Rows L2
theorem fld_nil {K : PySem.W.Frag} {f : Str} : ∀ c ∈ ([] : List Str), FldC K c f := fun c h => (nomatch h)
theorem fld_cons {K : PySem.W.Frag} {f c : Str} {cs : List Str} (h : FldC K c f) (r : ∀ c ∈ cs, FldC K c f) : ∀ c' ∈ c :: cs, FldC K c' f := fun c' m => by
  rcases List.mem_cons.mp m with e | m
  · subst e; exact h
  · exact r c' m
theorem nl_nil {K : PySem.W.Frag} {L : LE} {x : Str} : ∀ c ∈ ([] : List Str), PySem.W.exmOne K (.ref (L.ca c)) (.ref (L.ca x)) = some false := fun c h => (nomatch h)
theorem nl_cons {K : PySem.W.Frag} {L : LE} {x c : Str} {cs : List Str} (h : PySem.W.exmOne K (.ref (L.ca c)) (.ref (L.ca x)) = some false) (r : ∀ c ∈ cs, PySem.W.exmOne K (.ref (L.ca c)) (.ref (L.ca x)) = some false) : ∀ c' ∈ c :: cs, PySem.W.exmOne K (.ref (L.ca c')) (.ref (L.ca x)) = some false := fun c' m => by
  rcases List.mem_cons.mp m with e | m
  · subst e; exact h
  · exact r c' m
end PD
set_option Elab.async false
set_option linter.all false
set_option maxRecDepth 100000
set_option maxHeartbeats 2000000
/-! # dicts of one's own, with shared values; read where they are shared -/
namespace PD
open PySem PySem.Spec PyProof.Rows L2
section
variable {L : LE} {fl : List Sh} {F B H : Hp} {σ : L2.St} {ρ : Env}
end
noncomputable def keyOf : D → Option DKey
  | .int i => some (.i i)
  | .str s => some (.s s)
  | _ => none
section
variable {κ κ' : Type} [DecidableEq κ] [DecidableEq κ'] {K : PySem.W.Frag} {F : Hp} {f : κ → κ'}
noncomputable def dgetV (ks : List κ) (vs : List D) (k : κ) : Option D := ((ks.zip vs).find? fun kv => decide (kv.1 = k)).map (·.2)
/-- the values behind d[k] = v, and the keys -/
noncomputable def dputV (ks : List κ) (vs : List D) (k : κ) (v : D) : List D := if k ∈ ks then (ks.zip vs).map (fun kv => if kv.1 = k then v else kv.2) else vs ++ [v]
noncomputable def dputK (ks : List κ) (k : κ) : List κ := if k ∈ ks then ks else ks ++ [k]
end
/-! ### mirrors -/
noncomputable def getQ (ρ : Env) (i : Nat) : Option (List DKey × List D) := match ρ[i]? with
  | some (some (.dic ks vs)) => some (ks, vs)
  | _ => none
theorem getQ_some {ρ : Env} {i : Nat} {ks : List DKey} {vs : List D} (h : getQ ρ i = some (ks, vs)) : ρ[i]? = some (some (.dic ks vs)) := by
  unfold getQ at h
  split at h
  · rename_i ks' vs' e; cases h; exact e
  · cases h
noncomputable def sDPut (i : Nat) (fk fv : Env → R D) : Env → R Fl := fun ρ => liftE (fv ρ) ρ fun v => match getQ ρ i with
  | some (ks, vs) => liftE (fk ρ) ρ fun k => match keyOf k with
    | some kk => if ks.length < LN then .ok (.nx (ρ.set i (some (.dic (dputK ks kk) (dputV ks vs kk v))))) else .stuck
    | none => .stuck
  | none => .stuck
/-- d[k], there; d.get(k, z); k in d, of a slot's own dict -/
noncomputable def mDGet (i : Nat) (fk : Env → R D) : Env → R D := fun ρ => match getQ ρ i with
  | some (ks, vs) => fk ρ >>= fun k => match keyOf k with
    | some kk => oR (dgetV ks vs kk)
    | none => .stuck
  | none => .stuck
section
variable {X : Cx} {L : LE} {J : Jn} {fl fl1 fl' : List Sh} {W : WX} {pos : Pos}
/-- what a slot's dict holds -/
theorem Rep.dict {F B H : Hp} {σ : L2.St} {ρ : Env} {i : Nat} {ks : List DKey} {vs : List D} (r : Rep L fl F B σ H ρ) (h : getQ ρ i = some (ks, vs)) (hs : fl[i]? = some .q) : ∃ p us, σ[i]? = some (some (.ref p)) ∧ H p = some (.dK ((ks.map DKey.k).zip us)) ∧ ks.length = us.length ∧ DatL L.K F us vs := by
  obtain ⟨Ss, h1, _⟩ := r.sl
  obtain ⟨v, sh, a1, a2, _, a4⟩ := h1 i _ (getQ_some h)
  rw [hs] at a2
  cases a2
  generalize Ss i = S at a4
  cases a4 with
  | q b1 b2 b3 => exact ⟨_, _, a1, b1, b2, b3⟩
end
end PD
set_option Elab.async false
set_option linter.all false
set_option maxRecDepth 100000
set_option maxHeartbeats 1000000
/-! # text[::-1] -/
namespace L2
open PySem PySem.Spec PyProof.Rows
variable {X : Cx}
end L2
namespace PD
open PySem PySem.Spec PyProof.Rows L2
noncomputable def dRevS : D → Option D
  | .str s => if s.length ≤ LN then some (.str s.reverse) else none
  | _ => none
section
variable {X : Cx} {L : LE} {fl : List Sh} {W : WX} {pos : Pos}
end
end PD
set_option linter.all false
set_option maxRecDepth 100000
namespace PD
open PySem PyProof.Rows L2
/-! # Running mirrors by simp -/
section
variable {α : Type} {ρ ρ' : Env} {d x y z : D} {i j : Nat}
@[simp] theorem oR_some {a : α} : oR (some a) = .ok a := Eq.trans rfl rfl
@[simp] theorem oR_none : (oR (none : Option α)) = .stuck := Eq.trans rfl rfl
@[simp] theorem okb {β : Type} {a : α} {k : α → R β} : ((R.ok a : R α) >>= k) = k a := Eq.trans rfl rfl
@[simp] theorem mV_0 : mV 0 (some d :: ρ) = .ok d := Eq.trans rfl rfl
@[simp] theorem mV_s {o : Option D} : mV (i + 1) (o :: ρ) = mV i ρ := by unfold mV; rw [List.getElem?_cons_succ]
@[simp] theorem mC_eq : mC d ρ = .ok d := Eq.trans rfl rfl
noncomputable def k1 (g : D → Option D) : R D → R D := fun r => r >>= fun x => oR (g x)
@[simp] theorem k1_ok {g : D → Option D} : k1 g (.ok x) = oR (g x) := Eq.trans rfl rfl
@[simp] theorem m1_eq {g : D → Option D} {f : Env → R D} : m1 g f ρ = k1 g (f ρ) := Eq.trans rfl rfl
noncomputable def k2 (g : D → D → Option D) : R D → R D → R D := fun r s => r >>= fun x => s >>= fun y => oR (g x y)
@[simp] theorem k2_ok {g : D → D → Option D} : k2 g (.ok x) (.ok y) = oR (g x y) := Eq.trans rfl rfl
@[simp] theorem m2_eq {g : D → D → Option D} {f h : Env → R D} : m2 g f h ρ = k2 g (f ρ) (h ρ) := Eq.trans rfl rfl
noncomputable def kN {β : Type} (g : List D → Option β) : R (List D) → R β := fun r => r >>= fun x => oR (g x)
@[simp] theorem kN_ok {β : Type} {g : List D → Option β} {xs : List D} : kN g (.ok xs) = oR (g xs) := Eq.trans rfl rfl
@[simp] theorem mN_eq {g : List D → Option D} {f : Env → R (List D)} : mN g f ρ = kN g (f ρ) := Eq.trans rfl rfl
@[simp] theorem iArgs_eq {g : List D → Option (List D)} {f : Env → R (List D)} : iArgs g f ρ = kN g (f ρ) := Eq.trans rfl rfl
noncomputable def kO {β : Type} (g : D → Option β) : R D → R β := fun r => r >>= fun x => oR (g x)
@[simp] theorem kO_ok {β : Type} {g : D → Option β} : kO g (.ok x) = oR (g x) := Eq.trans rfl rfl
@[simp] theorem iOf_eq {g : D → Option (List D)} {f : Env → R D} : iOf g f ρ = kO g (f ρ) := Eq.trans rfl rfl
@[simp] theorem mB_eq {f : Env → R D} : mB f ρ = kO dBool (f ρ) := Eq.trans rfl rfl
@[simp] theorem mTru_eq {f : Env → R D} : mTru f ρ = kO dTru (f ρ) := Eq.trans rfl rfl
@[simp] theorem mSo_eq {f : Env → R D} : mSo f ρ = kO dInt? (f ρ) := Eq.trans rfl rfl
@[simp] theorem mNo_eq : mNo ρ = .ok none := Eq.trans rfl rfl
@[simp] theorem mNil_eq : mNil ρ = .ok [] := Eq.trans rfl rfl
noncomputable def kC : R D → R (List D) → R (List D) := fun r s => r >>= fun x => s >>= fun xs => .ok (x :: xs)
@[simp] theorem kC_ok {xs : List D} : kC (.ok x) (.ok xs) = .ok (x :: xs) := Eq.trans rfl rfl
@[simp] theorem mCons_eq {f : Env → R D} {g : Env → R (List D)} : mCons f g ρ = kC (f ρ) (g ρ) := Eq.trans rfl rfl
@[simp] theorem dBool_bl {b : Bool} : dBool (.bl b) = some b := Eq.trans rfl rfl
@[simp] theorem dInt?_int {a : Int} : dInt? (.int a) = some (some a) := Eq.trans rfl rfl
/-- a test's two ways -/
noncomputable def kIf {β : Type} (f g : Env → R β) (ρ : Env) : R Bool → R β := fun r => r >>= fun b => if b = true then f ρ else g ρ
@[simp] theorem kIf_t {β : Type} {f g : Env → R β} : kIf f g ρ (.ok true) = f ρ := Eq.trans rfl rfl
@[simp] theorem kIf_f {β : Type} {f g : Env → R β} : kIf f g ρ (.ok false) = g ρ := Eq.trans rfl rfl
@[simp] theorem mIf_eq {c : Env → R Bool} {f g : Env → R D} : mIf c f g ρ = kIf f g ρ (c ρ) := Eq.trans rfl rfl
noncomputable def kAnd (g : Env → R Bool) (ρ : Env) : R Bool → R Bool := fun r => r >>= fun b => if b = true then g ρ else .ok false
@[simp] theorem kAnd_t {g : Env → R Bool} : kAnd g ρ (.ok true) = g ρ := Eq.trans rfl rfl
@[simp] theorem kAnd_f {g : Env → R Bool} : kAnd g ρ (.ok false) = .ok false := Eq.trans rfl rfl
@[simp] theorem mAnd_eq {f g : Env → R Bool} : mAnd f g ρ = kAnd g ρ (f ρ) := Eq.trans rfl rfl
noncomputable def kOr (g : Env → R Bool) (ρ : Env) : R Bool → R Bool := fun r => r >>= fun b => if b = true then .ok true else g ρ
@[simp] theorem kOr_t {g : Env → R Bool} : kOr g ρ (.ok true) = .ok true := Eq.trans rfl rfl
@[simp] theorem kOr_f {g : Env → R Bool} : kOr g ρ (.ok false) = g ρ := Eq.trans rfl rfl
@[simp] theorem mOr_eq {f g : Env → R Bool} : mOr f g ρ = kOr g ρ (f ρ) := Eq.trans rfl rfl
noncomputable def kNot : R Bool → R Bool := fun r => r >>= fun b => .ok (!b)
@[simp] theorem kNot_ok {b : Bool} : kNot (.ok b) = .ok (!b) := Eq.trans rfl rfl
@[simp] theorem mNot_eq {f : Env → R Bool} : mNot f ρ = kNot (f ρ) := Eq.trans rfl rfl
noncomputable def kAndV (g : Env → R D) (ρ : Env) : R D → R D := fun r => r >>= fun d => oR (dBool d) >>= fun b => if b = true then g ρ else .ok (.bl false)
@[simp] theorem kAndV_t {g : Env → R D} : kAndV g ρ (.ok (.bl true)) = g ρ := Eq.trans rfl rfl
@[simp] theorem kAndV_f {g : Env → R D} : kAndV g ρ (.ok (.bl false)) = .ok (.bl false) := Eq.trans rfl rfl
@[simp] theorem mAndV_eq {f g : Env → R D} : mAndV f g ρ = kAndV g ρ (f ρ) := Eq.trans rfl rfl
noncomputable def kOrV (g : Env → R D) (ρ : Env) : R D → R D := fun r => r >>= fun d => oR (dBool d) >>= fun b => if b = true then .ok (.bl true) else g ρ
@[simp] theorem kOrV_t {g : Env → R D} : kOrV g ρ (.ok (.bl true)) = .ok (.bl true) := Eq.trans rfl rfl
@[simp] theorem kOrV_f {g : Env → R D} : kOrV g ρ (.ok (.bl false)) = g ρ := Eq.trans rfl rfl
@[simp] theorem mOrV_eq {f g : Env → R D} : mOrV f g ρ = kOrV g ρ (f ρ) := Eq.trans rfl rfl
noncomputable def kCh (g' : D → D → Option D) (c : Env → R D) (ρ : Env) (y : D) : Option D → R D := fun o => oR o >>= fun z => oR (dBool z) >>= fun k => if k = true then c ρ >>= fun u => oR (g' y u) else .ok (.bl false)
noncomputable def kCh0 (g g' : D → D → Option D) (c : Env → R D) (ρ : Env) : R D → R D → R D := fun a b => a >>= fun x => b >>= fun y => kCh g' c ρ y (g x y)
@[simp] theorem kCh0_ok {g g' : D → D → Option D} {c : Env → R D} : kCh0 g g' c ρ (.ok x) (.ok y) = kCh g' c ρ y (g x y) := Eq.trans rfl rfl
@[simp] theorem kCh_t {g' : D → D → Option D} {c : Env → R D} : kCh g' c ρ y (some (.bl true)) = k2 g' (.ok y) (c ρ) := Eq.trans rfl rfl
@[simp] theorem kCh_f {g' : D → D → Option D} {c : Env → R D} : kCh g' c ρ y (some (.bl false)) = .ok (.bl false) := Eq.trans rfl rfl
@[simp] theorem mChain_eq {g g' : D → D → Option D} {a b c : Env → R D} : mChain g g' a b c ρ = kCh0 g g' c ρ (a ρ) (b ρ) := Eq.trans rfl rfl
noncomputable def kAt : R D → R D := fun r => r >>= fun d => if isAtom d = true then .ok d else .stuck
@[simp] theorem kAt_ok : kAt (.ok d) = if isAtom d = true then .ok d else .stuck := Eq.trans rfl rfl
@[simp] theorem mAt_eq {f : Env → R D} : mAt f ρ = kAt (f ρ) := Eq.trans rfl rfl
noncomputable def kSl (g : D → Option Int → Option Int → Option D) : R D → R (Option Int) → R (Option Int) → R D := fun a l h => a >>= fun x => l >>= fun l => h >>= fun h => oR (g x l h)
@[simp] theorem kSl_ok {g : D → Option Int → Option Int → Option D} {l h : Option Int} : kSl g (.ok x) (.ok l) (.ok h) = oR (g x l h) := Eq.trans rfl rfl
@[simp] theorem mSl_eq {g : D → Option Int → Option Int → Option D} {f : Env → R D} {l h : Env → R (Option Int)} : mSl g f l h ρ = kSl g (f ρ) (l ρ) (h ρ) := Eq.trans rfl rfl
noncomputable def kM (g : List Nat → List D → Option D) : R D → R (List D) → R D := fun a r => a >>= fun o => match o with
  | .str s => r >>= fun xs => oR (g s xs)
  | _ => .stuck
@[simp] theorem kM_ok {g : List Nat → List D → Option D} {s : List Nat} {xs : List D} : kM g (.ok (.str s)) (.ok xs) = oR (g s xs) := Eq.trans rfl rfl
@[simp] theorem mM_eq {g : List Nat → List D → Option D} {f : Env → R D} {fs : Env → R (List D)} : mM g f fs ρ = kM g (f ρ) (fs ρ) := Eq.trans rfl rfl
noncomputable def kCl (n : Nat) (m : List D → R D) : R (List D) → R D := fun r => r >>= fun ds => if ds.length = n then m ds else .stuck
@[simp] theorem kCl1 {m : List D → R D} : kCl 1 m (.ok [x]) = m [x] := Eq.trans rfl rfl
@[simp] theorem kCl2 {m : List D → R D} : kCl 2 m (.ok [x, y]) = m [x, y] := Eq.trans rfl rfl
@[simp] theorem kCl3 {m : List D → R D} : kCl 3 m (.ok [x, y, z]) = m [x, y, z] := Eq.trans rfl rfl
@[simp] theorem kCl4 {m : List D → R D} : kCl 4 m (.ok [x, y, z, d]) = m [x, y, z, d] := Eq.trans rfl rfl
@[simp] theorem mCall_eq {n : Nat} {m : List D → R D} {f : Env → R (List D)} : mCall n m f ρ = kCl n m (f ρ) := Eq.trans rfl rfl
@[simp] theorem noF_ok {α : Type} {a : α} : noF (.ok a) = .ok a := Eq.trans rfl rfl
@[simp] theorem noF_err {α : Type} {c : PySem.Str} : noF (.err c [] : R α) = .err c [] := Eq.trans rfl rfl
noncomputable def kClA (n : Nat) (m : List D → R D) : R (List D) → R D := fun r => r >>= fun ds => if ds.length = n then noF (m ds) >>= fun d => if isAtom d = true then .ok d else .stuck else .stuck
@[simp] theorem kClA_ok {n : Nat} {m : List D → R D} {ds : List D} : kClA n m (.ok ds) = kAt (noF (kCl n m (.ok ds))) := by
  show (if ds.length = n then _ else _) = kAt (noF (if ds.length = n then m ds else .stuck))
  by_cases h : ds.length = n
  · rw [if_pos h, if_pos h]; rfl
  · rw [if_neg h, if_neg h]; rfl
@[simp] theorem mCallA_eq {n : Nat} {m : List D → R D} {f : Env → R (List D)} : mCallA n m f ρ = kClA n m (f ρ) := Eq.trans rfl rfl
noncomputable def kClL (n : Nat) (m : List D → R D) : R (List D) → R D := fun r => r >>= fun ds => if ds.length = n then m ds >>= gNoL else .stuck
noncomputable def kG : R D → R D := fun r => r >>= gNoL
@[simp] theorem kG_ok : kG (.ok d) = gNoL d := Eq.trans rfl rfl
@[simp] theorem kG_err {c : PySem.Str} {fs : List (PySem.Str × D)} : kG (.err c fs) = .err c fs := Eq.trans rfl rfl
@[simp] theorem kClL_ok {n : Nat} {m : List D → R D} {ds : List D} : kClL n m (.ok ds) = kG (kCl n m (.ok ds)) := by
  show (if ds.length = n then _ else _) = kG (if ds.length = n then m ds else .stuck)
  by_cases h : ds.length = n
  · rw [if_pos h, if_pos h]; rfl
  · rw [if_neg h, if_neg h]; rfl
@[simp] theorem mCallL_eq {n : Nat} {m : List D → R D} {f : Env → R (List D)} : mCallL n m f ρ = kClL n m (f ρ) := Eq.trans rfl rfl
/-! objects -/
noncomputable def kMk (c : PySem.Str) (ks : List PySem.Str) (n : Nat) (mi : List D → R (List D)) : R (List D) → R D := fun r => r >>= fun ds => if ds.length = n then mi ds >>= fun vs => .ok (.obj c ks vs) else .stuck
noncomputable def kOb (c : PySem.Str) (ks : List PySem.Str) : R (List D) → R D := fun r => r >>= fun vs => .ok (.obj c ks vs)
@[simp] theorem kOb_ok {c : PySem.Str} {ks : List PySem.Str} {vs : List D} : kOb c ks (.ok vs) = .ok (.obj c ks vs) := Eq.trans rfl rfl
@[simp] theorem kOb_err {c c' : PySem.Str} {ks : List PySem.Str} {fs : List (PySem.Str × D)} : kOb c ks (.err c' fs) = .err c' fs := Eq.trans rfl rfl
@[simp] theorem kMk_ok1 {c : PySem.Str} {ks : List PySem.Str} {mi : List D → R (List D)} : kMk c ks 1 mi (.ok [d]) = kOb c ks (mi [d]) := Eq.trans rfl rfl
@[simp] theorem kMk_ok2 {c : PySem.Str} {ks : List PySem.Str} {mi : List D → R (List D)} : kMk c ks 2 mi (.ok [d, x]) = kOb c ks (mi [d, x]) := Eq.trans rfl rfl
@[simp] theorem mMake_eq {c : PySem.Str} {ks : List PySem.Str} {n : Nat} {mi : List D → R (List D)} {fs : Env → R (List D)} : mMake c ks n mi fs ρ = kMk c ks n mi (fs ρ) := Eq.trans rfl rfl
noncomputable def kMkL (c : PySem.Str) (ks : List PySem.Str) (n : Nat) (mi : List D → R (List D)) : R (List D) → R D := fun r => r >>= fun ds => if ds.length = n then (mi ds >>= fun vs => .ok (.obj c ks vs)) >>= gNoL else .stuck
@[simp] theorem kMkL_ok1 {c : PySem.Str} {ks : List PySem.Str} {mi : List D → R (List D)} : kMkL c ks 1 mi (.ok [d]) = kG (kOb c ks (mi [d])) := Eq.trans rfl rfl
@[simp] theorem kMkL_ok2 {c : PySem.Str} {ks : List PySem.Str} {mi : List D → R (List D)} : kMkL c ks 2 mi (.ok [d, x]) = kG (kOb c ks (mi [d, x])) := Eq.trans rfl rfl
@[simp] theorem mMakeL_eq {c : PySem.Str} {ks : List PySem.Str} {n : Nat} {mi : List D → R (List D)} {fs : Env → R (List D)} : mMakeL c ks n mi fs ρ = kMkL c ks n mi (fs ρ) := Eq.trans rfl rfl
noncomputable def kMt (tab : List (PySem.Str × (List D → R D))) (m : PySem.Str) (n : Nat) : R D → R (List D) → R D := fun r s => r >>= fun o => match o with
  | .obj c ks vs => match tab.lookup c with
    | some mt => if ks.contains m = true then .stuck else s >>= fun ds => if ds.length = n then mt (.obj c ks vs :: ds) else .stuck
    | none => .stuck
  | _ => .stuck
@[simp] theorem mMeth_eq {tab : List (PySem.Str × (List D → R D))} {m : PySem.Str} {n : Nat} {fo : Env → R D} {fs : Env → R (List D)} : mMeth tab m n fo fs ρ = kMt tab m n (fo ρ) (fs ρ) := Eq.trans rfl rfl
noncomputable def kM0 (tab : List (PySem.Str × (List D → R D))) (m : PySem.Str) : R D → R D := fun r => r >>= fun o => match o with
  | .obj c ks vs => match tab.lookup c with
    | some mt => if ks.contains m = true then .stuck else mt [.obj c ks vs]
    | none => .stuck
  | _ => .stuck
@[simp] theorem mMeth0_eq {tab : List (PySem.Str × (List D → R D))} {m : PySem.Str} {fo : Env → R D} : mMeth0 tab m fo ρ = kM0 tab m (fo ρ) := Eq.trans rfl rfl
theorem dFld_ok {cs : List PySem.Str} {f c : PySem.Str} {ks : List PySem.Str} {vs : List D} (h : c ∈ cs) (h2 : (ks.zip vs).lookup f = some d) : dFld cs f (.obj c ks vs) = some d := by
  show (if c ∈ cs then _ else _) = _
  rw [if_pos h, h2]
@[simp] theorem gSq_l {xs : List D} : gSq (.lst xs) = some xs := Eq.trans rfl rfl
@[simp] theorem gSq_t {xs : List D} : gSq (.tup xs) = some xs := Eq.trans rfl rfl
@[simp] theorem gSq_s {s : List Nat} : gSq (.str s) = some (s.map fun c => .str [c]) := Eq.trans rfl rfl
@[simp] theorem gEn_l {xs : List D} {c : Int} : gEn c (.lst xs) = some (enumL c xs) := Eq.trans rfl rfl
@[simp] theorem dIsC_o {c : PySem.Str} {ks : List PySem.Str} {vs : List D} : dIsC c (.obj c ks vs) = some (.bl true) := if_pos rfl
/-! statements -/
noncomputable def kS (g : Env → R Fl) : R Fl → R Fl := fun r => r >>= fun r => match r with
  | .nx ρ' => g ρ'
  | r => .ok r
@[simp] theorem kS_nx {g : Env → R Fl} : kS g (.ok (.nx ρ)) = g ρ := Eq.trans rfl rfl
@[simp] theorem kS_rt {g : Env → R Fl} : kS g (.ok (.rt d)) = .ok (.rt d) := Eq.trans rfl rfl
@[simp] theorem kS_bk {g : Env → R Fl} : kS g (.ok (.bk ρ)) = .ok (.bk ρ) := Eq.trans rfl rfl
@[simp] theorem kS_ct {g : Env → R Fl} : kS g (.ok (.ct ρ)) = .ok (.ct ρ) := Eq.trans rfl rfl
@[simp] theorem kS_ex {g : Env → R Fl} {c : PySem.Str} {fs : List (PySem.Str × D)} : kS g (.ok (.ex c fs ρ)) = .ok (.ex c fs ρ) := Eq.trans rfl rfl
@[simp] theorem sSeq_eq {f g : Env → R Fl} : sSeq f g ρ = kS g (f ρ) := Eq.trans rfl rfl
@[simp] theorem sNx_eq : sNx ρ = .ok (.nx ρ) := Eq.trans rfl rfl
@[simp] theorem sBk_eq : sBk ρ = .ok (.bk ρ) := Eq.trans rfl rfl
@[simp] theorem sCt_eq : sCt ρ = .ok (.ct ρ) := Eq.trans rfl rfl
@[simp] theorem sRaise_eq {c : PySem.Str} : sRaise c ρ = .ok (.ex c [] ρ) := Eq.trans rfl rfl
@[simp] theorem sRetN_eq : sRetN ρ = .ok (.rt .non) := Eq.trans rfl rfl
noncomputable def kSet (i : Nat) (ρ : Env) : R D → R Fl := fun r => liftE r ρ fun d => .ok (.nx (ρ.set i (some d)))
@[simp] theorem kSet_ok : kSet i ρ (.ok d) = .ok (.nx (ρ.set i (some d))) := Eq.trans rfl rfl
@[simp] theorem kSet_err {c : PySem.Str} {fs : List (PySem.Str × D)} : kSet i ρ (.err c fs) = .ok (.ex c fs ρ) := Eq.trans rfl rfl
@[simp] theorem sSet_eq {f : Env → R D} : sSet i f ρ = kSet i ρ (f ρ) := Eq.trans rfl rfl
noncomputable def kDrop (ρ : Env) : R D → R Fl := fun r => liftE r ρ fun _ => .ok (.nx ρ)
@[simp] theorem kDrop_ok : kDrop ρ (.ok d) = .ok (.nx ρ) := Eq.trans rfl rfl
@[simp] theorem kDrop_err {c : PySem.Str} {fs : List (PySem.Str × D)} : kDrop ρ (.err c fs) = .ok (.ex c fs ρ) := Eq.trans rfl rfl
@[simp] theorem sDrop_eq {f : Env → R D} : sDrop f ρ = kDrop ρ (f ρ) := Eq.trans rfl rfl
noncomputable def kRet (ρ : Env) : R D → R Fl := fun r => liftE r ρ fun d => .ok (.rt d)
@[simp] theorem kRet_ok : kRet ρ (.ok d) = .ok (.rt d) := Eq.trans rfl rfl
@[simp] theorem kRet_err {c : PySem.Str} {fs : List (PySem.Str × D)} : kRet ρ (.err c fs) = .ok (.ex c fs ρ) := Eq.trans rfl rfl
@[simp] theorem sRet_eq {f : Env → R D} : sRet f ρ = kRet ρ (f ρ) := Eq.trans rfl rfl
noncomputable def kIfS (f g : Env → R Fl) (ρ : Env) : R Bool → R Fl := fun r => liftE r ρ fun b => if b = true then f ρ else g ρ
@[simp] theorem kIfS_t {f g : Env → R Fl} : kIfS f g ρ (.ok true) = f ρ := Eq.trans rfl rfl
@[simp] theorem kIfS_f {f g : Env → R Fl} : kIfS f g ρ (.ok false) = g ρ := Eq.trans rfl rfl
@[simp] theorem sIf_eq {c : Env → R Bool} {f g : Env → R Fl} : sIf c f g ρ = kIfS f g ρ (c ρ) := Eq.trans rfl rfl
noncomputable def kFor (T : D → Env → Option Env) (b : Env → R Fl) (ρ : Env) : R (List D) → R Fl := fun r => liftE r ρ fun ds => sLoop T b ds ρ
@[simp] theorem kFor_ok {T : D → Env → Option Env} {b : Env → R Fl} {ds : List D} : kFor T b ρ (.ok ds) = sLoop T b ds ρ := Eq.trans rfl rfl
@[simp] theorem sFor_eq {f : Env → R (List D)} {T : D → Env → Option Env} {b : Env → R Fl} : sFor f T b ρ = kFor T b ρ (f ρ) := Eq.trans rfl rfl
@[simp] theorem getL_0 {xs : List D} : getL (some (.lst xs) :: ρ) 0 = some xs := Eq.trans rfl rfl
@[simp] theorem getL_s {o : Option D} : getL (o :: ρ) (i + 1) = getL ρ i := by unfold getL; rw [List.getElem?_cons_succ]
noncomputable def kApp (i : Nat) (ρ : Env) : Option (List D) → R D → R Fl := fun o r => match o with
  | some xs => liftE r ρ fun d => if xs.length < LN then .ok (.nx (ρ.set i (some (.lst (xs ++ [d]))))) else .stuck
  | none => .stuck
@[simp] theorem sApp_eq {f : Env → R D} : sApp i f ρ = kApp i ρ (getL ρ i) (f ρ) := Eq.trans rfl rfl
theorem kApp_ok {xs : List D} (h : xs.length < LN) : kApp i ρ (some xs) (.ok d) = .ok (.nx (ρ.set i (some (.lst (xs ++ [d]))))) := if_pos h
@[simp] theorem gSet_eq : gSet i d ρ = some (ρ.set i (some d)) := Eq.trans rfl rfl
/-! comprehensions -/
noncomputable def kLn : R (List D) → R D := fun r => r >>= fun xs => if xs.length ≤ LN then .ok (.lst xs) else .stuck
theorem kLn_ok {xs : List D} (h : xs.length ≤ LN) : kLn (.ok xs) = .ok (.lst xs) := if_pos h
noncomputable def kLc (T : D → Env → Option Env) (ft : Env → R Bool) (fe : Env → R D) (ρ : Env) : R (List D) → R D := fun r => r >>= fun ds => kLn (lcGo T ft fe ρ ds)
@[simp] theorem kLc_ok {T : D → Env → Option Env} {ft : Env → R Bool} {fe : Env → R D} {ds : List D} : kLc T ft fe ρ (.ok ds) = kLn (lcGo T ft fe ρ ds) := Eq.trans rfl rfl
@[simp] theorem mLc_eq {fi : Env → R (List D)} {vs : List Nat} {T : D → Env → Option Env} {ft : Env → R Bool} {fe : Env → R D} : mLc fi vs T ft fe ρ = kLc T ft fe (wipeD ρ vs) (fi ρ) := Eq.trans rfl rfl
@[simp] theorem wipeD_1 {v : Nat} : wipeD ρ [v] = ρ.set v none := Eq.trans rfl rfl
@[simp] theorem mYes_eq : mYes ρ = .ok true := Eq.trans rfl rfl
theorem lc_step {T : D → Env → Option Env} {ft : Env → R Bool} {fe : Env → R D} {ds ys : List D} (h : T d ρ = some ρ') (h1 : ft ρ' = .ok true) (h2 : fe ρ' = .ok y) (h3 : lcGo T ft fe ρ ds = .ok ys) : lcGo T ft fe ρ (d :: ds) = .ok (y :: ys) := by
  show (match T d ρ with | none => _ | some ρ' => _) = _
  rw [h]; show (nE (ft ρ') >>= _) = _
  rw [h1]; show (nE (fe ρ') >>= _) = _
  rw [h2]; show (lcGo T ft fe ρ ds >>= _) = _
  rw [h3]; rfl
theorem lc_skip {T : D → Env → Option Env} {ft : Env → R Bool} {fe : Env → R D} {ds ys : List D} (h : T d ρ = some ρ') (h1 : ft ρ' = .ok false) (h3 : lcGo T ft fe ρ ds = .ok ys) : lcGo T ft fe ρ (d :: ds) = .ok ys := by
  show (match T d ρ with | none => _ | some ρ' => _) = _
  rw [h]; show (nE (ft ρ') >>= _) = _
  rw [h1]; exact h3
/-- each item gives one -/
theorem lc_all {T : D → Env → Option Env} {ft : Env → R Bool} {fe : Env → R D} {β : Type} (emb : β → D) (P : β → Prop) : ∀ {ds : List D}, (∀ d ∈ ds, ∃ ρ' y, T d ρ = some ρ' ∧ ft ρ' = .ok true ∧ fe ρ' = .ok (emb y) ∧ P y) → ∃ ys : List β, lcGo T ft fe ρ ds = .ok (ys.map emb) ∧ ys.length = ds.length ∧ ∀ y ∈ ys, P y
  | [], _ => ⟨[], rfl, rfl, fun y m => nomatch m⟩
  | d :: ds, h => by
    obtain ⟨ρ', y, a, b, c, p⟩ := h d (List.mem_cons_self ..)
    obtain ⟨ys, e, l, q⟩ := lc_all emb P (ds := ds) fun d' m => h d' (List.mem_cons_of_mem _ m)
    refine ⟨y :: ys, lc_step a b c e, by rw [List.length_cons, List.length_cons, l], fun z m => ?_⟩
    rcases List.mem_cons.mp m with rfl | m
    · exact p
    · exact q z m
/-- filter and map -/
theorem lc_fm {T : D → Env → Option Env} {ft : Env → R Bool} {fe : Env → R D} {β : Type} (emb : β → D) (p : β → Bool) (g : β → D) : ∀ {xs : List β}, (∀ x ∈ xs, ∃ ρ', T (emb x) ρ = some ρ' ∧ ft ρ' = .ok (p x) ∧ (p x = true → fe ρ' = .ok (g x))) → lcGo T ft fe ρ (xs.map emb) = .ok ((xs.filter p).map g)
  | [], _ => rfl
  | x :: xs, h => by
    obtain ⟨ρ', a, b, c⟩ := h x (List.mem_cons_self ..)
    have e := lc_fm emb p g (xs := xs) fun d' m => h d' (List.mem_cons_of_mem _ m)
    rw [List.map_cons]
    cases q : p x with
    | true =>
      rw [List.filter_cons_of_pos q, List.map_cons]
      exact lc_step a (by rw [b, q]) (c q) e
    | false =>
      rw [List.filter_cons_of_neg (by rw [q]; exact Bool.false_ne_true)]
      exact lc_skip a (by rw [b, q]) e
/-- the body of a def -/
noncomputable def kF (fall : Bool) : R Fl → R D := fun r => match r with
  | .ok (.nx _) => if fall = true then .ok .non else .stuck
  | .ok (.rt d) => .ok d
  | .ok (.ex c fs _) => .err c fs
  | _ => .stuck
@[simp] theorem kF_rt {fall : Bool} : kF fall (.ok (.rt d)) = .ok d := Eq.trans rfl rfl
@[simp] theorem kF_nx : kF true (.ok (.nx ρ)) = .ok .non := Eq.trans rfl rfl
@[simp] theorem kF_ex {fall : Bool} {c : PySem.Str} {fs : List (PySem.Str × D)} : kF fall (.ok (.ex c fs ρ)) = .err c fs := Eq.trans rfl rfl
theorem mFn_eq {n : Nat} {fall : Bool} {b : Env → R Fl} {ds : List D} : mFn n fall b ds = kF fall (b (ds.map some ++ List.replicate (n - ds.length) none)) := Eq.trans rfl rfl
/-! loops -/
theorem loop_nx {T : D → Env → Option Env} {b : Env → R Fl} {ds : List D} {ρ1 ρ2 : Env} (h : T d ρ = some ρ1) (hb : b ρ1 = .ok (.nx ρ2)) : sLoop T b (d :: ds) ρ = sLoop T b ds ρ2 := by
  show (match T d ρ with | none => _ | some ρ1 => _) = _
  rw [h]; show (b ρ1 >>= _) = _
  rw [hb]; rfl
theorem loop_rt {T : D → Env → Option Env} {b : Env → R Fl} {ds : List D} {ρ1 : Env} (h : T d ρ = some ρ1) (hb : b ρ1 = .ok (.rt x)) : sLoop T b (d :: ds) ρ = .ok (.rt x) := by
  show (match T d ρ with | none => _ | some ρ1 => _) = _
  rw [h]; show (b ρ1 >>= _) = _
  rw [hb]; rfl
theorem loop_bk {T : D → Env → Option Env} {b : Env → R Fl} {ds : List D} {ρ1 ρ2 : Env} (h : T d ρ = some ρ1) (hb : b ρ1 = .ok (.bk ρ2)) : sLoop T b (d :: ds) ρ = .ok (.nx ρ2) := by
  show (match T d ρ with | none => _ | some ρ1 => _) = _
  rw [h]; show (b ρ1 >>= _) = _
  rw [hb]; rfl
/-- an invariant over a list's items -/
theorem loop_inv {T : D → Env → Option Env} {b : Env → R Fl} (I : Nat → Env → Prop) : ∀ (ds : List D) (k : Nat) (ρ : Env), I k ρ →
    (∀ (j : Nat) (d : D) (ρ : Env), ds[j]? = some d → I (k + j) ρ → ∃ ρ1 ρ2, T d ρ = some ρ1 ∧ b ρ1 = .ok (.nx ρ2) ∧ I (k + j + 1) ρ2) → ∃ ρ', sLoop T b ds ρ = .ok (.nx ρ') ∧ I (k + ds.length) ρ'
  | [], k, ρ, h, _ => ⟨ρ, rfl, h⟩
  | d :: ds, k, ρ, h, hs => by
    obtain ⟨ρ1, ρ2, e1, e2, h2⟩ := hs 0 d ρ rfl h
    obtain ⟨ρ', e3, h3⟩ := loop_inv I ds (k + 1) ρ2 h2 fun j d' ρ' q h' => by
      have := hs (j + 1) d' ρ' (by rw [List.getElem?_cons_succ]; exact q) (by rw [show k + (j + 1) = k + 1 + j by omega]; exact h')
      rw [show k + (j + 1) + 1 = k + 1 + j + 1 by omega] at this
      exact this
    refine ⟨ρ', (loop_nx e1 e2).trans e3, ?_⟩
    rw [List.length_cons, show k + (ds.length + 1) = k + 1 + ds.length by omega]
    exact h3
theorem wh_f {c : Env → R Bool} {b : Env → R Fl} {n : Nat} (h : c ρ = .ok false) : sWh c b (n + 1) ρ = .ok (.nx ρ) := by
  show liftE (c ρ) ρ _ = _
  rw [h]; rfl
theorem wh_t {c : Env → R Bool} {b : Env → R Fl} {n : Nat} (h : c ρ = .ok true) (hb : b ρ = .ok (.nx ρ')) : sWh c b (n + 1) ρ = sWh c b n ρ' := by
  show liftE (c ρ) ρ _ = _
  rw [h]; show (b ρ >>= _) = _
  rw [hb]; rfl
theorem WFe : WF = 10000000 := rfl
theorem sWhile_eq {c : Env → R Bool} {b : Env → R Fl} : sWhile c b ρ = sWh c b WF ρ := Eq.trans rfl rfl
theorem rngL_get {lo : Int} {n j : Nat} {d : D} (h : (rngL lo n)[j]? = some d) : j < n ∧ d = .int (lo + j) := by
  unfold rngL at h
  rw [List.getElem?_map] at h
  cases q : (List.range n)[j]? with
  | none => rw [q] at h; cases h
  | some k =>
    rw [q] at h
    cases h
    obtain ⟨h1, h2⟩ := List.getElem?_eq_some_iff.mp q
    rw [List.length_range] at h1
    rw [List.getElem_range] at h2
    subst h2
    exact ⟨h1, rfl⟩
theorem rngL_ints {lo : Int} {n : Nat} : rngL lo n = ((List.range n).map fun i : Nat => lo + (i : Int)).map D.int := by unfold rngL; rw [List.map_map]; rfl
theorem rngL0 {n : Nat} : rngL 0 n = ((List.range n).map fun i : Nat => (i : Int)).map D.int := by rw [rngL_ints]; simp
@[simp] theorem rngL_length {lo : Int} {n : Nat} : (rngL lo n).length = n := by unfold rngL; rw [List.length_map, List.length_range]
end
/-! operators -/
section
variable {i j : Int} {s t : List Nat} {xs ys : List D}
@[simp] theorem dAdd_i : dAdd (.int i) (.int j) = some (.int (i + j)) := Eq.trans rfl rfl
theorem dAdd_s (h : s.length + t.length ≤ LN) : dAdd (.str s) (.str t) = some (.str (s ++ t)) := if_pos h
theorem dAdd_l (h : xs.length + ys.length ≤ LN) : dAdd (.lst xs) (.lst ys) = some (.lst (xs ++ ys)) := if_pos h
theorem dCat_l (h : xs.length + ys.length ≤ LN) : dCat (.lst xs) (.lst ys) = some (.lst (xs ++ ys)) := if_pos h
@[simp] theorem dSub_i : dSub (.int i) (.int j) = some (.int (i - j)) := Eq.trans rfl rfl
@[simp] theorem dNeg_i : dNeg (.int i) = some (.int (-i)) := Eq.trans rfl rfl
theorem dMul_i (h : i.natAbs.log2 + j.natAbs.log2 < MB) : dMul (.int i) (.int j) = some (.int (i * j)) := if_pos h
theorem dMul_l (h0 : -1000000 ≤ j) (h1 : j ≤ 1000000) (h2 : xs.length * j.toNat ≤ LN) : dMul (.lst xs) (.int j) = some (.lst (List.replicate j.toNat xs).flatten) := if_pos ⟨h0, h1, h2⟩
theorem dMod_i (h : 0 < j) : dMod (.int i) (.int j) = some (.int (i % j)) := if_pos h
theorem dDiv_i (h : 0 < j) (h2 : j.natAbs.log2 < 9000) : dDiv (.int i) (.int j) = some (.int (i / j)) := if_pos ⟨h, h2⟩
theorem dPow_i (h : 0 ≤ j ∧ j ≤ 1000 ∧ i.natAbs < 2 ^ 64) : dPow (.int i) (.int j) = some (.int (i ^ j.toNat)) := if_pos h
@[simp] theorem dLt_i : dLt (.int i) (.int j) = some (.bl (decide (i < j))) := Eq.trans rfl rfl
@[simp] theorem dLe_i : dLe (.int i) (.int j) = some (.bl (decide (i ≤ j))) := Eq.trans rfl rfl
@[simp] theorem dGt_i : dGt (.int i) (.int j) = some (.bl (decide (j < i))) := Eq.trans rfl rfl
@[simp] theorem dGe_i : dGe (.int i) (.int j) = some (.bl (decide (j ≤ i))) := Eq.trans rfl rfl
@[simp] theorem dEq_i : dEq (.int i) (.int j) = some (.bl (i == j)) := Eq.trans rfl rfl
@[simp] theorem dNe_i : dNe (.int i) (.int j) = some (.bl (!(i == j))) := Eq.trans rfl rfl
theorem beq_t {a b : Int} (h : a = b) : (a == b) = true := by rw [h]; exact beq_self_eq_true b
theorem beq_f {a b : Int} (h : ¬ a = b) : (a == b) = false := by simpa using h
@[simp] theorem dEq_s : dEq (.str s) (.str t) = some (.bl (s == t)) := Eq.trans rfl rfl
@[simp] theorem dNe_s : dNe (.str s) (.str t) = some (.bl (!(s == t))) := Eq.trans rfl rfl
@[simp] theorem dEq_b {a b : Bool} : dEq (.bl a) (.bl b) = some (.bl (a == b)) := Eq.trans rfl rfl
@[simp] theorem dNot_b {b : Bool} : dNot (.bl b) = some (.bl (!b)) := Eq.trans rfl rfl
@[simp] theorem dAbs_i : dAbs [.int i] = some (.int (if i < 0 then -i else i)) := Eq.trans rfl rfl
@[simp] theorem dMin2_i : dMin2 [.int i, .int j] = some (.int (if j < i then j else i)) := Eq.trans rfl rfl
@[simp] theorem dMax2_i : dMax2 [.int i, .int j] = some (.int (if j > i then j else i)) := Eq.trans rfl rfl
@[simp] theorem dInt1_i : dInt1 [.int i] = some (.int i) := Eq.trans rfl rfl
@[simp] theorem dInt1_b {k : Bool} : dInt1 [.bl k] = some (.int (if k then 1 else 0)) := Eq.trans rfl rfl
theorem dLen_s (h : s.length ≤ LN) : dLen [.str s] = some (.int s.length) := if_pos h
@[simp] theorem dLen_l : dLen [.lst xs] = some (.int xs.length) := Eq.trans rfl rfl
@[simp] theorem dLen_t : dLen [.tup xs] = some (.int xs.length) := Eq.trans rfl rfl
@[simp] theorem dLen_c {ns : List Int} : dLen [.scr ns] = some (.int ns.length) := Eq.trans rfl rfl
theorem dLst_ok (h : xs.length ≤ LN) : dLst xs = some (.lst xs) := if_pos h
theorem dTup_ok (h : xs.length ≤ LN) : dTup xs = some (.tup xs) := if_pos h
theorem gR1_ok (h : -LR ≤ j) (h2 : j ≤ LR) : gR1 [.int j] = some (rngL 0 j.toNat) := if_pos ⟨h, h2⟩
theorem gR2_ok (h : -LR ≤ i) (h2 : i ≤ LR) (h3 : -LR ≤ j) (h4 : j ≤ LR) : gR2 [.int i, .int j] = some (rngL i (j - i).toNat) := if_pos ⟨⟨h, h2⟩, h3, h4⟩
@[simp] theorem gL_l : gL (.lst xs) = some xs := Eq.trans rfl rfl
@[simp] theorem gT_t : gT (.tup xs) = some xs := Eq.trans rfl rfl
@[simp] theorem gS_s : gS (.str s) = some (s.map fun c => .str [c]) := Eq.trans rfl rfl
@[simp] theorem dSl_l {lo hi : Option Int} : dSl (.lst xs) lo hi = some (.lst (cutG xs lo hi)) := Eq.trans rfl rfl
@[simp] theorem dSlL_l {lo hi : Option Int} : dSlL (.lst xs) lo hi = some (.lst (cutG xs lo hi)) := Eq.trans rfl rfl
theorem dSl_s {lo hi : Option Int} (h : s.length ≤ LN) : dSl (.str s) lo hi = some (.str (cutG s lo hi)) := if_pos h
@[simp] theorem dFind_s : dFind s [.str t] = some (.int (findI s t 0)) := Eq.trans rfl rfl
@[simp] theorem dAllS_s {p : Nat → Bool} : dAllS p (.str s) = some (.bl (s.all p)) := Eq.trans rfl rfl
@[simp] theorem dIsi_non {T : String} : dIsi T .non = some (.bl (isiB T .non)) := Eq.trans rfl rfl
@[simp] theorem dIsi_bl {T : String} {b : Bool} : dIsi T (.bl b) = some (.bl (isiB T (.bl b))) := Eq.trans rfl rfl
@[simp] theorem dIsi_int {T : String} : dIsi T (.int i) = some (.bl (isiB T (.int i))) := Eq.trans rfl rfl
@[simp] theorem dIsi_str {T : String} : dIsi T (.str s) = some (.bl (isiB T (.str s))) := Eq.trans rfl rfl
@[simp] theorem dIsi_lst {T : String} : dIsi T (.lst xs) = some (.bl (isiB T (.lst xs))) := Eq.trans rfl rfl
@[simp] theorem dIsi_tup {T : String} : dIsi T (.tup xs) = some (.bl (isiB T (.tup xs))) := Eq.trans rfl rfl
@[simp] theorem isN_non : dIsN .non .non = some (.bl true) := Eq.trans rfl rfl
@[simp] theorem isN_int : dIsN (.int i) .non = some (.bl false) := Eq.trans rfl rfl
@[simp] theorem isN_str : dIsN (.str s) .non = some (.bl false) := Eq.trans rfl rfl
@[simp] theorem isN_lst : dIsN (.lst xs) .non = some (.bl false) := Eq.trans rfl rfl
@[simp] theorem isN_tup : dIsN (.tup xs) .non = some (.bl false) := Eq.trans rfl rfl
@[simp] theorem isN_bl {b : Bool} : dIsN (.bl b) .non = some (.bl false) := Eq.trans rfl rfl
@[simp] theorem notN_non : dNotN .non .non = some (.bl false) := Eq.trans rfl rfl
@[simp] theorem notN_int : dNotN (.int i) .non = some (.bl true) := Eq.trans rfl rfl
@[simp] theorem notN_str : dNotN (.str s) .non = some (.bl true) := Eq.trans rfl rfl
@[simp] theorem notN_lst : dNotN (.lst xs) .non = some (.bl true) := Eq.trans rfl rfl
@[simp] theorem notN_tup : dNotN (.tup xs) .non = some (.bl true) := Eq.trans rfl rfl
theorem ixN_nat {n k : Nat} (h : k < n) : L2.ixN n (k : Int) = some k := by
  unfold L2.ixN
  simp; omega
theorem ixN_of {n : Nat} {i : Int} (h0 : 0 ≤ i) (h : i < n) : L2.ixN n i = some i.toNat := by
  have := ixN_nat (n := n) (k := i.toNat) (by omega)
  rwa [show ((i.toNat : Nat) : Int) = i by omega] at this
@[simp] theorem dIx_lit {n : Nat} : dIx (.lst xs) (.int (no_index (@OfNat.ofNat Int n _))) = xs[(OfNat.ofNat n : Nat)]? := by
  show L2.atI xs ((n : Nat) : Int) = xs[n]?
  unfold L2.atI
  by_cases h : n < xs.length
  · rw [ixN_nat h]; rfl
  · have e : L2.ixN xs.length (n : Int) = none := by unfold L2.ixN; rw [if_pos (by omega), if_neg (by omega)]
    rw [e, List.getElem?_eq_none (by omega)]; rfl
@[simp] theorem dIx_litT {n : Nat} : dIx (.tup xs) (.int (no_index (@OfNat.ofNat Int n _))) = xs[(OfNat.ofNat n : Nat)]? := dIx_lit (xs := xs)
theorem ix_mem {xs : List Int} {i : Int} (h0 : 0 ≤ i) (h : i < xs.length) : ∃ v, dIx (.lst (xs.map .int)) (.int i) = some (.int v) ∧ v ∈ xs ∧ xs[i.toNat]? = some v := by
  obtain ⟨v, hv⟩ : ∃ v, xs[i.toNat]? = some v := ⟨_, List.getElem?_eq_getElem (by omega)⟩
  refine ⟨v, ?_, List.mem_of_getElem? hv, hv⟩
  have hq : i.toNat < (xs.map D.int).length := by rw [List.length_map]; omega
  show L2.atI (xs.map D.int) i = _
  unfold L2.atI
  rw [ixN_of h0 (by rw [List.length_map]; omega)]
  show (xs.map D.int)[i.toNat]? = _
  rw [List.getElem?_map, hv]; rfl
theorem dIx_l {d : D} (h0 : 0 ≤ i) (h : xs[i.toNat]? = some d) : dIx (.lst xs) (.int i) = some d := by
  have hl : i.toNat < xs.length := (List.getElem?_eq_some_iff.mp h).1
  show L2.atI xs i = _
  unfold L2.atI
  rw [ixN_of h0 (by omega)]
  exact h
theorem dIx_t {d : D} (h0 : 0 ≤ i) (h : xs[i.toNat]? = some d) : dIx (.tup xs) (.int i) = some d := dIx_l (xs := xs) h0 h
theorem dIx_s {c : Nat} (hl : s.length ≤ LN) (h0 : 0 ≤ i) (h : s[i.toNat]? = some c) : dIx (.str s) (.int i) = some (.str [c]) := by
  have hq : i.toNat < s.length := (List.getElem?_eq_some_iff.mp h).1
  show (if s.length ≤ LN then _ else _) = _
  rw [if_pos hl]
  unfold L2.atI
  rw [ixN_of h0 (by omega)]
  show (s[i.toNat]?).map _ = _
  rw [h]
  rfl
theorem dIx_c {ns : List Int} {n : Int} (h0 : 0 ≤ i) (h : ns[i.toNat]? = some n) : dIx (.scr ns) (.int i) = some (.int n) := by
  have hq : i.toNat < ns.length := (List.getElem?_eq_some_iff.mp h).1
  show (L2.atI ns i).map _ = _
  unfold L2.atI
  rw [ixN_of h0 (by omega)]
  show (ns[i.toNat]?).map _ = _
  rw [h]
  rfl
/-! joining -/
/-! slices with ends that are not negative -/
theorem sIx_of {n d : Nat} {a : Int} (h : 0 ≤ a) : HT.sIx n d (some a) = min a.toNat n := by
  have := HT.sIx_nat n d a.toNat
  rwa [show ((a.toNat : Nat) : Int) = a by omega] at this
theorem cut_both {α : Type} {zs : List α} {a b : Int} (ha : 0 ≤ a) (hb : 0 ≤ b) : cutG zs (some a) (some b) = (zs.drop a.toNat).take (b.toNat - a.toNat) := by
  unfold cutG
  rw [sIx_of ha, sIx_of hb]
  by_cases h : a.toNat ≤ zs.length
  · rw [Nat.min_eq_left h]
    by_cases h2 : b.toNat ≤ zs.length
    · rw [Nat.min_eq_left h2]
    · rw [Nat.min_eq_right (by omega), List.take_of_length_le (by rw [List.length_drop]; omega), List.take_of_length_le (by rw [List.length_drop]; omega)]
  · rw [show min a.toNat zs.length = zs.length from Nat.min_eq_right (by omega), List.drop_of_length_le (Nat.le_refl _), List.drop_of_length_le (by omega), List.take_nil, List.take_nil]
theorem cut_to {α : Type} {zs : List α} {b : Int} (hb : 0 ≤ b) : cutG zs none (some b) = zs.take b.toNat := by
  unfold cutG
  rw [sIx_of hb, HT.sIx_none, List.drop_zero, Nat.sub_zero]
  by_cases h2 : b.toNat ≤ zs.length
  · rw [Nat.min_eq_left h2]
  · rw [Nat.min_eq_right (by omega), List.take_of_length_le (Nat.le_refl _), List.take_of_length_le (by omega)]
theorem cut_from {α : Type} {zs : List α} {a : Int} (ha : 0 ≤ a) : cutG zs (some a) none = zs.drop a.toNat := by
  unfold cutG
  rw [sIx_of ha, HT.sIx_none]
  by_cases h : a.toNat ≤ zs.length
  · rw [Nat.min_eq_left h, List.take_of_length_le (by rw [List.length_drop]; omega)]
  · rw [Nat.min_eq_right (by omega), List.drop_of_length_le (Nat.le_refl _), List.drop_of_length_le (by omega), List.take_nil]
end
end PD
set_option linter.all false
set_option maxRecDepth 100000
namespace PM
open PD

noncomputable def zc3fcd3d7 : List Nat := [97, 98, 99, 100, 101, 102, 103, 104, 105, 106, 107, 108, 109, 110, 111, 112, 113, 114, 115, 116, 117, 118, 119, 120, 121, 122]
noncomputable def i1_law_cell : Env → R Fl := (sIf (mB (m2 dLt (mV 1) (mN dLen (mCons (mV 0) mNil)))) (sRet (m2 dIx (mV 0) (mV 1))) sNx)
noncomputable def b_law_cell : Env → R Fl := (sSeq i1_law_cell (sRet (mC (.int 0))))
noncomputable def m_law_cell : List D → R D := mFn 2 false b_law_cell
noncomputable def i1_law_draws : Env → R Fl := (sIf (mB (m2 dLt (mV 2) (m2 dPow (mC (.int 10)) (mC (.int 18))))) (sSet 3 (mC (.int 0))) sNx)
noncomputable def i2_law_draws : Env → R Fl := (sIf (mB (m2 dGt (mV 3) (mC (.int 0)))) (sSeq (sApp 4 (m2 dMod (mN dInt1 (mCons (mV 3) mNil)) (m2 dIx (mV 1) (mV 5)))) (sSet 3 (m2 dDiv (mV 3) (m2 dIx (mV 1) (mV 5))))) (sSeq (sSet 6 (m2 dMod (mN dInt1 (mCons (m2 dAdd (m2 dMul (mV 2) (mC (.int 48271))) (m2 dMul (mC (.int 69621)) (m2 dAdd (mV 5) (mC (.int 1))))) mNil)) (mC (.int 2147483647)))) (sSeq (sSet 6 (m2 dMod (mN dInt1 (mCons (m2 dAdd (m2 dMul (mV 6) (mV 6)) (m2 dMul (mC (.int 40692)) (m2 dAdd (mV 5) (mC (.int 3))))) mNil)) (mC (.int 2147483399)))) (sSeq (sSet 6 (m2 dMod (mN dInt1 (mCons (m2 dAdd (m2 dMul (mV 6) (mV 6)) (mC (.int 16807))) mNil)) (mC (.int 2147483563)))) (sApp 4 (m2 dMod (mN dInt1 (mCons (m2 dDiv (mV 6) (mC (.int 11))) mNil)) (m2 dIx (mV 1) (mV 5))))))))
noncomputable def l1_law_draws : Env → R Fl := i2_law_draws
noncomputable def b_law_draws : Env → R Fl := (sSeq (sSet 2 (mN dAbs (mCons (mV 0) mNil))) (sSeq (sSet 3 (mV 2)) (sSeq i1_law_draws (sSeq (sSet 4 (mN dLst mNil)) (sSeq (sFor (iArgs gR1 (mCons (mN dLen (mCons (mV 1) mNil)) mNil)) (gSet 5) l1_law_draws) (sRet (mV 4)))))))
noncomputable def m_law_draws : List D → R D := mFn 7 false b_law_draws
noncomputable def b_law_letter : Env → R Fl := (sRet (m2 dIx (mC (.str zc3fcd3d7)) (m2 dMod (mN dInt1 (mCons (mV 0) mNil)) (mC (.int 26)))))
noncomputable def m_law_letter : List D → R D := mFn 1 false b_law_letter
noncomputable def i1_law_size : Env → R Fl := (sIf (mB (m2 dLt (mV 0) (mC (.int 6)))) (sRet (m2 dAdd (mC (.int 1)) (m2 dMod (mN dInt1 (mCons (mV 1) mNil)) (mN dMin2 (mCons (mC (.int 9)) (mCons (mV 2) mNil)))))) sNx)
noncomputable def i2_law_size : Env → R Fl := (sIf (mB (m2 dLt (mV 0) (mC (.int 9)))) (sRet (m2 dAdd (mC (.int 1)) (m2 dMod (mN dInt1 (mCons (mV 1) mNil)) (mN dMin2 (mCons (mC (.int 18)) (mCons (mV 2) mNil)))))) sNx)
noncomputable def b_law_size : Env → R Fl := (sSeq i1_law_size (sSeq i2_law_size (sRet (m2 dAdd (mC (.int 1)) (m2 dMod (mN dInt1 (mCons (mV 1) mNil)) (mV 2))))))
noncomputable def m_law_size : List D → R D := mFn 3 false b_law_size
noncomputable def c2_law_text : Env → R D := (mLc (iArgs gR1 (mCons (mV 4) mNil)) [12] (gSet 12) mYes (m2 dIx (mV 8) (m2 dMod (mN dInt1 (mCons (mV 12) mNil)) (mN dMin2 (mCons (mV 9) (mCons (mV 4) mNil))))))
noncomputable def i1_law_text : Env → R Fl := (sIf (mOr (mB (m2 dEq (m2 dIx (mV 3) (mC (.int 5))) (mC (.int 3)))) (mB (m2 dEq (m2 dIx (mV 3) (mC (.int 5))) (mC (.int 4))))) (sSeq (sSet 9 (m2 dAdd (mC (.int 1)) (m2 dDiv (m2 dIx (mV 3) (mC (.int 6))) (mC (.int 2))))) (sSet 8 c2_law_text)) sNx)
noncomputable def c3_law_text : Env → R D := (mLc (iArgs gR1 (mCons (mV 4) mNil)) [12] (gSet 12) mYes (mN dInt1 (mCons (m2 dEq (mV 12) (m2 dDiv (m2 dIx (mV 3) (mC (.int 1))) (mC (.int 2)))) mNil)))
noncomputable def i2_law_text : Env → R Fl := (sIf (mB (m2 dEq (m2 dIx (mV 3) (mC (.int 5))) (mC (.int 5)))) (sSet 8 c3_law_text) sNx)
noncomputable def b_law_is_int : Env → R Fl := (sRet (mAndV (m1 (dIsi "int") (mV 0)) (m1 dNot (m1 (dIsi "bool") (mV 0)))))
noncomputable def m_law_is_int : List D → R D := mFn 1 false b_law_is_int
noncomputable def i1_law_same : Env → R Fl := (sIf (mB (m2 dIsN (mV 1) (mC .non))) (sRet (m2 dIsN (mV 0) (mC .non))) sNx)
noncomputable def i2_law_same : Env → R Fl := (sIf (mB (m1 (dIsi "bool") (mV 1))) (sRet (mAndV (m1 (dIsi "bool") (mV 0)) (m2 dEq (mV 0) (mV 1)))) sNx)
noncomputable def i3_law_same : Env → R Fl := (sIf (mB (m1 (dIsi "int") (mV 1))) (sRet (mAndV (mCall 1 m_law_is_int (mCons (mV 0) mNil)) (m2 dEq (mV 0) (mV 1)))) sNx)
noncomputable def i4_law_same : Env → R Fl := (sIf (mB (m1 (dIsi "str") (mV 1))) (sRet (mAndV (m1 (dIsi "str") (mV 0)) (m2 dEq (mV 0) (mV 1)))) sNx)
noncomputable def i5_law_same : Env → R Fl := (sIf (mAnd (mB (m1 (dIsi "list") (mV 1))) (mNot (mB (m1 (dIsi "list") (mV 0))))) (sRet (mC (.bl false))) sNx)
noncomputable def i6_law_same : Env → R Fl := (sIf (mAnd (mB (m1 (dIsi "tuple") (mV 1))) (mNot (mB (m1 (dIsi "tuple") (mV 0))))) (sRet (mC (.bl false))) sNx)
noncomputable def i7_law_same : Env → R Fl := (sIf (mB (m2 dNe (mN dLen (mCons (mV 0) mNil)) (mN dLen (mCons (mV 1) mNil)))) (sRet (mC (.bl false))) sNx)
noncomputable def i8_law_same (mrec : List D → R D) : Env → R Fl := (sIf (mNot (mB (mCall 2 mrec (mCons (m2 dIx (mV 0) (mV 2)) (mCons (m2 dIx (mV 1) (mV 2)) mNil))))) (sRet (mC (.bl false))) sNx)
noncomputable def l1_law_same (mrec : List D → R D) : Env → R Fl := (i8_law_same mrec)
noncomputable def b_law_same (mrec : List D → R D) : Env → R Fl := (sSeq i1_law_same (sSeq i2_law_same (sSeq i3_law_same (sSeq i4_law_same (sSeq i5_law_same (sSeq i6_law_same (sSeq i7_law_same (sSeq (sFor (iArgs gR1 (mCons (mN dLen (mCons (mV 1) mNil)) mNil)) (gSet 2) (l1_law_same mrec)) (sRet (mC (.bl true)))))))))))
noncomputable def m_law_same : Nat → List D → R D
  | 0 => fun _ => .stuck
  | n + 1 => mFn 3 false (b_law_same (m_law_same n))
end PM
set_option linter.all false
set_option maxRecDepth 100000
namespace PM
open PD
theorem letter_ok (n : Int) : ∃ c, m_law_letter [.int n] = .ok (.str [c]) ∧ 97 ≤ c ∧ c ≤ 122 := by
  have h0 : 0 ≤ n % 26 := Int.emod_nonneg _ (by decide)
  have h1 : n % 26 < 26 := Int.emod_lt_of_pos _ (by decide)
  obtain ⟨k, hk⟩ : ∃ k : Nat, n % 26 = k := ⟨(n % 26).toNat, by omega⟩
  have hz : zc3fcd3d7[k]? = some (97 + k) := by
    have hk' : k < 26 := by omega
    clear hk h0 h1
    revert k
    decide
  refine ⟨97 + k, ?_, by omega, by omega⟩
  have e : dIx (.str zc3fcd3d7) (.int (n % 26)) = some (.str [97 + k]) := dIx_s (by decide) h0 (by rw [hk, Int.toNat_natCast]; exact hz)
  simp [m_law_letter, mFn_eq, b_law_letter, dMod_i, e]
theorem size_ok (mode n most : Int) (h : 0 < most) : ∃ s, m_law_size [.int mode, .int n, .int most] = .ok (.int s) ∧ 1 ≤ s ∧ s ≤ most := by
  have pos : ∀ x y : Int, 0 < x → 0 < y → 0 < (if y < x then y else x) := fun x y hx hy => by split <;> assumption
  have p9 := pos 9 most (by decide) h
  have p18 := pos 18 most (by decide) h
  have key : ∀ b : Int, 0 < b → b ≤ most → 1 ≤ 1 + n % b ∧ 1 + n % b ≤ most := fun b hb hm => by
    have := Int.emod_nonneg n (show b ≠ 0 by omega)
    have := Int.emod_lt_of_pos n hb
    omega
  by_cases h6 : mode < 6
  · exact ⟨_, by simp [m_law_size, mFn_eq, b_law_size, i1_law_size, i2_law_size, dMod_i p9, h6], key _ p9 (by split <;> omega)⟩
  · by_cases h9 : mode < 9
    · exact ⟨_, by simp [m_law_size, mFn_eq, b_law_size, i1_law_size, i2_law_size, dMod_i p18, h6, h9], key _ p18 (by split <;> omega)⟩
    · exact ⟨_, by simp [m_law_size, mFn_eq, b_law_size, i1_law_size, i2_law_size, dMod_i h, h6, h9], key _ h (by omega)⟩
theorem cell_ok (ns : List Int) (k : Nat) : m_law_cell [.scr ns, .int k] = .ok (.int (ns.getD k 0)) := by
  by_cases h : k < ns.length
  · have e : dIx (.scr ns) (.int k) = some (.int (ns.getD k 0)) := dIx_c (by omega) (by
      rw [Int.toNat_natCast, List.getD_eq_getElem?_getD, List.getElem?_eq_getElem h]; rfl)
    have h' : (k : Int) < ns.length := by omega
    simp [m_law_cell, mFn_eq, b_law_cell, i1_law_cell, e, h, h']
  · have h' : ¬ (k : Int) < ns.length := by omega
    simp [m_law_cell, mFn_eq, b_law_cell, i1_law_cell, h, h', List.getD_eq_getElem?_getD, List.getElem?_eq_none (Nat.le_of_not_lt h)]
/-- what is drawn fits the sizes -/
noncomputable def Fits : List Int → List Int → Prop
  | [], [] => True
  | d :: ds, s :: ss => (0 ≤ d ∧ d < s) ∧ Fits ds ss
  | _, _ => False
theorem Fits.snoc : ∀ {ds ss : List Int} {d s : Int}, Fits ds ss → 0 ≤ d → d < s → Fits (ds ++ [d]) (ss ++ [s])
  | [], [], _, _, _, h0, h1 => ⟨⟨h0, h1⟩, trivial⟩
  | _ :: _, _ :: _, _, _, h, h0, h1 => ⟨h.1, Fits.snoc h.2 h0 h1⟩
theorem Fits.len : ∀ {ds ss : List Int}, Fits ds ss → ds.length = ss.length
  | [], [], _ => rfl
  | _ :: _, _ :: _, h => by rw [List.length_cons, List.length_cons, Fits.len h.2]
theorem Fits.get : ∀ {ds ss : List Int} {i : Nat} {s : Int}, Fits ds ss → ss[i]? = some s → ∃ d, ds[i]? = some d ∧ 0 ≤ d ∧ d < s
  | d :: _, _ :: _, 0, s, h, e => by cases e; exact ⟨d, rfl, h.1.1, h.1.2⟩
  | _ :: _, _ :: _, i + 1, s, h, e => by
    rw [List.getElem?_cons_succ] at e
    rw [List.getElem?_cons_succ]
    exact Fits.get h.2 e
  | [], [], _, _, _, e => by cases e
theorem log2_le {a b : Nat} (h : a < 2 ^ (b + 1)) : a.log2 ≤ b := by
  by_cases h0 : a = 0
  · subst h0; simp
  · have := (Nat.log2_lt h0).mpr h
    omega
theorem bits_log {z : Int} {n : Nat} (h : PySem.Builtin.Int.intBits z ≤ n) : z.natAbs.log2 ≤ n := by
  unfold PySem.Builtin.Int.intBits at h
  split at h
  · rename_i q
    have : z.natAbs = 0 := by first | exact q | (simp at q; simp [q]) | omega
    rw [this]
    simp
  · omega
theorem seedpos {a b : Int} (hb : 0 < b) : 0 ≤ a % b ∧ a % b < b := ⟨Int.emod_nonneg _ (by omega), Int.emod_lt_of_pos _ hb⟩
theorem mul_small {a b : Int} (ha : 0 ≤ a) (ha2 : a < 4294967296) (hb : 0 ≤ b) (hb2 : b < 4294967296) : dMul (.int a) (.int b) = some (.int (a * b)) := dMul_i (by
  have h1 : a.natAbs.log2 ≤ 31 := log2_le (by omega)
  have h2 : b.natAbs.log2 ≤ 31 := log2_le (by omega)
  have : MB = 4000000 := rfl
  omega)
theorem draws_okW (n : Int) (sizes : List Int) (hn : n.natAbs.log2 ≤ 2000000) (hs : ∀ s ∈ sizes, 0 < s ∧ s.natAbs.log2 < 9000) (hl : sizes.length ≤ 10000) :
    ∃ ds : List Int, m_law_draws [.int n, .lst (sizes.map .int)] = .ok (.lst (ds.map .int)) ∧ Fits ds sizes := by
  have hN : (if n < 0 then -n else n) = (n.natAbs : Int) := by split <;> omega
  obtain ⟨N, hNN⟩ : ∃ N : Nat, n.natAbs = N := ⟨_, rfl⟩
  rw [hNN] at hN hn
  have MBe : MB = 4000000 := rfl
  have key : ∀ r0 : Int, ∃ (r : Int) (ds : List Int) (a b : Option D), sLoop (gSet 5) l1_law_draws (rngL 0 sizes.length) [some (.int n), some (.lst (sizes.map .int)), some (.int N), some (.int r0), some (.lst []), none, none] = .ok (.nx [some (.int n), some (.lst (sizes.map .int)), some (.int N), some (.int r), some (.lst (ds.map .int)), a, b]) ∧ Fits ds sizes := by
    intro r0
    obtain ⟨ρ', h1, h2⟩ := loop_inv (T := gSet 5) (b := l1_law_draws) (fun k ρ => ∃ (r : Int) (ds : List Int) (a b : Option D), ρ = [some (.int n), some (.lst (sizes.map .int)), some (.int N), some (.int r), some (.lst (ds.map .int)), a, b] ∧ Fits ds (sizes.take k)) (rngL 0 sizes.length) 0 [some (.int n), some (.lst (sizes.map .int)), some (.int N), some (.int r0), some (.lst []), none, none]
      ⟨r0, [], none, none, rfl, trivial⟩ (by
      rintro j d ρ hj ⟨r, ds, a, b, rfl, hf⟩
      obtain ⟨hjl, rfl⟩ := rngL_get hj
      rw [Nat.zero_add] at hf
      have hd := hf.len
      rw [List.length_take] at hd
      have hlen : ds.length = j := by omega
      obtain ⟨s, hsj⟩ : ∃ s, sizes[j]? = some s := ⟨_, List.getElem?_eq_getElem hjl⟩
      obtain ⟨s0, s1⟩ := hs s (List.mem_of_getElem? hsj)
      rw [Int.zero_add]
      have ix : dIx (.lst (sizes.map .int)) (.int (j : Int)) = some (.int s) := dIx_l (by omega) (by
        rw [Int.toNat_natCast, List.getElem?_map, hsj]; rfl)
      have tk : sizes.take (0 + j + 1) = sizes.take j ++ [s] := by
        rw [Nat.zero_add, List.take_succ, hsj]; rfl
      have app : ∀ (ρ : Env) (x : Int), kApp 4 ρ (some (ds.map D.int)) (.ok (.int x)) = .ok (.nx (ρ.set 4 (some (.lst ((ds ++ [x]).map .int))))) := fun ρ x => by
        rw [kApp_ok (by rw [List.length_map, hlen]; have : LN = 1000000 := rfl; omega), List.map_append]; rfl
      by_cases hr : 0 < r
      · have dv : dDiv (.int r) (.int s) = some (.int (r / s)) := dDiv_i s0 s1
        exact ⟨_, _, rfl, by simp only [l1_law_draws, i2_law_draws]; simp [hr, ix, dMod_i s0, app, dv], r / s, ds ++ [r % s], some (.int j), b, rfl, by rw [tk]; exact hf.snoc (seedpos s0).1 (seedpos s0).2⟩
      · have m1 : dMul (.int N) (.int 48271) = some (.int (N * 48271)) := dMul_i (by
          have : (48271 : Int).natAbs.log2 ≤ 31 := log2_le (by decide)
          rw [Int.natAbs_natCast]
          omega)
        have m2 : dMul (.int 69621) (.int (j + 1)) = some (.int (69621 * (j + 1))) := mul_small (by decide) (by decide) (by omega) (by omega)
        have m4 : dMul (.int 40692) (.int (j + 3)) = some (.int (40692 * (j + 3))) := mul_small (by decide) (by decide) (by omega) (by omega)
        have m3 : ∀ x b : Int, 0 < b → b ≤ 4294967296 → dMul (.int (x % b)) (.int (x % b)) = some (.int (x % b * (x % b))) := fun x b hb hb2 => mul_small (seedpos hb).1 (by have := (seedpos (a := x) hb).2; omega) (seedpos hb).1 (by have := (seedpos (a := x) hb).2; omega)
        have md : ∀ x b : Int, 0 < b → dMod (.int x) (.int b) = some (.int (x % b)) := fun x b hb => dMod_i hb
        have dv : ∀ x : Int, dDiv (.int x) (.int 11) = some (.int (x / 11)) := fun x => dDiv_i (by decide) (by decide)
        obtain ⟨x1, h1⟩ : ∃ x, x = (N * 48271 + 69621 * ((j : Int) + 1)) % 2147483647 := ⟨_, rfl⟩
        obtain ⟨x2, h2⟩ : ∃ x, x = (x1 * x1 + 40692 * ((j : Int) + 3)) % 2147483399 := ⟨_, rfl⟩
        obtain ⟨x3, h3⟩ : ∃ x, x = (x2 * x2 + 16807) % 2147483563 := ⟨_, rfl⟩
        have q1 : dMul (.int x1) (.int x1) = some (.int (x1 * x1)) := by rw [h1]; exact m3 _ _ (by decide) (by decide)
        have q2 : dMul (.int x2) (.int x2) = some (.int (x2 * x2)) := by rw [h2]; exact m3 _ _ (by decide) (by decide)
        exact ⟨_, _, rfl, by simp only [l1_law_draws, i2_law_draws]; simp [hr, ix, md, app, dv, m1, m2, m4, ← h1, q1, ← h2, q2, ← h3, s0], r, ds ++ [x3 / 11 % s], some (.int j), some (.int x3), rfl, by rw [tk]; exact hf.snoc (seedpos s0).1 (seedpos s0).2⟩)
    rw [rngL_length, Nat.zero_add, List.take_length] at h2
    obtain ⟨r, ds, a, b, rfl, hf⟩ := h2
    exact ⟨r, ds, a, b, h1, hf⟩
  have hlen : gR1 [.int sizes.length] = some (rngL 0 sizes.length) := gR1_ok (by have : LR = 1000000000 := rfl; omega) (by have : LR = 1000000000 := rfl; omega)
  have pw : dPow (.int 10) (.int 18) = some (.int 1000000000000000000) := (dPow_i (by decide)).trans (by rw [show ((10 : Int) ^ (18 : Int).toNat) = 1000000000000000000 by decide])
  have em : dLst [] = some (.lst []) := rfl
  by_cases hb : (N : Int) < 1000000000000000000
  · obtain ⟨r, ds, a, b, e, hf⟩ := key 0
    have lt : dLt (.int N) (.int 1000000000000000000) = some (.bl true) := by rw [dLt_i, decide_eq_true hb]
    exact ⟨ds, by simp [m_law_draws, mFn_eq, b_law_draws, i1_law_draws, List.replicate, hN, pw, lt, -dLt_i, em, hlen, e], hf⟩
  · obtain ⟨r, ds, a, b, e, hf⟩ := key N
    have lt : dLt (.int N) (.int 1000000000000000000) = some (.bl false) := by rw [dLt_i, decide_eq_false hb]
    exact ⟨ds, by simp [m_law_draws, mFn_eq, b_law_draws, i1_law_draws, List.replicate, hN, pw, lt, -dLt_i, em, hlen, e], hf⟩
theorem draws_ok (n : Int) (sizes : List Int) (hn : n.natAbs.log2 ≤ 2000000) (hs : ∀ s ∈ sizes, 0 < s ∧ s < 1000000000) (hl : sizes.length ≤ 10000) :
    ∃ ds : List Int, m_law_draws [.int n, .lst (sizes.map .int)] = .ok (.lst (ds.map .int)) ∧ Fits ds sizes :=
  draws_okW n sizes hn (fun s m => ⟨(hs s m).1, by have := hs s m; have : s.natAbs.log2 ≤ 63 := log2_le (by omega); omega⟩) hl
end PM
set_option linter.all false
set_option maxRecDepth 100000
set_option maxHeartbeats 1000000
namespace PM
open PD
theorem LNe : LN = 1000000 := rfl
theorem LRe : LR = 1000000000 := rfl
theorem fits7 {ds : List Int} {a b c d e f g : Int} (h : Fits ds [a, b, c, d, e, f, g]) : ∃ x0 x1 x2 x3 x4 x5 x6, ds = [x0, x1, x2, x3, x4, x5, x6] ∧ (0 ≤ x0 ∧ x0 < a) ∧ (0 ≤ x1 ∧ x1 < b) ∧ (0 ≤ x2 ∧ x2 < c) ∧ (0 ≤ x3 ∧ x3 < d) ∧ (0 ≤ x4 ∧ x4 < e) ∧ (0 ≤ x5 ∧ x5 < f) ∧ (0 ≤ x6 ∧ x6 < g) := by
  match ds, h with
  | [x0, x1, x2, x3, x4, x5, x6], ⟨h0, h1, h2, h3, h4, h5, h6, _⟩ => exact ⟨_, _, _, _, _, _, _, rfl, h0, h1, h2, h3, h4, h5, h6⟩
/-- integers that a comprehension over integers makes -/
theorem lc_ints {ft : Env → R Bool} {fe : Env → R D} {ρ : Env} {i : Nat} (P : Int → Prop) {xs : List Int} (h : ∀ x ∈ xs, ft (ρ.set i (some (.int x))) = .ok true ∧ ∃ y, fe (ρ.set i (some (.int x))) = .ok (.int y) ∧ P y) :
    ∃ ys : List Int, lcGo (gSet i) ft fe ρ (xs.map .int) = .ok (ys.map .int) ∧ ys.length = xs.length ∧ ∀ y ∈ ys, P y := by
  obtain ⟨ys, e, l, p⟩ := lc_all (T := gSet i) (ft := ft) (fe := fe) (ρ := ρ) D.int P (ds := xs.map .int) fun d m => by
    obtain ⟨x, mx, rfl⟩ := List.mem_map.mp m
    obtain ⟨h1, y, h2, h3⟩ := h x mx
    exact ⟨_, y, rfl, h1, h2, h3⟩
  exact ⟨ys, e, by rw [l, List.length_map], p⟩
noncomputable abbrev Sml (vs : List Int) : Prop := ∀ v ∈ vs, 0 ≤ v ∧ v < 1000
section
variable {o1 o2 o9 o10 o11 o12 o13 o14 : Option D} {n sz : Int} {x0 x1 x2 x3 x4 x5 x6 : Int} {st mn : Int} {vals : List Int}
/-- the environment of the text's maker -/
noncomputable abbrev envT (n most : Int) (hd : D) (told : List Int) (sz fi st mn : Int) (v : Option D) (o9 o10 o11 o12 o13 o14 : Option D) : Env :=
  [some (.int n), some (.int most), some hd, some (.lst (told.map .int)), some (.int sz), some (.int fi), some (.int st), some (.int mn), v, o9, o10, o11, o12, o13, o14]
noncomputable abbrev hdT : D := .lst [.int 10, .int 64, .int 26, .int 4, .int 6, .int 8, .int 12]
variable {most fi : Int} {told : List Int}
theorem c2_ok {per : Int} (h1 : 1 ≤ sz) (h2 : sz ≤ 1000) (hp : 0 < per) (hv : (vals.length : Int) = sz) (pv : Sml vals) : ∃ vs : List Int, c2_law_text (envT n most hdT told sz fi st mn (some (.lst (vals.map .int))) (some (.int per)) o10 o11 o12 o13 o14) = .ok (.lst (vs.map .int)) ∧ (vs.length : Int) = sz ∧ Sml vs := by
  obtain ⟨k, rfl⟩ : ∃ k : Nat, sz = k := ⟨sz.toNat, by omega⟩
  have pm : 0 < (if (k : Int) < per then (k : Int) else per) := by split <;> omega
  obtain ⟨vs, e2, l2, pv2⟩ := lc_ints (ft := mYes) (fe := m2 dIx (mV 8) (m2 dMod (mN dInt1 (mCons (mV 12) mNil)) (mN dMin2 (mCons (mV 9) (mCons (mV 4) mNil))))) (ρ := envT n most hdT told k fi st mn (some (.lst (vals.map .int))) (some (.int per)) o10 o11 none o13 o14) (i := 12) (fun v => 0 ≤ v ∧ v < 1000) (xs := (List.range k).map fun i : Nat => (i : Int)) fun x _ => by
    have q := seedpos (a := x) pm
    obtain ⟨v, hv, mv, _⟩ := ix_mem (xs := vals) (i := x % (if (k : Int) < per then (k : Int) else per)) q.1 (by
      have : (if (k : Int) < per then (k : Int) else per) ≤ k := by split <;> omega
      omega)
    exact ⟨rfl, v, by simp [dMod_i pm, hv], pv v mv⟩
  rw [List.length_map, List.length_range] at l2
  refine ⟨vs, ?_, by omega, pv2⟩
  have gr : gR1 [.int (k : Int)] = some (rngL 0 k) := gR1_ok (by rw [LRe]; omega) (by rw [LRe]; omega)
  simp only [c2_law_text]
  simp only [rngL0] at gr
  simp [gr, -List.map_map, e2, kLn_ok, l2, show k ≤ LN by rw [LNe]; omega]
theorem c3_ok (h1 : 1 ≤ sz) (h2 : sz ≤ 1000) {v : Option D} : ∃ vs : List Int, c3_law_text (envT n most hdT [x0, x1, x2, x3, x4, x5, x6] sz fi st mn v o9 o10 o11 o12 o13 o14) = .ok (.lst (vs.map .int)) ∧ (vs.length : Int) = sz ∧ Sml vs := by
  obtain ⟨k, rfl⟩ : ∃ k : Nat, sz = k := ⟨sz.toNat, by omega⟩
  have dv : dDiv (.int x1) (.int 2) = some (.int (x1 / 2)) := dDiv_i (by decide) (by decide)
  obtain ⟨vs, e2, l2, pv2⟩ := lc_ints (ft := mYes) (fe := mN dInt1 (mCons (m2 dEq (mV 12) (m2 dDiv (m2 dIx (mV 3) (mC (.int 1))) (mC (.int 2)))) mNil)) (ρ := envT n most hdT [x0, x1, x2, x3, x4, x5, x6] k fi st mn v o9 o10 o11 none o13 o14) (i := 12) (fun v => 0 ≤ v ∧ v < 1000) (xs := (List.range k).map fun i : Nat => (i : Int)) fun x _ => ⟨rfl, if (x == x1 / 2) = true then 1 else 0, by simp [dv], by split <;> omega⟩
  rw [List.length_map, List.length_range] at l2
  refine ⟨vs, ?_, by omega, pv2⟩
  have gr : gR1 [.int (k : Int)] = some (rngL 0 k) := gR1_ok (by rw [LRe]; omega) (by rw [LRe]; omega)
  simp only [c3_law_text]
  simp only [envT, List.map_cons, List.map_nil] at e2
  simp only [rngL0] at gr
  simp [gr, -List.map_map, e2, kLn_ok, l2, show k ≤ LN by rw [LNe]; omega]
/-- the three ways to change the values -/
theorem i1_ok (h1 : 1 ≤ sz) (h2 : sz ≤ 1000) (hv : (vals.length : Int) = sz) (pv : Sml vals) (h6 : 0 ≤ x6) : ∃ (vs : List Int) (o : Option D) (q : Option D), i1_law_text (envT n most hdT [x0, x1, x2, x3, x4, x5, x6] sz fi st mn (some (.lst (vals.map .int))) o9 o10 o11 o12 o13 o14) = .ok (.nx (envT n most hdT [x0, x1, x2, x3, x4, x5, x6] sz fi st mn (some (.lst (vs.map .int))) o o10 o11 o12 o13 o14)) ∧ (vs.length : Int) = sz ∧ Sml vs := by
  have dv : dDiv (.int x6) (.int 2) = some (.int (x6 / 2)) := dDiv_i (by decide) (by decide)
  obtain ⟨vs, e, l⟩ := c2_ok (n := n) (told := [x0, x1, x2, x3, x4, x5, x6]) (most := most) (fi := fi) (st := st) (mn := mn) (o10 := o10) (o11 := o11) (o12 := o12) (o13 := o13) (o14 := o14) (per := 1 + x6 / 2) h1 h2 (by omega) hv pv
  simp only [envT, List.map_cons, List.map_nil] at e
  by_cases a : x5 = 3
  · exact ⟨vs, some (.int (1 + x6 / 2)), none, by simp [i1_law_text, envT, beq_t a, dv, e], l⟩
  · by_cases b : x5 = 4
    · exact ⟨vs, some (.int (1 + x6 / 2)), none, by simp [i1_law_text, envT, beq_f a, beq_t b, dv, e], l⟩
    · exact ⟨vals, o9, none, by simp [i1_law_text, envT, beq_f a, beq_f b], hv, pv⟩
theorem i2_ok (h1 : 1 ≤ sz) (h2 : sz ≤ 1000) (hv : (vals.length : Int) = sz) (pv : Sml vals) : ∃ (vs : List Int), i2_law_text (envT n most hdT [x0, x1, x2, x3, x4, x5, x6] sz fi st mn (some (.lst (vals.map .int))) o9 o10 o11 o12 o13 o14) = .ok (.nx (envT n most hdT [x0, x1, x2, x3, x4, x5, x6] sz fi st mn (some (.lst (vs.map .int))) o9 o10 o11 o12 o13 o14)) ∧ (vs.length : Int) = sz ∧ Sml vs := by
  obtain ⟨vs, e, l⟩ := c3_ok (n := n) (x0 := x0) (x1 := x1) (x2 := x2) (x3 := x3) (x4 := x4) (x5 := x5) (x6 := x6) (most := most) (fi := fi) (st := st) (mn := mn) (o9 := o9) (o10 := o10) (o11 := o11) (o12 := o12) (o13 := o13) (o14 := o14) (v := some (.lst (vals.map .int))) h1 h2
  simp only [envT, List.map_cons, List.map_nil] at e
  by_cases a : x5 = 5
  · exact ⟨vs, by simp [i2_law_text, envT, beq_t a, e], l⟩
  · exact ⟨vals, by simp [i2_law_text, envT, beq_f a], hv, pv⟩
end
end PM
set_option linter.all false
set_option maxRecDepth 100000
set_option maxHeartbeats 1000000
namespace PM
open PD
/-- what _law_same compares within n steps -/
noncomputable def okS : Nat → D → Prop
  | 0, _ => False
  | _ + 1, .non => True
  | _ + 1, .bl _ => True
  | _ + 1, .int _ => True
  | _ + 1, .str _ => True
  | n + 1, .lst xs => xs.length ≤ 1000000 ∧ ∀ x ∈ xs, okS n x
  | n + 1, .tup xs => xs.length ≤ 1000000 ∧ ∀ x ∈ xs, okS n x
  | _ + 1, .scr _ => False
  | _ + 1, .rng _ _ => False
  | _ + 1, .obj _ _ _ => False
  | _ + 1, .dic _ _ => False
  | _ + 1, .dct _ _ => False
@[simp] theorem isi_1 {n : Int} : isiB "int" (.int n) = true := by show (("int" == "int") || ("int" == "int" && "int" == "bool")) = _; decide
@[simp] theorem isi_2 {n : Int} : isiB "bool" (.int n) = false := by show (("int" == "bool") || ("bool" == "int" && "int" == "bool")) = _; decide
@[simp] theorem isi_3 {n : Int} : isiB "str" (.int n) = false := by show (("int" == "str") || ("str" == "int" && "int" == "bool")) = _; decide
@[simp] theorem isi_4 {n : Int} : isiB "list" (.int n) = false := by show (("int" == "list") || ("list" == "int" && "int" == "bool")) = _; decide
@[simp] theorem isi_5 {n : Int} : isiB "tuple" (.int n) = false := by show (("int" == "tuple") || ("tuple" == "int" && "int" == "bool")) = _; decide
@[simp] theorem isb_1 {b : Bool} : isiB "int" (.bl b) = true := by show (("bool" == "int") || ("int" == "int" && "bool" == "bool")) = _; decide
@[simp] theorem isb_2 {b : Bool} : isiB "bool" (.bl b) = true := by show (("bool" == "bool") || ("bool" == "int" && "bool" == "bool")) = _; decide
@[simp] theorem isb_3 {b : Bool} : isiB "str" (.bl b) = false := by show (("bool" == "str") || ("str" == "int" && "bool" == "bool")) = _; decide
@[simp] theorem isb_4 {b : Bool} : isiB "list" (.bl b) = false := by show (("bool" == "list") || ("list" == "int" && "bool" == "bool")) = _; decide
@[simp] theorem isb_5 {b : Bool} : isiB "tuple" (.bl b) = false := by show (("bool" == "tuple") || ("tuple" == "int" && "bool" == "bool")) = _; decide
@[simp] theorem iss_1 {s : List Nat} : isiB "int" (.str s) = false := by show (("str" == "int") || ("int" == "int" && "str" == "bool")) = _; decide
@[simp] theorem iss_2 {s : List Nat} : isiB "bool" (.str s) = false := by show (("str" == "bool") || ("bool" == "int" && "str" == "bool")) = _; decide
@[simp] theorem iss_3 {s : List Nat} : isiB "str" (.str s) = true := by show (("str" == "str") || ("str" == "int" && "str" == "bool")) = _; decide
@[simp] theorem iss_4 {s : List Nat} : isiB "list" (.str s) = false := by show (("str" == "list") || ("list" == "int" && "str" == "bool")) = _; decide
@[simp] theorem iss_5 {s : List Nat} : isiB "tuple" (.str s) = false := by show (("str" == "tuple") || ("tuple" == "int" && "str" == "bool")) = _; decide
@[simp] theorem isl_1 {s : List D} : isiB "int" (.lst s) = false := by show (("list" == "int") || ("int" == "int" && "list" == "bool")) = _; decide
@[simp] theorem isl_2 {s : List D} : isiB "bool" (.lst s) = false := by show (("list" == "bool") || ("bool" == "int" && "list" == "bool")) = _; decide
@[simp] theorem isl_3 {s : List D} : isiB "str" (.lst s) = false := by show (("list" == "str") || ("str" == "int" && "list" == "bool")) = _; decide
@[simp] theorem isl_4 {s : List D} : isiB "list" (.lst s) = true := by show (("list" == "list") || ("list" == "int" && "list" == "bool")) = _; decide
@[simp] theorem isl_5 {s : List D} : isiB "tuple" (.lst s) = false := by show (("list" == "tuple") || ("tuple" == "int" && "list" == "bool")) = _; decide
@[simp] theorem ist_1 {s : List D} : isiB "int" (.tup s) = false := by show (("tuple" == "int") || ("int" == "int" && "tuple" == "bool")) = _; decide
@[simp] theorem ist_2 {s : List D} : isiB "bool" (.tup s) = false := by show (("tuple" == "bool") || ("bool" == "int" && "tuple" == "bool")) = _; decide
@[simp] theorem ist_3 {s : List D} : isiB "str" (.tup s) = false := by show (("tuple" == "str") || ("str" == "int" && "tuple" == "bool")) = _; decide
@[simp] theorem ist_4 {s : List D} : isiB "list" (.tup s) = false := by show (("tuple" == "list") || ("list" == "int" && "tuple" == "bool")) = _; decide
@[simp] theorem ist_5 {s : List D} : isiB "tuple" (.tup s) = true := by show (("tuple" == "tuple") || ("tuple" == "int" && "tuple" == "bool")) = _; decide
@[simp] theorem isn_1 : isiB "int" .non = false := by show (("NoneType" == "int") || ("int" == "int" && "NoneType" == "bool")) = _; decide
@[simp] theorem isn_2 : isiB "bool" .non = false := by show (("NoneType" == "bool") || ("bool" == "int" && "NoneType" == "bool")) = _; decide
@[simp] theorem isn_3 : isiB "str" .non = false := by show (("NoneType" == "str") || ("str" == "int" && "NoneType" == "bool")) = _; decide
@[simp] theorem isn_4 : isiB "list" .non = false := by show (("NoneType" == "list") || ("list" == "int" && "NoneType" == "bool")) = _; decide
@[simp] theorem isn_5 : isiB "tuple" .non = false := by show (("NoneType" == "tuple") || ("tuple" == "int" && "NoneType" == "bool")) = _; decide
theorem same_loop {n : Nat} {d : D} {xs : List D} (ih : ∀ x ∈ xs, m_law_same n [x, x] = .ok (.bl true)) (hx : ∀ (i : Int) (x : D), 0 ≤ i → xs[i.toNat]? = some x → dIx d (.int i) = some x) :
    ∃ o, sLoop (gSet 2) (l1_law_same (m_law_same n)) (rngL 0 xs.length) [some d, some d, none] = .ok (.nx [some d, some d, o]) := by
  obtain ⟨ρ', e, o, rfl⟩ := loop_inv (T := gSet 2) (b := l1_law_same (m_law_same n)) (fun _ ρ => ∃ o, ρ = [some d, some d, o]) (rngL 0 xs.length) 0 [some d, some d, none] ⟨none, rfl⟩ (by
    rintro j y ρ hj ⟨o, rfl⟩
    obtain ⟨hl, rfl⟩ := rngL_get hj
    rw [Int.zero_add]
    obtain ⟨x, hxj⟩ : ∃ x, xs[j]? = some x := ⟨_, List.getElem?_eq_getElem hl⟩
    have e1 := hx j x (by omega) (by rw [Int.toNat_natCast]; exact hxj)
    have e2 := ih x (List.mem_of_getElem? hxj)
    exact ⟨_, _, rfl, by simp [l1_law_same, i8_law_same, e1, e2], some (.int j), rfl⟩)
  exact ⟨o, e⟩
theorem same_ok : ∀ (n : Nat) (d : D), okS n d → m_law_same n [d, d] = .ok (.bl true)
  | 0, _, h => h.elim
  | n + 1, .non, _ => by simp [m_law_same, mFn_eq, b_law_same, i1_law_same]
  | n + 1, .bl b, _ => by simp [m_law_same, mFn_eq, b_law_same, i1_law_same, i2_law_same]
  | n + 1, .int i, _ => by simp [m_law_same, mFn_eq, b_law_same, i1_law_same, i2_law_same, i3_law_same, m_law_is_int, b_law_is_int]
  | n + 1, .str s, _ => by simp [m_law_same, mFn_eq, b_law_same, i1_law_same, i2_law_same, i3_law_same, i4_law_same]
  | n + 1, .lst xs, ⟨hl, hx⟩ => by
    obtain ⟨o, e⟩ := same_loop (n := n) (d := .lst xs) (xs := xs) (fun x m => same_ok n x (hx x m)) fun i x h0 h => dIx_l h0 h
    have g := gR1_ok (j := (xs.length : Int)) (by rw [LRe]; omega) (by rw [LRe]; omega)
    rw [Int.toNat_natCast] at g
    simp [m_law_same, mFn_eq, b_law_same, i1_law_same, i2_law_same, i3_law_same, i4_law_same, i5_law_same, i6_law_same, i7_law_same, g, e]
  | n + 1, .tup xs, ⟨hl, hx⟩ => by
    obtain ⟨o, e⟩ := same_loop (n := n) (d := .tup xs) (xs := xs) (fun x m => same_ok n x (hx x m)) fun i x h0 h => dIx_t h0 h
    have g := gR1_ok (j := (xs.length : Int)) (by rw [LRe]; omega) (by rw [LRe]; omega)
    rw [Int.toNat_natCast] at g
    simp [m_law_same, mFn_eq, b_law_same, i1_law_same, i2_law_same, i3_law_same, i4_law_same, i5_law_same, i6_law_same, i7_law_same, g, e]
end PM
set_option linter.all false
set_option maxRecDepth 100000
set_option maxHeartbeats 1000000
namespace PM
open PD
/-! ### where a word begins -/
noncomputable def At (s t : List Nat) (i : Nat) : Bool := decide (i + t.length ≤ s.length) && ((s.drop i).take t.length == t)
theorem cell_small {ns : List Int} (hb : ∀ z ∈ ns, PySem.Builtin.Int.intBits z ≤ 1048576) (k : Nat) : (ns.getD k 0).natAbs.log2 ≤ 2000000 := by
  rw [List.getD_eq_getElem?_getD]
  cases q : ns[k]? with
  | none => simp
  | some z =>
    have := bits_log (hb z (List.mem_of_getElem? q))
    rw [Option.getD_some]
    omega
theorem isAtom_bl {b : Bool} : isAtom (.bl b) = true := rfl
/-! ### two texts joined -/
end PM
set_option linter.all false
set_option maxRecDepth 100000
set_option maxHeartbeats 1000000
namespace PM
open PD
/-! ### try, stores, ranges as lists -/
section
variable {ρ ρ' : Env} {d : D}
noncomputable def kT2 : R Fl → R Fl := fun r => match r with
  | .ok (.rt d) => .ok (.rt d)
  | _ => .stuck
@[simp] theorem kT2_rt : kT2 (.ok (.rt d)) = .ok (.rt d) := Eq.trans rfl rfl
@[simp] theorem endN_rt {io : Option Nat} : endN io (.ok (.rt d)) = .ok (.rt d) := Eq.trans rfl rfl
@[simp] theorem endN_nx {io : Option Nat} : endN io (.ok (.nx ρ)) = .ok (.nx (clrI io ρ)) := Eq.trans rfl rfl
@[simp] theorem clrI_s {i : Nat} : clrI (some i) ρ = ρ.set i none := Eq.trans rfl rfl
@[simp] theorem clrI_n : clrI none ρ = ρ := Eq.trans rfl rfl
theorem allAt_ints {xs : List Int} : allAt (xs.map D.int) = true := by
  unfold allAt
  rw [List.all_eq_true]
  intro x m
  obtain ⟨i, _, rfl⟩ := List.mem_map.mp m
  rfl
noncomputable def kAtL : R D → R D := fun r => r >>= fun d => match d with
  | .lst xs => if allAt xs = true then .ok (.lst xs) else .stuck
  | _ => .stuck
@[simp] theorem mAtL_eq {f : Env → R D} : mAtL f ρ = kAtL (f ρ) := Eq.trans rfl rfl
theorem kAtL_ok {xs : List Int} : kAtL (.ok (.lst (xs.map D.int))) = .ok (.lst (xs.map D.int)) := if_pos allAt_ints
@[simp] theorem kAtL_err {c : PySem.Str} {fs : List (PySem.Str × D)} : kAtL (.err c fs) = .err c fs := Eq.trans rfl rfl
@[simp] theorem kC_err {x : D} {c : PySem.Str} {fs : List (PySem.Str × D)} : kC (.ok x) (.err c fs : R (List D)) = .err c fs := Eq.trans rfl rfl
@[simp] theorem kC_err1 {r : R (List D)} {c : PySem.Str} {fs : List (PySem.Str × D)} : kC (.err c fs) r = .err c fs := Eq.trans rfl rfl
@[simp] theorem kN_err {β : Type} {g : List D → Option β} {c : PySem.Str} {fs : List (PySem.Str × D)} : kN g (.err c fs) = .err c fs := Eq.trans rfl rfl
@[simp] theorem kCl_err {n : Nat} {m : List D → R D} {c : PySem.Str} {fs : List (PySem.Str × D)} : kCl n m (.err c fs) = .err c fs := Eq.trans rfl rfl
@[simp] theorem dListOf_l {xs : List D} : dListOf [.lst xs] = some (.lst xs) := rfl
@[simp] theorem dListOf_t {xs : List D} : dListOf [.tup xs] = some (.lst xs) := rfl
@[simp] theorem dTupOf_l {xs : List D} : dTupOf [.lst xs] = some (.tup xs) := rfl
@[simp] theorem dTupOf_t {xs : List D} : dTupOf [.tup xs] = some (.tup xs) := rfl
@[simp] theorem dRevL_l {xs : List D} : dRevL (.lst xs) = some (.lst xs.reverse) := rfl
end
/-! ### a sign in a text -/
theorem findN_one {s : List Nat} {c : Nat} : (findN s [c] 0).isSome = decide (c ∈ s) := by
  unfold findN
  rw [Nat.sub_zero, Bool.eq_iff_iff, List.find?_isSome, decide_eq_true_eq]
  constructor
  · rintro ⟨i, m, h⟩
    rw [Bool.and_eq_true, decide_eq_true_eq] at h
    obtain ⟨h1, h2⟩ := h
    rw [List.length_singleton] at h1
    have := eq_of_beq h2
    rw [List.length_singleton] at this
    have q : ((s.drop i).take 1)[0]? = some c := by rw [this]; rfl
    rw [List.getElem?_take_of_lt (by decide), List.getElem?_drop] at q
    exact List.mem_of_getElem? q
  · intro m
    obtain ⟨i, hi⟩ := List.getElem?_of_mem m
    have hl := (List.getElem?_eq_some_iff.mp hi).1
    refine ⟨i, List.mem_range'_1.mpr ⟨Nat.zero_le _, by omega⟩, ?_⟩
    rw [Bool.and_eq_true, decide_eq_true_eq, List.length_singleton]
    refine ⟨by omega, ?_⟩
    rw [beq_iff_eq, List.drop_eq_getElem_cons hl]
    show [s[i]] = [c]
    rw [List.getElem?_eq_getElem hl] at hi
    cases hi
    rfl
theorem dIn_one {s : List Nat} {c : Nat} : dIn (.str [c]) (.str s) = some (.bl (decide (c ∈ s))) := by
  show some (D.bl (findN s [c] 0).isSome) = _
  rw [findN_one]
theorem dNotIn_one {s : List Nat} {c : Nat} : dNotIn (.str [c]) (.str s) = some (.bl (!decide (c ∈ s))) := by
  show some (D.bl (!(findN s [c] 0).isSome)) = _
  rw [findN_one]
theorem mod_nat {y b : Int} (h : 0 < b) : ∃ a : Nat, y % b = a ∧ (a : Int) < b := ⟨(y % b).toNat, by have := seedpos (a := y) h; omega, by have := seedpos (a := y) h; omega⟩
end PM
set_option linter.all false
set_option maxRecDepth 100000
set_option maxHeartbeats 1000000
namespace PM
open PD
/-! ### different words, counted by their first places -/
/-- i is the first place of its word -/
noncomputable def fresh (ws : List (List Nat)) (i : Nat) : Bool := match ws[i]? with
  | some w => decide (w ∉ ws.take i)
  | none => false
/-- the words of length m -/
noncomputable def wordAt (s : List Nat) (m i : Nat) : List Nat := (s.drop i).take m
noncomputable def wordsOf (s : List Nat) (m : Nat) : List (List Nat) := (List.range (s.length + 1 - m)).map (wordAt s m)
/-- how many different words of length m -/
noncomputable def cnt (s : List Nat) (m : Nat) : Nat := (ded [] (wordsOf s m)).length
end PM
set_option linter.all false
set_option maxRecDepth 100000
/-! # Rules with conditions, for `simp only` with a discharger -/
namespace PD
section
variable {α : Type} {ρ ρ' : Env} {d x y z : D} {i j : Int} {k l : Nat} {p q : Prop} [Decidable p] [Decidable q] {s t : List Nat} {xs ys : List D}
theorem r_kIf_p {β : Type} {f g : Env → R β} (h : p) : kIf f g ρ (.ok (decide p)) = f ρ := by rw [decide_eq_true h]; rfl
theorem r_kIf_n {β : Type} {f g : Env → R β} (h : ¬ p) : kIf f g ρ (.ok (decide p)) = g ρ := by rw [decide_eq_false h]; rfl
theorem r_kIfS_p {f g : Env → R Fl} (h : p) : kIfS f g ρ (.ok (decide p)) = f ρ := by rw [decide_eq_true h]; rfl
theorem r_kIfS_n {f g : Env → R Fl} (h : ¬ p) : kIfS f g ρ (.ok (decide p)) = g ρ := by rw [decide_eq_false h]; rfl
theorem r_kAnd_p {g : Env → R Bool} (h : p) : kAnd g ρ (.ok (decide p)) = g ρ := by rw [decide_eq_true h]; rfl
theorem r_kAnd_n {g : Env → R Bool} (h : ¬ p) : kAnd g ρ (.ok (decide p)) = .ok false := by rw [decide_eq_false h]; rfl
theorem r_kOr_p {g : Env → R Bool} (h : p) : kOr g ρ (.ok (decide p)) = .ok true := by rw [decide_eq_true h]; rfl
theorem r_kOr_n {g : Env → R Bool} (h : ¬ p) : kOr g ρ (.ok (decide p)) = g ρ := by rw [decide_eq_false h]; rfl
theorem r_kAndV_p {g : Env → R D} (h : p) : kAndV g ρ (.ok (.bl (decide p))) = g ρ := by rw [decide_eq_true h]; rfl
theorem r_kAndV_n {g : Env → R D} (h : ¬ p) : kAndV g ρ (.ok (.bl (decide p))) = .ok (.bl false) := by rw [decide_eq_false h]; rfl
theorem r_kOrV_p {g : Env → R D} (h : p) : kOrV g ρ (.ok (.bl (decide p))) = .ok (.bl true) := by rw [decide_eq_true h]; rfl
theorem r_kOrV_n {g : Env → R D} (h : ¬ p) : kOrV g ρ (.ok (.bl (decide p))) = g ρ := by rw [decide_eq_false h]; rfl
theorem r_kNot : kNot (.ok (decide p)) = .ok (decide ¬ p) := by by_cases h : p <;> simp [h]
theorem r_dNot : dNot (.bl (decide p)) = some (.bl (decide ¬ p)) := by by_cases h : p <;> simp [h]
theorem r_kCh_p {g' : D → D → Option D} {c : Env → R D} (h : p) : kCh g' c ρ y (some (.bl (decide p))) = k2 g' (.ok y) (c ρ) := by rw [decide_eq_true h]; rfl
theorem r_kCh_n {g' : D → D → Option D} {c : Env → R D} (h : ¬ p) : kCh g' c ρ y (some (.bl (decide p))) = .ok (.bl false) := by rw [decide_eq_false h]; rfl
theorem r_not_t : decide (¬ True) = false := by decide
theorem r_bnot : (!decide p) = decide (¬ p) := by by_cases h : p <;> simp [h]
theorem r_eq_i : dEq (.int i) (.int j) = some (.bl (decide (i = j))) := by rw [dEq_i]; by_cases h : i = j <;> simp [h]
theorem r_ne_i : dNe (.int i) (.int j) = some (.bl (decide (¬ i = j))) := by rw [dNe_i]; by_cases h : i = j <;> simp [h]
theorem r_eq_s : dEq (.str s) (.str t) = some (.bl (decide (s = t))) := by rw [dEq_s]; by_cases h : s = t <;> simp [h]
theorem r_ne_s : dNe (.str s) (.str t) = some (.bl (decide (¬ s = t))) := by rw [dNe_s]; by_cases h : s = t <;> simp [h]
theorem r_mul (h1 : -4294967296 < i) (h2 : i < 4294967296) (h3 : -4294967296 < j) (h4 : j < 4294967296) : dMul (.int i) (.int j) = some (.int (i * j)) := dMul_i (by
  have a : i.natAbs.log2 < 32 := by
    by_cases c : i.natAbs = 0
    · rw [c]; decide
    · exact (Nat.log2_lt c).mpr (by omega)
  have b : j.natAbs.log2 < 32 := by
    by_cases c : j.natAbs = 0
    · rw [c]; decide
    · exact (Nat.log2_lt c).mpr (by omega)
  have : MB = MB := rfl
  exact Nat.lt_of_lt_of_le (Nat.add_lt_add a b) (by decide))
theorem r_div (h : 0 < j) (h2 : j < 4294967296) : dDiv (.int i) (.int j) = some (.int (i / j)) := dDiv_i h (by
  have b : j.natAbs.log2 < 32 := (Nat.log2_lt (by omega)).mpr (by omega)
  omega)
/-- an index as a list's own -/
theorem r_ixn : dIx (.lst xs) (.int (k : Nat)) = xs[k]? := by
  show L2.atI xs ((k : Nat) : Int) = xs[k]?
  unfold L2.atI
  by_cases h : k < xs.length
  · rw [ixN_nat h]; rfl
  · have e : L2.ixN xs.length (k : Int) = none := by unfold L2.ixN; rw [if_pos (by omega), if_neg (by omega)]
    rw [e, List.getElem?_eq_none (by omega)]; rfl
theorem r_ixtn : dIx (.tup xs) (.int (k : Nat)) = xs[k]? := r_ixn (xs := xs)
theorem r_ixsn (hl : s.length ≤ 1000000) : dIx (.str s) (.int (k : Nat)) = (s[k]?).map fun c => .str [c] := by
  show (if s.length ≤ LN then _ else _) = _
  rw [if_pos (show s.length ≤ LN from hl)]
  unfold L2.atI
  by_cases h : k < s.length
  · rw [ixN_nat h]; rfl
  · have e : L2.ixN s.length (k : Int) = none := by unfold L2.ixN; rw [if_pos (by omega), if_neg (by omega)]
    rw [e, List.getElem?_eq_none (by omega)]; rfl
theorem r_ixc {ns : List Int} : dIx (.scr ns) (.int (k : Nat)) = (ns[k]?).map .int := by
  show (L2.atI ns ((k : Nat) : Int)).map _ = _
  unfold L2.atI
  by_cases h : k < ns.length
  · rw [ixN_nat h]; rfl
  · have e : L2.ixN ns.length (k : Int) = none := by unfold L2.ixN; rw [if_pos (by omega), if_neg (by omega)]
    rw [e, List.getElem?_eq_none (by omega)]; rfl
theorem r_last (h : xs.length = k + 1) : dIx (.lst xs) (.int (-1)) = xs[k]? := by
  show L2.atI xs (-1) = _
  unfold L2.atI
  have e : L2.ixN xs.length (-1) = some k := by
    unfold L2.ixN
    rw [h]
    simp
    omega
  rw [e]; rfl
/-! lengths and room -/
theorem r_len_s (h : s.length ≤ 1000000) : dLen [.str s] = some (.int s.length) := dLen_s h
theorem r_add_s (h : s.length + t.length ≤ 1000000) : dAdd (.str s) (.str t) = some (.str (s ++ t)) := dAdd_s h
theorem r_add_l (h : xs.length + ys.length ≤ 1000000) : dAdd (.lst xs) (.lst ys) = some (.lst (xs ++ ys)) := dAdd_l h
theorem r_cat_l (h : xs.length + ys.length ≤ 1000000) : dCat (.lst xs) (.lst ys) = some (.lst (xs ++ ys)) := dCat_l h
theorem r_lst (h : xs.length ≤ 1000000) : dLst xs = some (.lst xs) := dLst_ok h
theorem r_tup (h : xs.length ≤ 1000000) : dTup xs = some (.tup xs) := dTup_ok h
theorem r_R1 (h : -1000000000 ≤ j) (h2 : j ≤ 1000000000) : gR1 [.int j] = some (rngL 0 j.toNat) := gR1_ok h h2
theorem r_R1n (h2 : k ≤ 1000000000) : gR1 [.int (k : Nat)] = some (rngL 0 k) := by
  rw [r_R1 (by omega) (by omega), Int.toNat_natCast]
theorem r_R2 (h : -1000000000 ≤ i) (h2 : i ≤ 1000000000) (h3 : -1000000000 ≤ j) (h4 : j ≤ 1000000000) : gR2 [.int i, .int j] = some (rngL i (j - i).toNat) := gR2_ok h h2 h3 h4
theorem r_sl_s {lo hi : Option Int} (h : s.length ≤ 1000000) : dSl (.str s) lo hi = some (.str (cutG s lo hi)) := dSl_s h
theorem r_app {n : Nat} (h : xs.length < 1000000) : kApp n ρ (some xs) (.ok d) = .ok (.nx (ρ.set n (some (.lst (xs ++ [d]))))) := kApp_ok h
theorem r_kLn (h : xs.length ≤ 1000000) : kLn (.ok xs) = .ok (.lst xs) := kLn_ok h
end
end PD
namespace PD
theorem isAtom_i {i : Int} : isAtom (.int i) = true := rfl
theorem isAtom_s {s : List Nat} : isAtom (.str s) = true := rfl
theorem isAtom_n : isAtom .non = true := rfl
end PD
namespace PD
/-! ### outcomes -/
/-- what a suite comes to -/
noncomputable def Oc (r : R Fl) (N : Env → Prop) (K : D → Prop) (B C : Env → Prop) (X : PySem.Str → List (PySem.Str × D) → Prop) : Prop := match r with
  | .ok (.nx ρ) => N ρ
  | .ok (.rt d) => K d
  | .ok (.bk ρ) => B ρ
  | .ok (.ct ρ) => C ρ
  | .ok (.ex c fs _) => X c fs
  | _ => False
section
variable {N B C : Env → Prop} {K : D → Prop} {X : PySem.Str → List (PySem.Str × D) → Prop} {ρ : Env} {d : D} {r : R Fl}
theorem o_nx : Oc (.ok (.nx ρ)) N K B C X = N ρ := Eq.trans rfl rfl
theorem o_rt : Oc (.ok (.rt d)) N K B C X = K d := Eq.trans rfl rfl
theorem o_bk : Oc (.ok (.bk ρ)) N K B C X = B ρ := Eq.trans rfl rfl
theorem o_ct : Oc (.ok (.ct ρ)) N K B C X = C ρ := Eq.trans rfl rfl
theorem o_ex {c : PySem.Str} {fs : List (PySem.Str × D)} : Oc (.ok (.ex c fs ρ)) N K B C X = X c fs := Eq.trans rfl rfl
noncomputable abbrev noE : Env → Prop := fun _ => False
noncomputable abbrev noD : D → Prop := fun _ => False
noncomputable abbrev noX : PySem.Str → List (PySem.Str × D) → Prop := fun _ _ => False
theorem oc_nx (h : Oc r N noD noE noE noX) : ∃ ρ, r = .ok (.nx ρ) ∧ N ρ := by
  unfold Oc at h
  split at h
  · exact ⟨_, rfl, h⟩
  all_goals exact h.elim
noncomputable def Ot (o : Option Env) (P : Env → Prop) : Prop := match o with
  | some ρ => P ρ
  | none => False
theorem ot_some {P : Env → Prop} : Ot (some ρ) P = P ρ := Eq.trans rfl rfl
theorem loop_oc {T : D → Env → Option Env} {b : Env → R Fl} (I : Nat → Env → Prop) (K : D → Prop) (B : Env → Prop) (X : PySem.Str → List (PySem.Str × D) → Prop) : ∀ (ds : List D) (k : Nat) (ρ : Env), I k ρ →
    (∀ (j : Nat) (d : D) (ρ : Env), ds[j]? = some d → I (k + j) ρ → Ot (T d ρ) fun ρ1 => Oc (b ρ1) (I (k + j + 1)) K B (I (k + j + 1)) X) →
    Oc (sLoop T b ds ρ) (fun ρ' => I (k + ds.length) ρ' ∨ B ρ') K noE noE X
  | [], k, ρ, h, _ => .inl h
  | d :: ds, k, ρ, h, hs => by
    have h1 := hs 0 d ρ rfl h
    have hs' : ∀ (j : Nat) (d' : D) (ρ : Env), ds[j]? = some d' → I (k + 1 + j) ρ → Ot (T d' ρ) fun ρ1 => Oc (b ρ1) (I (k + 1 + j + 1)) K B (I (k + 1 + j + 1)) X := fun j d' ρ' q h' => by
      have := hs (j + 1) d' ρ' (by rw [List.getElem?_cons_succ]; exact q) (by rw [show k + (j + 1) = k + 1 + j by omega]; exact h')
      rw [show k + (j + 1) + 1 = k + 1 + j + 1 by omega] at this
      exact this
    have z : k + (d :: ds).length = k + 1 + ds.length := by rw [List.length_cons]; omega
    rw [z]
    show Oc (match T d ρ with | none => _ | some ρ1 => _) _ _ _ _ _
    unfold Ot at h1
    split at h1
    · rename_i ρ1 e
      rw [e]
      show Oc (b ρ1 >>= _) _ _ _ _ _
      unfold Oc at h1
      split at h1
      · rename_i ρ2 e2
        rw [e2]
        exact loop_oc I K B X ds (k + 1) ρ2 h1 hs'
      · rename_i d2 e2
        rw [e2]
        exact h1
      · rename_i ρ2 e2
        rw [e2]
        exact .inr h1
      · rename_i ρ2 e2
        rw [e2]
        exact loop_oc I K B X ds (k + 1) ρ2 h1 hs'
      · rename_i c fs ρ2 e2
        rw [e2]
        exact h1
      · exact h1.elim
    · exact h1.elim
/-- each turn goes on -/
theorem loop_I {T : D → Env → Option Env} {b : Env → R Fl} (I : Nat → Env → Prop) (ds : List D) (ρ : Env) (h : I 0 ρ)
    (hs : ∀ (j : Nat) (d : D) (ρ : Env), ds[j]? = some d → I j ρ → Ot (T d ρ) fun ρ1 => Oc (b ρ1) (I (j + 1)) noD noE (I (j + 1)) noX) : ∃ ρ', sLoop T b ds ρ = .ok (.nx ρ') ∧ I ds.length ρ' := by
  have := oc_nx (loop_oc I noD noE noX ds 0 ρ h fun j d ρ q i => by rw [Nat.zero_add] at i ⊢; exact hs j d ρ q i)
  rw [Nat.zero_add] at this
  obtain ⟨ρ', e, h1 | h1⟩ := this
  · exact ⟨ρ', e, h1⟩
  · exact h1.elim
end
end PD
set_option linter.all false
set_option maxRecDepth 100000
set_option maxHeartbeats 1000000
namespace PF
open PD PM
noncomputable def kLs : R (List D) → R D := fun r => r >>= fun xs => match strsOf xs with
  | some zs => if zs.length ≤ 4000 then .ok (.int ((ded [] zs).length : Nat)) else .stuck
  | none => .stuck
noncomputable def kLsc (T : D → Env → Option Env) (ft : Env → R Bool) (fe : Env → R D) (ρ : Env) : R (List D) → R D := fun r => r >>= fun ds => kLs (lcGo T ft fe ρ ds)
@[simp] theorem kLsc_ok {T : D → Env → Option Env} {ft : Env → R Bool} {fe : Env → R D} {ρ : Env} {ds : List D} : kLsc T ft fe ρ (.ok ds) = kLs (lcGo T ft fe ρ ds) := Eq.trans rfl rfl
@[simp] theorem mLenSc_eq {fi : Env → R (List D)} {vs : List Nat} {T : D → Env → Option Env} {ft : Env → R Bool} {fe : Env → R D} {ρ : Env} : mLenSc fi vs T ft fe ρ = kLsc T ft fe (wipeD ρ vs) (fi ρ) := Eq.trans rfl rfl
theorem row_ok {s : List Nat} {m : Nat} {o1 o3 o4 : Option D} (hs : s.length ≤ 1000) (h : m ≤ s.length) : lcGo (gSet 4) (mB (m2 dEq (mM dFind (mV 0) (mCons (mSl dSl (mV 0) (mSo (mV 4)) (mSo (m2 dAdd (mV 4) (mV 2)))) mNil)) (mV 4))) (mV 4) [some (.str s), o1, some (.int m), o3, o4] (rngL 0 (s.length + 1 - m)) = .ok (((List.range (s.length + 1 - m)).filter fun i => findI s (wordAt s m i) 0 == (i : Int)).map fun i : Nat => D.int i) := by
  rw [rngL0, List.map_map]
  have := lc_fm (T := gSet 4) (ft := mB (m2 dEq (mM dFind (mV 0) (mCons (mSl dSl (mV 0) (mSo (mV 4)) (mSo (m2 dAdd (mV 4) (mV 2)))) mNil)) (mV 4))) (fe := mV 4) (ρ := [some (.str s), o1, some (.int m), o3, o4]) (fun i : Nat => D.int i) (fun i => findI s (wordAt s m i) 0 == (i : Int)) (fun i : Nat => D.int i) (xs := List.range (s.length + 1 - m)) fun i mi => ⟨_, rfl, by
      have c : dSl (.str s) (some (i : Int)) (some ((i : Int) + m)) = some (.str (wordAt s m i)) := by
        rw [dSl_s (by rw [LNe]; omega), cut_both (by omega) (by omega), Int.toNat_natCast, show ((i : Int) + m).toNat - i = m by omega]
        rfl
      simp [c], fun _ => rfl⟩
  exact this
/-- the sizes whose count is over `v` a place -/
noncomputable def over (s : List Nat) (v : Int) : List Nat := (List.range s.length).filter fun i => decide (v * ((i : Int) + 1) < cnt s (i + 1))
end PF
set_option Elab.async false
set_option linter.all false
set_option maxRecDepth 100000
set_option maxHeartbeats 1000000
/-! # text.rfind -/
namespace PD
open PySem PySem.Spec PyProof.Rows L2
/-- the last number under n with p -/
noncomputable def lastU (p : Nat → Bool) : Nat → Option Nat
  | 0 => none
  | n + 1 => if p n = true then some n else lastU p n
noncomputable def atP (s t : List Nat) (i : Nat) : Bool := decide (i + t.length ≤ s.length) && ((s.drop i).take t.length == t)
noncomputable def rfindI (s t : List Nat) : Int := match lastU (atP s t) (s.length + 1) with
  | some i => (i : Nat)
  | none => -1
noncomputable def dRfind (s : List Nat) : List D → Option D
  | [.str t] => some (.int (rfindI s t))
  | _ => none
section
variable {L : LE}
end
@[simp] theorem dRfind_s {s t : List Nat} : dRfind s [.str t] = some (.int (rfindI s t)) := Eq.trans rfl rfl
end PD
set_option Elab.async false
set_option linter.all false
set_option maxRecDepth 100000
set_option maxHeartbeats 1000000
/-! # xs.reverse() of one's own list; comprehensions over one's own list that stays one's own -/
namespace PD
open PySem PySem.Spec PyProof.Rows L2
/-- a list without lists in it -/
noncomputable def gNLL : D → R D := fun d => match d with
  | .lst xs => if noLs xs = true then .ok (.lst xs) else .stuck
  | _ => .stuck
noncomputable def mNLL (f : Env → R D) : Env → R D := fun ρ => f ρ >>= gNLL
section
variable {L : LE} {W : WX} {F1 H1 : Hp}
theorem newF_none {F2 : Hp} (e : Ext L.T (lf F1 H1) H1 F2 H2) {a : Addr} (h : F2 a = none) : newF F1 H1 F2 a = none := by
  unfold newF
  cases q : F1 a with
  | some o =>
    have := e.ff a o (lf_F q)
    rw [h] at this; cases this
  | none =>
    dsimp only
    split
    · rfl
    · exact h
theorem postE_lfL {r0 : R D} {σ : L2.St} {Q : VK} (fh : Same F1 H1) (nf : NoT F1) (p : PostE L F1 H1 (.l .s) (r0 >>= gNLL) W σ Q) : PostE L (lf F1 H1) H1 (.l .s) r0 W σ Q := by
  cases r0 with
  | ok d =>
    rw [bind_ok] at p
    intro v F2 H2 S e o nd fr
    obtain ⟨ex, k⟩ := newF_ext fh nf e
    cases o with
    | l h r =>
      obtain ⟨dv, eS⟩ := OwnL.datS r
      subst eS
      unfold gNLL at p
      dsimp only at p
      rename_i ds
      by_cases n : noLs ds = true
      · rw [if_pos n] at p
        exact p _ _ H2 _ ex (.l h (OwnL.ofDat (datL_noL k n dv))) nd fun a m => ⟨newF_none e (fr a m).1, (fr a m).2⟩
      · rw [if_neg n] at p; exact p.elim
  | err c fs =>
    rw [bind_err] at p
    intro cls d F2 H2 e x
    obtain ⟨ex, k⟩ := newF_ext fh nf e
    exact p cls d _ H2 ex (errOk_noL k x)
  | stuck => exact p
theorem rep_lf {fl fl' : List Sh} {F B H : Hp} {σ : L2.St} {ρ : Env} (ha : fl.all Sh.listy = true) (e : fl.map (fun _ => Sh.s) = fl') (r : Rep L fl F B σ H ρ) : Rep L fl' (lf F H) (offH (lf F H) H) σ H ρ := by
  subst e
  refine ⟨lf_bs r.bs, by rw [List.length_map]; exact r.ls, by rw [List.length_map]; exact r.lr, fun i v eo h => ?_, fun _ => [], fun i d h => ?_, fun _ _ a m => (nomatch m), fun _ => List.nodup_nil, fun _ a m => (nomatch m)⟩
  · rw [List.getElem?_map] at h
    obtain ⟨s, _, z⟩ := Option.map_eq_some_iff.mp h
    cases z
  · obtain ⟨Ss, h1, _, _, h4⟩ := r.sl
    obtain ⟨v, sh, a1, a2, a3, a4⟩ := h1 i d h
    have ls : sh.listy = true := List.all_eq_true.mp ha sh (List.mem_of_getElem? a2)
    exact ⟨v, .s, a1, by rw [List.getElem?_map, a2]; rfl, rfl, .d (a4.lf ls fun a m => (h4 i a m).1)⟩
end
section
variable {X : Cx} {L : LE} {J : Jn} {fl fl1 : List Sh} {W : WX} {pos : Pos}
theorem e_brw {fl' : List Sh} {e : Expr} {f : Env → R D} (he : PE X e (tD L fl' (.l .s) W f)) (hsh : fl.map (fun _ => Sh.s) = fl' := by rfl) (hall : fl.all Sh.listy = true := by rfl) : PE X e (tD L fl (.l .s) W (mNLL f)) :=
  he.imp fun σ H Q ⟨F, B, ρ, r, p⟩ => ⟨lf F H, offH (lf F H) H, ρ, rep_lf hall hsh r, postE_lfL r.bs.fh r.bs.nf p⟩
end
/-! x in l of nested data -/
section
variable {X : Cx} {L : LE} {bw : Bool}
end
@[simp] theorem mNLL_eq {f : Env → R D} {ρ : Env} : mNLL f ρ = (f ρ >>= gNLL) := rfl
end PD
set_option linter.all false
set_option maxRecDepth 100000
set_option maxHeartbeats 1000000
/-! # shallow data: what == and in may compare -/
namespace PD
noncomputable def okQ : Nat → D → Prop
  | _, .non => True
  | _, .bl _ => True
  | _, .int _ => True
  | _, .str s => ∀ c ∈ s, c < 1114112
  | n + 1, .lst xs => ∀ x ∈ xs, okQ n x
  | n + 1, .tup xs => ∀ x ∈ xs, okQ n x
  | _, _ => False
noncomputable def shQ (n : Nat) (d : D) : Prop := noR d = true ∧ (toP d).canLay0 = true ∧ (toP d).depth ≤ n
theorem okQ_all {n : Nat} : ∀ {xs : List D}, (∀ x ∈ xs, shQ n x) → noRs xs = true ∧ PySem.PyData.canLayAll0 (toPs xs) = true ∧ PySem.PyData.depthAll (toPs xs) ≤ n
  | [], _ => ⟨rfl, rfl, Nat.zero_le _⟩
  | x :: xs, h => by
    obtain ⟨a, b, c⟩ := okQ_all (xs := xs) (fun y m => h y (List.mem_cons_of_mem _ m))
    obtain ⟨d, e, f⟩ := h x List.mem_cons_self
    refine ⟨?_, ?_, ?_⟩
    · show (noR x && noRs xs) = true
      rw [d, a]; rfl
    · show ((toP x).canLay0 && PySem.PyData.canLayAll0 (toPs xs)) = true
      rw [e, b]; rfl
    · show max (toP x).depth (PySem.PyData.depthAll (toPs xs)) ≤ n
      omega
theorem shQ_of : ∀ (n : Nat) (d : D), okQ n d → shQ n d := by
  intro n
  induction n with
  | zero =>
    intro d h
    cases d with
    | non => exact ⟨rfl, rfl, Nat.zero_le _⟩
    | bl b => exact ⟨rfl, rfl, Nat.zero_le _⟩
    | int i => exact ⟨rfl, rfl, Nat.zero_le _⟩
    | str s =>
      refine ⟨rfl, ?_, Nat.zero_le _⟩
      show ((s.toArray).all (· < 0x110000)) = true
      rw [← Array.all_toList, List.all_eq_true]
      exact fun c m => decide_eq_true (h c m)
    | _ => exact h.elim
  | succ n ih =>
    intro d h
    cases d with
    | non => exact ⟨rfl, rfl, Nat.zero_le _⟩
    | bl b => exact ⟨rfl, rfl, Nat.zero_le _⟩
    | int i => exact ⟨rfl, rfl, Nat.zero_le _⟩
    | str s =>
      refine ⟨rfl, ?_, Nat.zero_le _⟩
      show ((s.toArray).all (· < 0x110000)) = true
      rw [← Array.all_toList, List.all_eq_true]
      exact fun c m => decide_eq_true (h c m)
    | lst xs =>
      obtain ⟨a, b, c⟩ := okQ_all (n := n) (xs := xs) fun x m => ih x (h x m)
      exact ⟨a, b, Nat.succ_le_succ c⟩
    | tup xs =>
      obtain ⟨a, b, c⟩ := okQ_all (n := n) (xs := xs) fun x m => ih x (h x m)
      exact ⟨a, b, Nat.succ_le_succ c⟩
    | _ => exact h.elim
theorem okP_of {n : Nat} {d : D} (h : okQ n d) (hn : n ≤ 64) : okP d = true := by
  obtain ⟨a, b, c⟩ := shQ_of n d h
  unfold okP PySem.SeqAt.shaped
  rw [a, b, decide_eq_true (by omega)]
  rfl
end PD
set_option Elab.async false
set_option linter.all false
set_option maxRecDepth 100000
set_option maxHeartbeats 2000000
/-! # what is owned, read as if shared; comprehensions of lists of one's own; x[i] op= e; x[i].append(e) -/
namespace PD
open PySem PySem.Spec PyProof.Rows L2
section
variable {X : Cx} {L : LE} {J : Jn} {fl fl1 fl' : List Sh} {W : WX} {pos : Pos}
theorem t_brw {fl' : List Sh} {e : Expr} {f : Env → R Bool} (he : PT X e (tT L fl' W f)) (hsh : fl.map (fun _ => Sh.s) = fl' := by rfl) (hall : fl.all Sh.listy = true := by rfl) : PT X e (tT L fl W f) :=
  he.imp fun σ H Q ⟨F, B, ρ, r, p⟩ => ⟨lf F H, offH (lf F H) H, ρ, rep_lf hall hsh r, by
    unfold PostT at p ⊢
    split at p
    · intro F2 H2 e
      obtain ⟨ex, _⟩ := newF_ext r.bs.fh r.bs.nf e
      exact p _ H2 ex
    · intro cls d F2 H2 e x
      obtain ⟨ex, k⟩ := newF_ext r.bs.fh r.bs.nf e
      exact p cls d _ H2 ex (errOk_noL k x)
    · exact p⟩
theorem t_lcO {sh : Sh} (nb : sh.noB = true) {fi : Env → R (List D)} {vs : List Nat} {T : D → Env → Option Env} {ft : Env → R Bool} {fe : Env → R D} {σ : L2.St} {H : Hp} {Q : VK} (hw : noXs fl vs = true) (h : tD L fl (.l sh) W (mLc fi vs T ft fe) σ H Q) :
    tLc (tI L fl W fi) (tG L fl fl vs T) (tT L fl W0 ft) (tD L fl sh W0 fe) vs σ H Q := by
  obtain ⟨F, B, ρ, r, p⟩ := h
  refine ⟨F, B, ρ, r, ?_⟩
  unfold mLc at p
  cases qi : fi ρ with
  | err c fs => rw [qi, bind_err] at p; exact p
  | stuck => rw [qi, bind_stuck] at p; exact p
  | ok ds =>
    rw [qi, bind_ok] at p
    intro Jt F1 H1 e1 w Dn hD
    have r1 := r.ext e1
    have p := p.weak e1
    cases qg : lcGo T ft fe (wipeD ρ vs) ds with
    | err c fs =>
      exfalso
      exact lc_noerr _ qg
    | stuck => rw [qg, bind_stuck] at p; exact p.elim
    | ok xs =>
      rw [qg, bind_ok] at p
      by_cases hlen : xs.length ≤ LN
      · rw [if_pos hlen] at p
        have hF1 : F1 Dn = none := e1.fh.free hD
        refine ⟨fun i m H => m = ds.length - i ∧ i ≤ ds.length ∧ ∃ F' acc dacc rest SA, Ext L.T F1 H1 F' H ∧ F' Dn = none ∧ H Dn = some (.lst acc) ∧ (OwnL L.K F' H sh acc dacc SA ∧ SA.Nodup ∧ Dn ∉ SA ∧ ∀ a ∈ SA, F' a = none ∧ Nw H1 a) ∧ lcGo T ft fe (wipeD ρ vs) (ds.drop i) = .ok rest ∧ xs = dacc ++ rest,
          ⟨ds.length, rfl, Nat.zero_le _, F1, [], [], xs, [], Ext.newH r1.bs.fh r1.bs.nf hD, hF1, upd_same, ⟨.nil, List.nodup_nil, (fun m => nomatch m), fun a m => nomatch m⟩, qg, rfl⟩, ?_⟩
        rintro i m H2 ⟨rfl, hle, F2, acc, dacc, rest, SA, e2, hF2, hacc, ⟨hd, hnd, hDS, hSA⟩, hg, hx⟩
        have keep : ∀ {F5 H5}, Ext L.T F2 H2 F5 H5 → OwnL L.K F5 H5 sh acc dacc SA ∧ SA.Nodup ∧ Dn ∉ SA ∧ ∀ a ∈ SA, F5 a = none ∧ Nw H1 a := fun e => ⟨hd.mono e.ff.sm e.hh, hnd, hDS, fun a m => by
          obtain ⟨o, h1, h2⟩ := hd.there a m
          exact ⟨e.hid a o h1 h2 (hSA a m).1, (hSA a m).2⟩⟩
        obtain ⟨w1, w2⟩ := w F2 H2 e2.ff e2.fh e2.nt
        by_cases hlt : i < ds.length
        · have hdi : ds[i]? = some ds[i] := List.getElem?_eq_getElem hlt
          obtain ⟨go, yl⟩ := w1 i _ hdi
          refine .inr ⟨go, fun H' => ∃ F' acc dacc rest SA, Ext L.T F1 H1 F' H' ∧ F' Dn = none ∧ H' Dn = some (.lst acc) ∧ (OwnL L.K F' H' sh acc dacc SA ∧ SA.Nodup ∧ Dn ∉ SA ∧ ∀ a ∈ SA, F' a = none ∧ Nw H1 a) ∧ lcGo T ft fe (wipeD ρ vs) (ds.drop (i + 1)) = .ok rest ∧ xs = dacc ++ rest,
            fun H' n => ⟨ds.length - (i + 1), by omega, rfl, hlt, n⟩, fun x H3 y => ?_⟩
          obtain ⟨F3, e3, d3⟩ := yl x H3 y
          have e13 := e2.trans e3
          have r3 : Rep L fl F3 B (wipe σ vs) H3 (wipeD ρ vs) := (r1.ext e13).wipe vs hw
          rw [List.drop_eq_getElem_cons hlt] at hg
          unfold lcGo at hg
          cases qT : T ds[i] (wipeD ρ vs) with
          | none => rw [qT] at hg; cases hg
          | some ρ' =>
            rw [qT] at hg
            dsimp only at hg
            refine ⟨F3, B, wipeD ρ vs, ds[i], r3, d3, ρ', qT, fun σ' ⟨hl', hk'⟩ r4 => ⟨?_, ?_⟩⟩
            · rw [wipe_same hl' hk', wipe_wipe]
            · refine ⟨F3, B, ρ', r4, ?_⟩
              cases qt : ft ρ' with
              | err c fs => rw [qt] at hg; cases hg
              | stuck => rw [qt] at hg; cases hg
              | ok b =>
                rw [qt] at hg
                have hg : (if b = true then nE (fe ρ') >>= fun y => lcGo T ft fe (wipeD ρ vs) (ds.drop (i + 1)) >>= fun ys => .ok (y :: ys) else lcGo T ft fe (wipeD ρ vs) (ds.drop (i + 1))) = .ok rest := hg
                intro F4 H4 e4
                have hF4 : ∀ {F5 H5}, Ext L.T F2 H2 F5 H5 → F5 Dn = none := fun e => e.hid Dn _ hacc rfl hF2
                cases b with
                | false =>
                  rw [if_neg Bool.false_ne_true] at hg ⊢
                  have e24 := e3.trans e4
                  exact ⟨F4, acc, dacc, rest, SA, e13.trans e4, hF4 e24, e24.hh _ _ hacc rfl, keep e24, hg, hx⟩
                | true =>
                  rw [if_pos rfl] at hg ⊢
                  refine ⟨F4, B, ρ', r4.ext e4, ?_⟩
                  cases qe : fe ρ' with
                  | err c fs => rw [qe] at hg; cases hg
                  | stuck => rw [qe] at hg; cases hg
                  | ok y =>
                    rw [qe] at hg
                    have hg : (lcGo T ft fe (wipeD ρ vs) (ds.drop (i + 1)) >>= fun ys => .ok (y :: ys)) = .ok rest := hg
                    intro v F5 H5 S5 e5 o5 nd5 fr5
                    have e25 := (e3.trans e4).trans e5
                    cases ql : lcGo T ft fe (wipeD ρ vs) (ds.drop (i + 1)) with
                    | err c fs => rw [ql] at hg; cases hg
                    | stuck => rw [ql] at hg; cases hg
                    | ok ys =>
                      rw [ql, bind_ok] at hg
                      cases hg
                      have hacc5 := e25.hh _ _ hacc rfl
                      have hlen2 : acc.length < LN := by
                        have h1 := hd.length
                        rw [hx, List.length_append, List.length_cons] at hlen
                        omega
                      obtain ⟨k1, k2, k3, k4⟩ := keep e25
                      have dnS5 : Dn ∉ S5 := fun m => (fr5 Dn m).2.no ((e3.trans e4).hh _ _ hacc rfl) rfl
                      have apart : ∀ a ∈ SA, a ∉ S5 := fun a m w => by
                        obtain ⟨o, h1, h2⟩ := hd.there a m
                        exact (fr5 a w).2.no ((e3.trans e4).hh a o h1 h2) h2
                      have offD : ∀ a ∈ SA ++ S5, upd H5 Dn (.lst (acc ++ [v])) a = H5 a := fun a m => upd_ne fun z => by
                        rcases List.mem_append.mp m with m | m
                        · exact k3 (z ▸ m)
                        · exact dnS5 (z ▸ m)
                      refine ⟨acc, hacc5, lt_line hlen2, F5, acc ++ [v], dacc ++ [y], ys, SA ++ S5, ?_, hF4 e25, upd_same, ⟨OwnL.at (Sm.refl _) nb (k1.append (.one o5)) offD, List.nodup_append.mpr ⟨k2, nd5, fun a m b w z => apart a m (z ▸ w)⟩, fun m => ?_, fun a m => ?_⟩, rfl, by rw [hx, List.append_assoc]; rfl⟩
                      rotate_left
                      · rcases List.mem_append.mp m with m | m
                        · exact k3 m
                        · exact dnS5 m
                      · rcases List.mem_append.mp m with m | m
                        · exact k4 a m
                        · exact ⟨(fr5 a m).1, (fr5 a m).2.back (e13.trans e4).hh⟩
                      have e15 := (e13.trans e4).trans e5
                      have ne : ∀ a o, H1 a = some o → a ≠ Dn := fun a o h z => by rw [z, hD] at h; cases h
                      refine ⟨fun a o h t => by rw [upd_ne (ne a o h)]; exact e15.hh a o h t, fun P m h => ?_, e15.ff, fun a o h => ?_, e15.hid, e15.nt⟩
                      · obtain ⟨ps, q1, q2⟩ := e15.ht P m h
                        obtain ⟨ps0, q3, _⟩ := h
                        exact ⟨ps, by rw [upd_ne (ne P _ q3)]; exact q1, q2⟩
                      · rw [upd_ne fun z => by rw [z, hF4 e25] at h; cases h]
                        exact e15.fh a o h
        · have e : i = ds.length := by omega
          subst e
          rw [List.drop_length] at hg
          cases hg
          refine .inl ⟨w2 _ (Nat.le_refl _), ?_⟩
          refine p _ F2 H2 (Dn :: SA) e2 (.l hacc (by rw [hx, List.append_nil]; exact hd)) (List.nodup_cons.mpr ⟨hDS, hnd⟩) fun a m => ?_
          rcases List.mem_cons.mp m with e | m
          · subst e
            exact ⟨hF2, .of hD⟩
          · exact hSA a m
      · rw [if_neg hlen] at p; exact p.elim
theorem s_setLcO {sh : Sh} (i : Nat) {y : Str} {py spos : Pos} {elt tg iter : Expr} {ifs : List Expr} {scope : Scope} (own : List (Str × Nat)) {fi : Env → R (List D)} {T : D → Env → Option Env} {ft : Env → R Bool} {fe : Env → R D} (hN : X.N.Nodup) (hi : PI X tg iter (tI L fl W fi)) (ok : blkC X.N X.env.scope scope own = true)
    (hg : ∀ (s : Shared) (H : Hp) (C : Addr) (cl : List (Str × Addr)) (fp : List Addr), PG (X.blk s H scope (compEnvC scope cl C X.env) fp) tg (tG L fl fl (own.map (·.2)) T))
    (ht : ∀ (s : Shared) (H : Hp) (C : Addr) (cl : List (Str × Addr)) (fp : List Addr), PTs (X.blk s H scope (compEnvC scope cl C X.env) fp) ifs (tT L fl W0 ft))
    (he : ∀ (s : Shared) (H : Hp) (C : Addr) (cl : List (Str × Addr)) (fp : List Addr), PE (X.blk s H scope (compEnvC scope cl C X.env) fp) elt (tD L fl sh W0 fe))
    (hsw : swapsWith (.ListComp elt [⟨tg, iter, ifs, 0⟩] scope pos) (some (.Name y py)) spos.line X.env = pure true) (hf' : fl.set i (.l sh) = fl1 := by rfl) (nb : sh.noB = true := by rfl) (hc : X.calm = true := by rfl) (hy : X.N[i]? = some y := by rfl) (hyl : X.env.scope.names.lookup y = some .local := by rfl) (hw : noXs fl (own.map (·.2)) = true := by rfl) (hs : ∀ x, foldedSetIterable iter X.env x = pure x := by intro _; rfl) :
    PS X (.Assign [.Name y py] (.ListComp elt [⟨tg, iter, ifs, 0⟩] scope pos) spos) (tS L J fl fl1 W (sSet i (mLc fi (own.map (·.2)) T ft fe))) :=
  (ps_setLc hc hN hy hyl hsw hi (blkOk_by ok) hg ht he hs).imp fun D σ H ⟨F, B, ρ, r, p⟩ => t_lcO (L := L) (fl := fl) (W := W) nb hw ⟨F, B, ρ, r, PostS.bindE (sh := .l sh) r p fun d v F' H' S _ e _ o nd fr p1 => by
    subst hf'
    exact p1 _ F' H' (.refl _) (r.setE e o nb nd fr)⟩
/-! ### x[b] op= e on a list of one's own -/
noncomputable def sAugIx (i : Nat) (g : D → D → Option D) (fk fe : Env → R D) : Env → R Fl := fun ρ => match getL ρ i with
  | some xs => liftE (fk ρ) ρ fun k => match k with
    | .int j => match ixN xs.length j with
      | some m => match xs[m]? with
        | some x => liftE (fe ρ) ρ fun y => match g x y with
          | some d => .ok (.nx (ρ.set i (some (.lst (xs.set m d)))))
          | none => .stuck
        | none => .stuck
      | none => .stuck
    | _ => .stuck
  | none => .stuck
/-! ### x[b].append(e), x a list of lists of one's own -/
theorem OwnL.atL {K : PySem.W.Frag} {F H : Hp} {e : Sh} (nb : e.noB = true) {k : Nat} {d : PD.D} : ∀ {vs : List V} {ds : List PD.D} {S : List Addr}, OwnL K F H e vs ds S → ds[k]? = some d → ∃ v S1 Sk S2, S = S1 ++ (Sk ++ S2) ∧ vs[k]? = some v ∧ Own K F H e v d Sk ∧
    ∀ F' H' d' Sk', Sm F F' → (∀ a ∈ S1 ++ S2, H' a = H a) → Own K F' H' e v d' Sk' → OwnL K F' H' e vs (ds.set k d') (S1 ++ (Sk' ++ S2)) := by
  induction k with
  | zero =>
    intro vs ds S h e
    cases h with
    | nil => cases e
    | cons h r =>
      rename_i v0 d0 vs0 ds0 Sa Sb
      cases e
      refine ⟨v0, [], Sa, Sb, rfl, rfl, h, fun F' H' d' Sk' sf hh o => ?_⟩
      show OwnL K F' H' _ (v0 :: vs0) (d' :: ds0) (Sk' ++ Sb)
      exact .cons o (OwnL.at sf nb r fun a m => hh a m)
  | succ k ih =>
    intro vs ds S h e
    cases h with
    | nil => cases e
    | cons h r =>
      rename_i v0 d0 vs0 ds0 Sa Sb
      rw [List.getElem?_cons_succ] at e
      obtain ⟨v, S1, Sk, S2, e1, e2, e3, e4⟩ := ih r e
      subst e1
      refine ⟨v, Sa ++ S1, Sk, S2, by rw [List.append_assoc], by rw [List.getElem?_cons_succ]; exact e2, e3, fun F' H' d' Sk' sf hh o => ?_⟩
      rw [List.set_cons_succ, List.append_assoc]
      refine .cons (Own.at sf nb h fun a m => hh a (List.mem_append_left _ (List.mem_append_left _ m))) (e4 F' H' d' Sk' sf (fun a m => hh a ?_) o)
      rcases List.mem_append.mp m with m | m
      · exact List.mem_append_left _ (List.mem_append_right _ m)
      · exact List.mem_append_right _ m
end
section
variable {L : LE} {fl : List Sh} {F B H : Hp} {σ σ' : L2.St} {ρ : Env}
/-- one of the lists in a slot's list is changed -/
theorem Rep.mutL {i k : Nat} {ds xs : List PD.D} (r : Rep L fl F B σ H ρ) (hs : fl[i]? = some (.l (.l .s))) (hx : ρ[i]? = some (some (.lst ds))) (hg : ds[k]? = some (.lst xs)) :
    ∃ q us p vs, σ[i]? = some (some (.ref q)) ∧ H q = some (.lst us) ∧ us[k]? = some (.ref p) ∧ us.length = ds.length ∧ H p = some (.lst vs) ∧ DatL L.K F vs xs ∧
      ∀ F' H0 vs' xs', Ext L.T F H F' H0 → DatL L.K F' vs' xs' → Rep L fl F' B σ (upd H0 p (.lst vs')) (ρ.set i (some (.lst (ds.set k (.lst xs'))))) := by
  obtain ⟨Ss, h1, h2, h3, h4⟩ := r.sl
  obtain ⟨v, sh, a1, a2, a3, a4⟩ := h1 i _ hx
  rw [hs] at a2
  cases a2
  have n3 := h3 i
  have n4 := h4 i
  have n2 := fun j a => h2 j i a
  generalize hS : Ss i = S0 at a4 n3 n4 n2
  cases a4 with
  | l hq ho =>
    rename_i q us S
    obtain ⟨nq, nS⟩ := List.nodup_cons.mp n3
    obtain ⟨w, S1, Sk, S2, e1, e2, e3, e4⟩ := ho.atL rfl hg
    subst e1
    cases e3 with
    | l hp hpo =>
      rename_i p vs Sk
      obtain ⟨dvs, eS⟩ := OwnL.datS hpo
      subst eS
      obtain ⟨m1, m2, m3⟩ := List.nodup_append.mp nS
      have pin : p ∈ S1 ++ ([p] ++ S2) := List.mem_append_right _ (List.mem_append_left _ List.mem_cons_self)
      have pq : p ≠ q := fun z => nq (z ▸ pin)
      have b6 : p ∈ Ss i := by rw [hS]; exact List.mem_cons_of_mem _ pin
      refine ⟨q, us, p, vs, a1, hq, e2, ho.length, hp, dvs, ?_⟩
      intro F' H0 vs' xs' ex dvs'
      have r' := r.ext ex
      have Fp : F' p = none := ex.hid p _ hp rfl (n4 p (List.mem_cons_of_mem _ pin)).1
      have Bp : B p = none := (n4 p (List.mem_cons_of_mem _ pin)).2.1
      have at_ : ∀ a, a ≠ p → upd H0 p (.lst vs') a = H0 a := fun a z => upd_ne z
      have old : ∀ a ∈ q :: (S1 ++ ([p] ++ S2)), H0 a = H a := fun a m => by
        obtain ⟨_, _, o, q1, q2⟩ := n4 a m
        rw [q1]; exact ex.hh a o q1 q2
      have new := e4 F' (upd H0 p (.lst vs')) (.lst xs') [p] ex.ff.sm (fun a m => by
        have mm : a ∈ S1 ++ ([p] ++ S2) := by
          rcases List.mem_append.mp m with m | m
          · exact List.mem_append_left _ m
          · exact List.mem_append_right _ (List.mem_append_right _ m)
        have na : a ≠ p := fun z => by
          rcases List.mem_append.mp m with m | m
          · exact m3 a m a (List.mem_append_left _ (z ▸ List.mem_cons_self)) rfl
          · exact (List.nodup_append.mp m2).2.2 p List.mem_cons_self a m z.symm
        rw [at_ a na]
        exact old a (List.mem_cons_of_mem _ mm)) (.l upd_same (OwnL.ofDat dvs'))
      have c1 : Own L.K F' (upd H0 p (.lst vs')) (.l (.l .s)) (.ref q) (.lst (ds.set k (.lst xs'))) (q :: (S1 ++ ([p] ++ S2))) := .l (by rw [at_ q (Ne.symm pq), old q List.mem_cons_self]; exact hq) new
      refine ⟨⟨fun a o q => ?_, fun a o q => ?_, r'.bs.fb, r'.bs.nf, r'.bs.nb, fun P hP => ?_⟩, r.ls, by rw [List.length_set]; exact r.lr, r'.px, ?_⟩
      · rw [at_ a fun z => by rw [z, Fp] at q; cases q]; exact r'.bs.fh a o q
      · rw [at_ a fun z => by rw [z, Bp] at q; cases q]; exact r'.bs.bh a o q
      · obtain ⟨ps, q, k⟩ := r'.bs.tab P hP
        have hp0 := ex.hh p _ hp rfl
        exact ⟨ps, by rw [at_ P fun z => by rw [z, hp0] at q; cases q]; exact q, k⟩
      · refine ⟨Ss, fun j d' q => ?_, h2, h3, fun j a m => ?_⟩
        · by_cases z : j = i
          · subst z
            have hl : j < ρ.length := (List.getElem?_eq_some_iff.mp hx).1
            rw [List.getElem?_set_self hl] at q
            cases q
            rw [hS]
            exact ⟨_, _, a1, hs, a3, c1⟩
          · rw [List.getElem?_set_ne (Ne.symm z)] at q
            obtain ⟨v', sh', b1, b2, b3, b4⟩ := h1 j d' q
            refine ⟨v', sh', b1, b2, b3, Own.at ex.ff.sm b3 b4 fun a m => ?_⟩
            have na : a ≠ p := fun w => z (h2 j i a m (by rw [w]; exact b6))
            rw [at_ a na]
            obtain ⟨_, _, u, q3, q4⟩ := h4 j a m
            rw [q3]
            exact ex.hh a u q3 q4
        · obtain ⟨k1, k2, u, k3, k4⟩ := h4 j a m
          refine ⟨ex.hid a u k3 k4 k1, k2, ?_⟩
          by_cases z : a = p
          · subst z
            exact ⟨_, upd_same, rfl⟩
          · exact ⟨u, by rw [at_ a z]; exact ex.hh a u k3 k4, k4⟩
end
section
variable {X : Cx} {L : LE} {J : Jn} {fl fl1 fl' : List Sh} {W : WX} {pos : Pos}
noncomputable def sLLApp (i : Nat) (fk fe : Env → R D) : Env → R Fl := fun ρ => match getL ρ i with
  | some ds => liftE (fk ρ) ρ fun k => match k with
    | .int j => match ixN ds.length j with
      | some m => match ds[m]? with
        | some (.lst xs) => liftE (fe ρ) ρ fun e => if xs.length < LN then .ok (.nx (ρ.set i (some (.lst (ds.set m (.lst (xs ++ [e]))))))) else .stuck
        | _ => .stuck
      | none => .stuck
    | _ => .stuck
  | none => .stuck
theorem atI_ix {α : Type} {vs : List α} {j : Int} {m : Nat} {u : α} (h : ixN vs.length j = some m) (g : vs[m]? = some u) : L2.atI vs j = some u := by
  unfold L2.atI
  rw [h]; exact g
end
end PD
set_option Elab.async false
set_option linter.all false
set_option maxRecDepth 100000
set_option maxHeartbeats 1000000
/-! # set(xs), xs a list of texts -/
namespace L2
open PySem PySem.Spec PyProof.Rows
/-- one key more -/
noncomputable def hasB (l : List Key) (k : Key) : Bool := l.any fun j => decide (j = k)
noncomputable def metK (l : List Key) (k : Key) : List Key := if hasB l k = true then l else l ++ [k]
theorem hasB_iff {l : List Key} {k : Key} : hasB l k = true ↔ k ∈ l := by
  unfold hasB
  rw [List.any_eq_true]
  exact ⟨fun ⟨j, m, e⟩ => of_decide_eq_true e ▸ m, fun m => ⟨k, m, decide_eq_true rfl⟩⟩
theorem metK_has (l : List Key) (k j : Key) : (hasB l j || decide (j = k)) = hasB (metK l k) j := by
  rw [Bool.eq_iff_iff, Bool.or_eq_true, hasB_iff, hasB_iff, decide_eq_true_eq]
  unfold metK
  by_cases h : hasB l k = true
  · rw [if_pos h]
    exact ⟨fun z => z.elim id fun e => e ▸ hasB_iff.mp h, .inl⟩
  · rw [if_neg h, List.mem_append, List.mem_singleton]
theorem metK_len (l : List Key) (k : Key) : (if hasB l k = true then l.length else l.length + 1) = (metK l k).length := by
  unfold metK
  by_cases h : hasB l k = true
  · rw [if_pos h, if_pos h]
  · rw [if_neg h, if_neg h, List.length_append, List.length_singleton]
section
variable {P : Program} {w : World} {A : Around} {R : Result → Shared → Prop} {it : Addr} {fp wr : List Addr} {G : Array GenState → Array GenState → Prop} {n : Nat} {Pv : Nat → Value → Prop} {St : Nat → Shared → Prop}
/-- the set at a holds the keys l -/
noncomputable def HoldsK (P : Program) (w : World) (h : Heap) (a : Addr) (l : List Key) : Prop := h.SetOf (mixKind P w) a (hasB l) l.length
theorem HoldsK.keep {h h' : Heap} {a : Addr} {l : List Key} (x : HoldsK P w h a l) (k : ∀ o, h.get? a = some o → h'.get? a = some o) : HoldsK P w h' a l := setOf_at x k
theorem HoldsK.more {h : Heap} {a : Addr} {l : List Key} {k : Key} (x : h.SetOf (mixKind P w) a (fun j => hasB l j || decide (j = k)) (if hasB l k = true then l.length else l.length + 1)) : HoldsK P w h a (metK l k) := by
  unfold HoldsK
  rw [metK_len] at x
  rwa [show (fun j => hasB l j || decide (j = k)) = hasB (metK l k) from funext fun j => metK_has l k j] at x
end
section
variable {P : Program} {w : World} {A : Around} {E : Value → Shared → Prop} {s : Shared}
end
end L2
namespace PD
open PySem PySem.Spec PyProof.Rows L2
section
variable {X : Cx} {L : LE} {fl : List Sh} {W : WX} {pos : Pos} {bw bw2 : Bool}
end
end PD
set_option Elab.async false
set_option linter.all false
set_option maxRecDepth 100000
set_option maxHeartbeats 1000000
/-! # x.pop(e) as a statement -/
namespace PD
open PySem PySem.Spec PyProof.Rows L2
theorem DatL.erase {K : PySem.W.Frag} {F : Hp} : ∀ {vs : List V} {ds : List D} (n : Nat), DatL K F vs ds → DatL K F (vs.eraseIdx n) (ds.eraseIdx n)
  | _, _, _, .nil => .nil
  | _, _, 0, .cons h r => r
  | _, _, n + 1, .cons h r => .cons h (DatL.erase n r)
section
variable {X : Cx} {L : LE} {J : Jn} {fl fl1 : List Sh} {W : WX} {pos : Pos} {bw : Bool}
end
end PD
set_option Elab.async false
set_option linter.all false
set_option maxRecDepth 100000
set_option maxHeartbeats 2000000
/-! # an error whose __init__ says super().__init__("..") and stores a field -/
namespace L2
open PySem PySem.Spec PyProof.Rows PySem.W PySem.Calls
section
variable {X : Cx} {pins : List (Addr × Obj)} {σ : L2.St} {H : Hp} {s : Shared} {A : Around} {E : Value → Shared → Prop}
/-- the bound __init__ of the base is called -/
theorem mw_call {a C u : Addr} {us : List Value} {Q : Value → Shared → Prop} (T : OexC X.K C) (I : Inv X pins σ H s) (e : H a = some (exo a C none)) (hu : s.heap.get? u = some (kxs_mw "ValueError.__init__" a)) (hl : us.length ≤ sizeLine) (h : ∀ s', Inv X pins σ H s' → Q .none s') :
    wpAny (model X.prog X.w) A (call (.ref u) us) Q E s := by
  obtain ⟨nm, q, N, bs, bm, sn, sub, ab, col, dd, k0, k1, k2, k3, k5, hC, hbm⟩ := T.cls
  obtain ⟨t1, ho⟩ := exo_at I.hok e
  obtain ⟨hp, g, d, t, os⟩ := s
  have hC' := I.kIn _ _ hC
  refine wpAny_call (codeAny_of_tree ?_)
  change wpAny _ A.in1 (callAny (.ref u) ⟨us, []⟩) _ _ _
  simp only [callAny]
  refine wpAny_bind (wpAny_load hu ?_)
  have m1 : (Value.type "method-wrapper" == Value.type "method" || Value.type "method-wrapper" == Value.type "builtin_function_or_method" || Value.type "method-wrapper" == Value.type "method-wrapper") = true := by decide
  simp only [kxs_mw, m1, if_true]
  refine KFB.if_so (by decide) (wpAny_bind (check_bound_init F.excBase_ValueError.toExcCallFacts hC' ho rfl (wpAny_bind (wpAny_pure (wpAny_pure ?_)))))
  refine ⟨plainId_quiet F.excBase_ValueError.init.plain _, codeAny_builtin F.excBase_ValueError.initEntry ?_⟩
  refine exc_init_tree (cls := .ref C) (t0 := t1) (dv := none) (c2 := .none) (c3 := .none) (b4 := .bool false) ho hl fun h' k hx _ => ?_
  have J := I.write (t' := t) (x := a) (e := a) (o := exo a C none) (by rw [e]; exact True.intro) (.inl rfl) k ⟨_, hx⟩ (exo_ok hx)
  have eu : upd H a (exo a C none) = H := funext fun b => by
    by_cases hb : b = a
    · rw [hb, upd_same, e]
    · rw [upd_ne hb]
  rw [eu] at J
  exact h _ J
end
/-- what C.__init__(self, v) does -/
noncomputable def supSp (K : Frag) (D : Addr) (fld : Str) : Sp := fun vs H Q _ => ∃ (a : Addr) (v : V), vs = [.ref a, v] ∧ H a = some (exo a D none) ∧ ∀ dx, H dx = none → dx ≠ a → Q .non (upd (upd H dx (exd dx [(fld, v)])) a (exo a D (some dx)))
section
variable {P : Program} {w : World} {K : Frag} {mg : Str → Option Value} {base : Heap} {CX : CXT} {k j : Nat} {f D cc cda : Addr} {name qual fld txt : Str} {params : Arguments} {scope : Scope} {dV kV doc pm ct oc ccl cl : Value} {an od cdd cld : Option Addr} {osl ccs csl : Array (Option Value)} {ar : Arg} {vs : Array Value} {file : Str} {tf : Tok} {p0 p1 p2 p3 p4 p5 p6 p7 p8 p9 : Pos}
noncomputable def supBody (fld txt : Str) (j : Nat) (p0 p1 p2 p3 p4 p5 p6 p7 p8 p9 : Pos) : List Stmt :=
  [.Expr (.Call (.Attribute (.Call (.Name "super" p0) [] [] p1) "__init__" p2) [.Constant (.str txt) j p3] [] p4) p5, .Assign [.Attribute (.Name "self" p6) fld p7] (.Name fld p8) p9]
theorem fn_sup (lk : K.lookup f = some ⟨oc, od, .func (ksFn name qual params (supBody fld txt j p0 p1 p2 p3 p4 p5 p6 p7 p8 p9) scope dV kV doc pm an (.ref cda) ct cc), osl⟩) (hcd : codeIn K (.ref cda) qual = true)
    (hp : (params.posonlyargs ++ params.args).head? = some ar) (har : ar.arg = "self")
    (hcode : K.lookup cda = some ⟨ccl, cdd, .fields vs, ccs⟩) (hvs : vs[2]? = some (.str file tf)) (hfile : ((P.main.file : Str) == file) = true) (htop : (P.main.scope.names.lookup ("super" : Str)).isSome = false)
    (hcell : K.lookup cc = some ⟨cl, cld, .cell (some (.ref D)), csl⟩) (T : OexC K D) (hm : ks_superIn K D D "__init__" = some (some (.builtin "ValueError.__init__"))) (hB : subIn K (.ref D) (.type "ValueError") = some true) (hDD : mroIn K D (.ref D) = some true)
    (hth : nsIn K cStatics "thirdparty.any" = some none) (hno : findIn K (.ref D) fld = some none) (msup : mg "super" = none)
    (hks : scope.names.lookup ("super" : Str) = some .globalImplicit) (hkc : scope.names.lookup ("__class__" : Str) = some .free) (hka : scope.names.lookup ("self" : Str) = some .local) (hkf : scope.names.lookup fld = some .local)
    (hcl : ∀ x ∈ scope.names, x.2 ≠ .cell) (hco : scope.isCoroutine = false) (hgen : scope.isGenerator = false) (hk : scope.kind = .function) (hne : fld ≠ "self") (hdb : (fld == ("__debug__" : Str)) = false) (htx : txt.length ≤ sizeLine) (pl : Sem Bool) (hin : ∀ L, interactive (ksEnv qual scope L f (.ref cda) cc) = false)
    (hsA : ∀ L, swapsWith (.Call (.Attribute (.Call (.Name "super" p0) [] [] p1) "__init__" p2) [.Constant (.str txt) j p3] [] p4) none p5.line (ksEnv qual scope L f (.ref cda) cc) = pure false) (hsB : ∀ L, swapsWith (.Name fld p8) (some (.Attribute (.Name "self" p6) fld p7)) p9.line (ksEnv qual scope L f (.ref cda) cc) = pure false)
    (he : ∀ L, eval (.Call (.Attribute (.Call (.Name "super" p0) [] [] p1) "__init__" p2) [.Constant (.str txt) j p3] [] p4) (ksEnv qual scope L f (.ref cda) cc) = (do
      let ov ← attributeBase (.Call (.Name "super" p0) [] [] p1) "__init__" (ksEnv qual scope L f (.ref cda) cc) (eval (.Call (.Name "super" p0) [] [] p1) (ksEnv qual scope L f (.ref cda) cc))
      standAt p2.atName
      let (g, first) ← holding [ov] (getMethod ov "__init__" pl)
      callWith p4 g first (backTo p4 (starEach [.Constant (.str txt) j p3] (ksEnv qual scope L f (.ref cda) cc))) [])) :
    FnOk P w K mg base CX (k + 1) f (ksFn name qual params (supBody fld txt j p0 p1 p2 p3 p4 p5 p6 p7 p8 p9) scope dV kV doc pm an (.ref cda) ct cc) ["self", fld] (supSp K D fld) := by
  refine ⟨fun vs H Q E ⟨a, v, e, _⟩ => by rw [e]; rfl, fun A outer s H args us vs Q E hr e0 hb r hsp => ?_⟩
  obtain ⟨a, v, rfl, ea, q⟩ := hsp
  cases r with
  | @cons _ u0 _ ur ra rr =>
  cases rr with
  | @cons _ u1 _ ur rv rn =>
  cases rn
  obtain rfl : u0 = Value.ref a := ra
  have KX : K.In s.heap := e0.mod.kin.keeps fun b o e => (e0.bs b o e).1
  have lim : s.heap.NoLimit := e0.mod.nolimit.keeps fun b o e => (e0.bs b o e).1
  refine codeAny_call_function hr.depth (KX _ _ lk) rfl hco hgen rfl (codeRec_of KX hcd) (hb _ _ _ _ ?_)
  refine wpAny_newFunctionEnv hcl (fun x hx => ?_) (fun h0 hns hsb => ?_) hk
  · rcases List.mem_cons.mp hx with rfl | hx
    · exact hka
    · rcases List.mem_cons.mp hx with rfl | hx
      · exact hkf
      · cases hx
  have kp : ∀ b o, s.heap.get? b = some o → h0.get? b = some o := fun b o e => hsb.extBut b o (Nat.ne_of_lt (Heap.lt_size e)) (Heap.get?_push_of_some _ e)
  refine ⟨lim.keeps kp, ks_codeAny_funcAt ?_⟩
  -- the state, as one of a def without a cell
  let sc' : Scope := { scope with names := [("self", .local), (fld, .local)] }
  have S : FnScope ["self", fld] ["self", fld] sc' := ⟨hk, hco, hgen, by simp [hne.symm], rfl, fun x hx => by
    rcases List.mem_cons.mp hx with rfl | hx
    · exact .inl rfl
    · rw [List.mem_singleton] at hx
      subst hx
      refine .inl ?_
      show List.lookup x [("self", NameKind.local), (x, .local)] = _
      rw [List.lookup_cons, beq_eq_false_iff_ne.mpr hne, List.lookup_cons, beq_self_eq_true], fun y hy => by
    rcases List.mem_cons.mp hy with rfl | hy
    · exact fun z => nomatch z
    · rw [List.mem_singleton] at hy
      subst hy
      exact fun z => nomatch z⟩
  have kls : ∀ y, (envOfC qual sc' s.heap.objs.size f (.ref cda)).kindOf y = List.lookup y [("self", NameKind.local), (fld, .local)] := fun _ => rfl
  have ks1 : (envOfC qual sc' s.heap.objs.size f (.ref cda)).kindOf "self" = some .local := rfl
  have ks2 : (envOfC qual sc' s.heap.objs.size f (.ref cda)).kindOf fld = some .local := by
    rw [kls, List.lookup_cons, beq_eq_false_iff_ne.mpr hne, List.lookup_cons, beq_self_eq_true]
  have eqm : bindL (envOfC qual sc' s.heap.objs.size f (.ref cda)).kindOf ([("self", Value.ref a), (fld, u1)] : List (Str × Value)) (fun _ => none) = fun y => (([("self", Value.ref a), (fld, u1)] : List (Str × Value)).reverse).lookup y := by
    funext y
    show (bindL _ [("self", Value.ref a), (fld, u1)] fun _ => none) y = List.lookup y [(fld, u1), ("self", Value.ref a)]
    unfold bindL
    rw [if_pos ks1]
    unfold bindL
    rw [if_pos ks2]
    unfold bindL
    rw [List.lookup_cons, List.lookup_cons]
    show (if y = fld then some u1 else if y = Str.ofString "self" then some (Value.ref a) else none) = _
    by_cases h1 : y = fld
    · rw [if_pos h1, beq_iff_eq.mpr h1]
    · rw [if_neg h1, beq_eq_false_iff_ne.mpr h1]
      by_cases h2 : y = "self"
      · rw [if_pos h2, beq_iff_eq.mpr h2]
      · rw [if_neg h2, beq_eq_false_iff_ne.mpr h2]
        rfl
  have x : InCallC s s.heap.objs.size (bindL (envOfC qual sc' s.heap.objs.size f (.ref cda)).kindOf ([("self", Value.ref a), (fld, u1)] : List (Str × Value)) fun _ => none) (cellsFrom (s.heap.objs.size + 1) sc'.names []) (bindC (envOfC qual sc' s.heap.objs.size f (.ref cda)).kindOf ([("self", Value.ref a), (fld, u1)] : List (Str × Value)) fun _ => none) { s with heap := h0, toks := s.toks + ([("self", Value.ref a), (fld, u1)] : List (Str × Value)).length } :=
    ⟨⟨⟨_, _, rfl⟩, by rw [eqm]; exact hns, kp, Nat.le_refl _⟩, (fun n c hc => by cases hc), .nil, (fun n c hc => by cases hc)⟩
  have I : Inv (cxOf CX P w K mg base ["self", fld] qual sc' f (.ref cda) A outer s H E) [] (start ["self", fld] [.ref a, v]) H { s with heap := h0, toks := s.toks + ([("self", Value.ref a), (fld, u1)] : List (Str × Value)).length } := inv_start S hr.hd e0 rfl (.cons rfl (.cons rv .nil)) x
  generalize hs1 : ({ s with heap := h0, toks := s.toks + ([("self", Value.ref a), (fld, u1)] : List (Str × Value)).length } : Shared) = s1 at I
  have hns1 : s1.heap.Ns s.heap.objs.size (fun y => (([("self", Value.ref a), (fld, u1)] : List (Str × Value)).reverse).lookup y) := by rw [← hs1]; exact hns
  obtain ⟨hp1, g1, d1, tk1, os1⟩ := s1
  have hs2 : ({ s with heap := h0, toks := s.toks + ((["self", fld] : List Str).zip [Value.ref a, u1]).length } : Shared) = ⟨hp1, g1, d1, tk1, os1⟩ := hs1
  rw [hs2]
  refine ks_wpAt_execs_cons (ks_wpAt_Expr_any (ks_wpAt_MethodCall (pl := pl) ?_ (he _)) (hin _) (hsA _))
  have X1 : K.In hp1 := I.kIn
  obtain ⟨t1, ho⟩ := exo_at I.hok ea
  obtain ⟨nm, q', N, bs, bm, sn, sub, ab, col, dd, k0, k1, k2, k3, k5, hC, hbm⟩ := id T.cls
  have hCd := X1 _ _ hC
  have hcls : clsIn K D = some { name := nm, bases := bs, mro := .ref D :: bm, ns := N, qualname := q', hasDict := true, slotNames := sn, subclasses := sub, abstract := ab, collection := col, hasDel := false } := by unfold clsIn; rw [hC] <;> rfl
  have IA : InstAt hp1 a { cls := .ref D, dict := none, data := .fields #[.ref t1, .none, .none, .none, .bool false, .none] } D none := ⟨ho, rfl, rfl, trivial⟩
  refine ks_wpAt_super_base (attr := "__init__") (f := f) (cc := cda) hks hkc (by decide) rfl (X1 _ _ lk) rfl hp rfl (X1 _ _ hcode) rfl hvs hfile htop ?_
  obtain ⟨mb, b1, b2⟩ := e0.mod.blt
  refine ks_loadName_global hk hks (loadGlobal_builtin (e0.mod.glob.keeps I.bk) msup (b1.keeps I.bk) ((b2 _ (by decide)).trans (by decide +kernel)) ⟨rfl, ?_⟩)
  refine wpAny_loadName_free hk hkc rfl ⟨_, X1 _ _ hcell, rfl⟩ ?_
  rw [har]
  refine wpAny_loadName_local hk hka hns1 (v := .ref a) ?_ ?_
  · show List.lookup _ [(fld, u1), ("self", Value.ref a)] = _
    rw [List.lookup_cons, beq_eq_false_iff_ne.mpr hne.symm]
    rfl
  refine ks_wpAny_isType_cls hCd rfl ⟨rfl, ?_⟩
  refine ks_wpAny_call_super hCd rfl ho rfl (fun c e => by cases e) (looks_mroIn X1 hDD) (fun h2 e2 kk2 => ?_)
  have I2 : Inv (cxOf CX P w K mg base ["self", fld] qual sc' f (.ref cda) A outer s H E) [] (start ["self", fld] [.ref a, v]) H ⟨h2, g1, d1, tk1, os1⟩ := I.kept (h' := h2) (t' := tk1) kk2
  have X2 : K.In h2 := I2.kIn
  have IA2 : InstAt h2 a { cls := .ref D, dict := none, data := .fields #[.ref t1, .none, .none, .none, .bool false, .none] } D none := ⟨kk2 _ _ ho, rfl, rfl, trivial⟩
  have hm2 : alongIn K "__init__" (((Value.ref D :: bm).dropWhile (· != .ref D)).drop 1) = some (some (.builtin "ValueError.__init__")) := by
    unfold ks_superIn at hm
    rw [hcls] at hm
    exact hm
  refine kxs_getMethod kxs_ValueError e2 (looks_opaque X2 hth) (fun A Q E s k q => wpAny_bind ((looks_clsIn X2 hcls) A _ E s k (wpAny_pure q))) rfl X2 hm2 (IA2.type.andThen (looks_subIn X2 hB)) (ks_ne X2 IA2 hcls) (by decide) ?_
  have kk3 : ∀ b o, h2.get? b = some o → (h2.push (kxs_mw "ValueError.__init__" a)).get? b = some o := fun b o e => Heap.get?_push_of_some _ e
  have I3 : Inv (cxOf CX P w K mg base ["self", fld] qual sc' f (.ref cda) A outer s H E) [] (start ["self", fld] [.ref a, v]) H ⟨h2.push (kxs_mw "ValueError.__init__" a), g1, d1, tk1 + 1 + 1, os1⟩ := I2.kept (t' := tk1 + 1 + 1) kk3
  have hmw : (h2.push (kxs_mw "ValueError.__init__" a)).get? h2.objs.size = some (kxs_mw "ValueError.__init__" a) := Heap.get?_push_size _ rfl
  refine kxs_callWith (i := "ValueError.__init__") (x := a) rfl (evalArgs_plain (PyProof.Rows.args_cons (wpAny_Constant_str (PyProof.Rows.args_nil ⟨hmw, ?_⟩)) rfl))
  refine mw_call T I3 ea hmw (by show 1 ≤ sizeLine; rw [sizeLine_eq]; decide) fun s4 J => ?_
  show _root_.PySem.wpAt _ _ _ (execs _ _) _ _ s4
  obtain ⟨m4, hn4, hl4⟩ := J.loc
  obtain ⟨ua, ra4, la⟩ := hl4 0 "self" (.ref a) rfl rfl (.inl rfl)
  obtain ⟨uv, rv4, lv⟩ := hl4 1 fld v rfl rfl (.inl ks2)
  obtain rfl : ua = Value.ref a := ra4
  have ma : m4 "self" = some (.ref a) := by
    rcases la with ⟨_, e⟩ | ⟨_, c, e, _⟩
    · exact e
    · cases e
  have mv : m4 fld = some uv := by
    rcases lv with ⟨_, e⟩ | ⟨_, c, e, _⟩
    · exact e
    · cases e
  refine ks_wpAt_execs_cons (ks_wpAt_Assign_Attr (wpAt_of_wpAny (wpAny_Name (wpAny_loadName_local hk hkf hn4 mv ?_) hdb)) (hsB _))
  refine wpAny_Name (wpAny_loadName_local hk hka hn4 ma ?_) (by decide)
  refine ost_new T J ea hno rv4 fun dx s5 hdx hdn J5 => ?_
  show _root_.PySem.wpAt _ _ _ (execs [] _) _ _ s5
  rw [execs_nil]
  exact wpAt_of_wpAny (wpAny_pure ⟨.non, _, J5.os, J5.bare, J5.base, J5.hok, rfl, q dx hdx hdn⟩)
end
end L2
set_option Elab.async false
set_option linter.all false
set_option maxRecDepth 100000
set_option maxHeartbeats 2000000
/-! # errors with a field: raised, caught, read -/
namespace PD
open PySem PySem.Spec PyProof.Rows L2
/-- what is said of the class by a look at the frozen part -/
noncomputable def oexcB (K : PySem.W.Frag) (C : Addr) : Bool := match K.lookup C with
  | some ⟨.type "type", _, .cls cd, sl⟩ => (match cd.mro, sl.toList with
    | .ref C' :: bm, [_, _, _, _, some (.builtin n), _] => C' == C && n == "ValueError.__new__" && !cd.hasDel && cd.hasDict && PySem.HandSPX.refsVE bm
    | _, _ => false)
  | _ => false
theorem oexc_mk {K : PySem.W.Frag} {C : Addr} (q : oexcB K C = true) (sa : PySem.W.findIn K (.ref C) "__setattr__" = some (some (.builtin "object.__setattr__"))) (exC : PySem.W.subIn K (.ref C) (.type "BaseException") = some true) (tyC : PySem.W.typeIn K (.ref C) = some (.type "type")) (kC : PySem.W.keepIn K (.ref C) = true) : OexC K C := by
  refine ⟨?_, sa, exC, tyC, kC⟩
  unfold oexcB at q
  split at q
  · rename_i dd cd sl ho
    split at q
    · rename_i C' bm k0 k1 k2 k3 n k5 hm hs
      simp only [Bool.and_eq_true, beq_iff_eq, Bool.not_eq_true'] at q
      obtain ⟨⟨⟨⟨rfl, rfl⟩, hdel⟩, hdc⟩, hok⟩ := q
      obtain ⟨nm, bs, mro, ns, qn, hd, sn, sub, ab, col, del⟩ := cd
      dsimp only at hm hdel hdc
      subst hm hdel hdc
      have hsl : sl = #[k0, k1, k2, k3, some (.builtin "ValueError.__new__"), k5] := by
        obtain ⟨l⟩ := sl
        simp only at hs
        rw [hs]
      subst hsl
      exact ⟨nm, qn, ns, bs, bm, sn, sub, ab, col, dd, k0, k1, k2, k3, k5, ho, hok⟩
    · cases q
  · cases q
/-- an own class of errors whose __init__ keeps one field -/
structure XcF (P : Program) (w : World) (K : PySem.W.Frag) (mg : Str → Option Value) (base : Heap) (L : LE) (k : Nat) (c fld : Str) : Prop where
  g : mg c = some (.ref (L.ca c))
  T : OexC K (L.ca c)
  ex : ∃ fI fd, PySem.W.findIn K (.ref (L.ca c)) "__init__" = some (some (.ref fI)) ∧ PySem.W.typeIn K (.ref fI) = some (.type "function") ∧ FnOk P w K mg base (L2.CX P w) k fI fd ["self", fld] (supSp K (L.ca c) fld) ∧ Binds K fd ["self", fld] []
theorem xcF_mk {P : Program} {w : World} {K : PySem.W.Frag} {mg : Str → Option Value} {base : Heap} {ca : Str → Addr} {TT : List Addr} {k : Nat} {c fld : Str} {x fI : Addr} {fd : FuncData} (e : ca c = x) (g : mg c = some (.ref x)) (T : OexC K x) (h1 : PySem.W.findIn K (.ref x) "__init__" = some (some (.ref fI))) (h2 : PySem.W.typeIn K (.ref fI) = some (.type "function"))
    (F : FnOk P w K mg base (L2.CX P w) k fI fd ["self", fld] (supSp K x fld)) (b : Binds K fd ["self", fld] []) : XcF P w K mg base ⟨K, ca, TT⟩ k c fld := by
  subst e
  exact ⟨g, T, _, _, h1, h2, F, b⟩
noncomputable def sRaiseF (c fld : Str) (f : Env → R D) : Env → R Fl := fun ρ => liftE (f ρ) ρ fun d => if isAtom d then .ok (.ex c [(fld, d)] ρ) else .stuck
theorem dat_atomF {K : PySem.W.Frag} {F F' : Hp} {v : V} {d : D} (h : Dat K F v d) (a : isAtom d = true) : Dat K F' v d := by
  cases h with
  | non => exact .non
  | bl => exact .bl
  | int => exact .int
  | str => exact .str
  | _ => cases a
section
variable {X : Cx} {L : LE} {fl fl' : List Sh} {W : WX} {pos : Pos} {J : Jn}
theorem s_raiseF {c fld : Str} {k j : Nat} {e : Expr} {p pos' : Pos} {f : Env → R D} (q : XcF X.prog X.w X.K X.mg X.base L k c fld) (hr : Room j X.A) (tk : Takes X W) (he : PE X e (tD L fl .s W f)) (hk : k + 1 ≤ j := by first | decide | omega) (hc : X.calm = true := by rfl) (hg : Gl X c := by rfl) (hdb : (c == ("__debug__" : Str)) = false := by decide)
    (hse : starEach [e] X.env = (false, eval e X.env) :: starEach [] X.env := by rfl) (hpl : (backTo pos' (starEach [] X.env)).any (·.1) = false := by rfl) :
    PS X (.Raise (some (.Call (.Name c p) [e] [] pos')) none pos) (tS L J fl fl' W (sRaiseF c fld f)) := by
  obtain ⟨fI, fd, iC, tI, F1, hb⟩ := q.ex
  refine (ps_raise hc tk (pmk_oex q.T iC tI F1 (hr.mono hk) hb .nil (fun _ _ _ _ _ _ _ ⟨_, _, _, _, _, _, _, _, _, _, _, _, z⟩ => z.elim) hg q.g (pa_cons he pa_nil hse) hdb hse hpl)).imp fun D σ H ⟨F, B, ρ, r, p⟩ => ⟨F, B, ρ, r, ?_⟩
  refine PostS.bindE (sh := .s) r p fun d v F1 H1 S hd e1 r1 o nd fr p1 => ?_
  refine ⟨by show 1 ≤ 1000; omega, fun a ha => ⟨a, v, rfl, upd_same, fun dx hdx hne => ?_⟩⟩
  have hdx1 : H1 dx = none := by rw [upd_ne hne] at hdx; exact hdx
  refine ⟨rfl, dx, [(fld, v)], upd_same, by rw [upd_ne hne]; exact upd_same, hdx1, ?_⟩
  have eh : upd (del (upd (upd (upd H1 a (exo a (L.ca c) none)) dx (exd dx [(fld, v)])) a (exo a (L.ca c) (some dx))) a) dx (HO.xd [(fld, v)]) = upd H1 dx (.xd [(fld, v)]) := by
    funext b
    by_cases h1 : b = dx
    · rw [h1, upd_same, upd_same]
    · rw [upd_ne h1, upd_ne h1]
      by_cases h2 : b = a
      · rw [h2, del_same, ha]
      · rw [del_ne h2, upd_ne h2, upd_ne h1, upd_ne h2]
  rw [eh]
  by_cases at_ : isAtom d = true
  · rw [if_pos at_] at p1
    have eE : Ext L.T F1 H1 (upd F1 dx (.xd [(fld, v)])) (upd H1 dx (.xd [(fld, v)])) := Ext.newF r1.bs.fh r1.bs.nf hdx1 rfl
    cases o with
    | d dd =>
      exact p1 _ _ fl σ _ _ eE.ff (r1.ext eE) ⟨rfl, dx, [(fld, v)], rfl, upd_same, fun pr hp => by
        rw [List.mem_singleton] at hp
        subst hp
        exact ⟨v, by simp [List.lookup], at_, dat_atomF (show Dat L.K F1 v d from dd) at_⟩⟩
  · rw [if_neg at_] at p1; exact p1.elim

/-! ### caught -/
noncomputable def EoOk (L : LE) (d : Option Addr) (eo : Option (Addr × List (Str × V))) (fs : List (Str × D)) : Prop := match fs with
  | [] => d = none ∧ eo = none
  | _ => ∃ dx ws, d = some dx ∧ eo = some (dx, ws) ∧ ∀ p ∈ fs, ∃ v, ws.lookup p.1 = some v ∧ isAtom p.2 = true ∧ ∀ F, Dat L.K F v p.2
theorem eoOk_of {L : LE} {c : Str} {fs : List (Str × D)} {cls : Value} {d : Option Addr} {F H : Hp} (e : ErrOk L c fs cls d F H) : ∃ eo, EoOk L d eo fs ∧ ∀ dx ws, eo = some (dx, ws) → F dx = some (.xd ws) := by
  cases fs with
  | nil => exact ⟨none, ⟨e.2, rfl⟩, fun _ _ z => nomatch z⟩
  | cons p fs =>
    obtain ⟨_, dx, ws, h1, h2, h3⟩ := e
    refine ⟨some (dx, ws), ⟨dx, ws, h1, rfl, fun p hp => ?_⟩, fun dx' ws' z => by cases z; exact h2⟩
    obtain ⟨v, a1, a2, a3⟩ := h3 p hp
    exact ⟨v, a1, a2, fun F => dat_atomF a3 a2⟩
theorem EoOk.dict {L : LE} {d : Option Addr} {eo : Option (Addr × List (Str × V))} {fs : List (Str × D)} (h : EoOk L d eo fs) : (d = none ∧ eo = none) ∨ ∃ dx ws, d = some dx ∧ eo = some (dx, ws) := by
  cases fs with
  | nil => exact .inl h
  | cons p fs =>
    obtain ⟨dx, ws, h1, h2, _⟩ := h
    exact .inr ⟨dx, ws, h1, h2⟩
theorem EoOk.look {L : LE} {d : Option Addr} {eo : Option (Addr × List (Str × V))} {fs : List (Str × D)} (h : EoOk L d eo fs) {f : Str} {y : D} (l : fs.lookup f = some y) : ∃ dx ws v, d = some dx ∧ eo = some (dx, ws) ∧ ws.lookup f = some v ∧ ∀ F, Dat L.K F v y := by
  cases fs with
  | nil => cases l
  | cons p fs =>
    obtain ⟨dx, ws, h1, h2, h3⟩ := h
    have key : ∀ l : List (Str × D), l.lookup f = some y → (f, y) ∈ l := by
      intro l
      induction l with
      | nil => intro h; cases h
      | cons q l ih =>
        intro h
        obtain ⟨g, z⟩ := q
        rw [List.lookup_cons] at h
        cases e : f == g with
        | true =>
          rw [e] at h
          cases h
          rw [beq_iff_eq] at e
          subst e
          exact List.mem_cons_self
        | false =>
          rw [e] at h
          exact List.mem_cons_of_mem _ (ih h)
    obtain ⟨v, a1, _, a3⟩ := h3 _ (key _ l)
    exact ⟨dx, ws, v, h1, h2, a1, a3⟩
/-- a clause whose suite may read the fields -/
structure Cl3 where
  tbl : Str → Option Bool
  io : Option Nat
  g : List (Str × D) → Env → R Fl
noncomputable def goN3 : List Cl3 → Str → List (Str × D) → Env → R Fl
  | [], c, fs, ρ => .ok (.ex c fs ρ)
  | k :: r, c, fs, ρ => match k.tbl c with
    | some true => endN k.io (k.g fs (clrI k.io ρ))
    | some false => goN3 r c fs ρ
    | none => .stuck
noncomputable def sTryF (cl : List Cl3) (f : Env → R Fl) : Env → R Fl := fun ρ => match f ρ with
  | .ok (.ex c fs ρ') => if ρ'.length = ρ.length then goN3 cl c fs ρ' else .stuck
  | r => r
noncomputable def xfl3 (fl : List Sh) (io : Option Nat) (a : Addr) (eo : Option (Addr × List (Str × V))) : List Sh := match io with
  | some i => (List.replicate fl.length .s).set i (.x (.ref a) eo)
  | none => List.replicate fl.length .s
inductive Cls3 (X : Cx) (L : LE) (J : Jn) (fl fl' : List Sh) : List ExceptHandler → List Cl3 → List Cl1 → Prop
  | nil : Cls3 X L J fl fl' [] [] []
  | cons {x : Str} {no : Option Str} {io : Option Nat} {tbl : Str → Option Bool} {g : List (Str × D) → Env → R Fl} {b0 : Stmt} {suite : List Stmt} {np p2 : Pos} {hs : List ExceptHandler} {cl : List Cl3} {l : List Cl1} {flE : Addr → Option (Addr × List (Str × V)) → List Sh}
      (hg : Gl X x) (hd : (x == ("__debug__" : Str)) = false) (hm : X.mg x = some (.ref (L.ca x))) (ht : ∀ c b, tbl c = some b → PySem.W.exmOne X.K (.ref (L.ca c)) (.ref (L.ca x)) = some b ∧ (b = true → c = x)) (hio : slotOk X no io)
      (hfl : ∀ a eo, (match io with | some i => (flE a eo).set i .s | none => flE a eo) = fl')
      (hsu : ∀ (a : Addr) (oe : Obj) (pn : List (Addr × Obj)) (d : Option Addr) (eo : Option (Addr × List (Str × V))) (fs : List (Str × D)), Zc (.ref (L.ca x)) d oe → (∃ vs, oe.data = .fields vs) → EoOk L d eo fs → PSs (X.suite a ((a, oe) :: pn)) (b0 :: suite) (tS L J (xfl3 fl io a eo) (flE a eo) W0 (g fs)))
      (r : Cls3 X L J fl fl' hs cl l) :
      Cls3 X L J fl fl' (.ExceptHandler (some (.Name x np)) no (b0 :: suite) p2 :: hs) (⟨tbl, io, g⟩ :: cl)
        ((.ref (L.ca x), io, fun a k d D σ H => ∃ eo fs, (k = .ref (L.ca x) ∧ EoOk L d eo fs) ∧ tS L J (xfl3 fl io a eo) (flE a eo) W0 (g fs) D σ H) :: l)
theorem Cls3.to1 {hs : List ExceptHandler} {cl : List Cl3} {l : List Cl1} (h : Cls3 X L J fl fl' hs cl l) : Cls1 X hs l := by
  induction h with
  | nil => exact .nil
  | @cons x no io tbl g b0 suite np p2 hs cl l flE hg hd hm ht hio hfl hsu _ ih =>
    refine .cons ⟨hg, hd, .inl hm⟩ hio (fun a oe k d pn hz hv => ?_) ih
    refine ⟨fun pins s D σ H I h => ?_⟩
    obtain ⟨eo, fs, ⟨rfl, he⟩, h⟩ := h
    exact (hsu a oe pn d eo fs hz hv he).run pins s D σ H I h
theorem Cls3.run {hs : List ExceptHandler} {cl : List Cl3} {l : List Cl1} (h : Cls3 X L J fl fl' hs cl l) {D : Ends} {F B F' H' : Hp} {c : Str} {fs : List (Str × PD.D)} {ρ' : Env} {σ' : L2.St} {d : Option Addr} {fl0 : List Sh}
    (r : Rep L fl0 F' B σ' H' ρ') (hl : fl0.length = fl.length) (s : Same F F') (er : ErrOk L c fs (.ref (L.ca c)) d F' H') (p : PostS L J fl' F B W D (goN3 cl c fs ρ')) : wN X.K W D l (.ref (L.ca c)) d σ' H' := by
  induction h with
  | nil => exact p (.ref (L.ca c)) d fl0 σ' F' H' s r er
  | @cons x no io tbl g b0 suite np p2 hs cl l flE hg hd hm ht hio hfl hsu _ ih =>
    unfold goN3 at p
    dsimp only at p
    cases qt : tbl c with
    | none => rw [qt] at p; exact p.elim
    | some b =>
      obtain ⟨t1, t2⟩ := ht c b qt
      rw [qt] at p
      cases b with
      | false => exact ⟨false, t1, fun z => (nomatch z), fun _ => ih p⟩
      | true =>
        refine ⟨true, t1, fun _ a ha => ?_, fun z => (nomatch z)⟩
        have ex := t2 rfl
        subst ex
        dsimp only at p
        obtain ⟨eo, heo, hF⟩ := eoOk_of er
        refine ⟨eo, fs, ⟨rfl, heo⟩, ?_⟩
        obtain ⟨F2, s2, r2⟩ := r.frzAll
        rw [hl] at r2
        cases io with
        | none =>
          refine ⟨F2, B, _, r2, ?_⟩
          have hf : flE a eo = fl' := hfl a eo
          rw [hf]
          have p : PostS L J fl' F B W D (endN none (g fs ρ')) := p
          show PostS L J fl' F2 B W0 D (g fs ρ')
          cases qg : g fs ρ' with
          | ok z =>
            rw [qg] at p
            cases z with
            | rt d => exact PostS.weak (r := .ok (.rt d)) p (s.trans s2)
            | nx ρ2 => exact PostS.weak (r := .ok (.nx ρ2)) p (s.trans s2)
            | _ => exact p.elim
          | _ => rw [qg] at p; exact p.elim
        | some i =>
          have r3 := r2.setX i (.ref a) eo (fun dx ws z => s2 _ _ (hF dx ws z))
          refine ⟨F2, B, _, r3, ?_⟩
          have hf : (flE a eo).set i .s = fl' := hfl a eo
          have p : PostS L J fl' F B W D (endN (some i) (g fs (ρ'.set i none))) := p
          show PostS L J (flE a eo) F2 B W0 _ (g fs (ρ'.set i none))
          cases qg : g fs (ρ'.set i none) with
          | ok z =>
            rw [qg] at p
            cases z with
            | rt d => exact PostS.weak (r := .ok (.rt d)) p (s.trans s2)
            | nx ρ2 =>
              have p := PostS.weak (r := .ok (.nx (ρ2.set i none))) p (s.trans s2)
              exact fun σ3 F3 H3 s3 r4 => p _ F3 H3 s3 (r4.clr i hf.symm)
            | _ => exact p.elim
          | _ => rw [qg] at p; exact p.elim
theorem s_tryF {body : List Stmt} {h0 : ExceptHandler} {hs : List ExceptHandler} {cl : List Cl3} {l : List Cl1} {f : Env → R Fl} (hN : X.N.Nodup) (tk : Takes X W)
    (hb : ∀ (W2 : WX) (pn : List (Addr × Obj)) (xe : Value → Shared → Prop), Takes (X.tr pn xe) W2 → PassesOwn (model X.prog X.w) X.A X.env xe → PSs (X.tr pn xe) body (tS L J fl fl' W2 f))
    (hc : Cls3 X L J fl fl' (h0 :: hs) cl l) (hs1 : X.stack = X.env :: X.outer := by rfl) (hf1 : X.env.frame = some X.env.locals := by rfl) :
    PS X (.Try body (h0 :: hs) [] [] pos) (tS L J fl fl' W (sTryF cl f)) := by
  refine (ps_tryN hs1 hf1 hN tk hb hc.to1).imp fun D σ H ⟨F, B, ρ, r, p⟩ => ⟨F, B, ρ, r, ?_⟩
  unfold sTryF at p
  cases q : f ρ with
  | err c fs => rw [q] at p; exact p
  | stuck => rw [q] at p; exact p
  | ok z =>
    rw [q] at p
    cases z with
    | nx ρ' => exact p
    | rt d => exact p
    | bk ρ' => exact p
    | ct ρ' => exact p
    | ex c fs ρ' =>
      dsimp only at p
      intro cls d fl0 σ' F' H' s r' er
      by_cases hlr : ρ'.length = ρ.length
      · rw [if_pos hlr] at p
        have ec := er.1
        subst ec
        exact hc.run r' (by rw [← r'.lr, hlr]; exact r.lr) s er p
      · rw [if_neg hlr] at p; exact p.elim

/-! ### read -/
noncomputable def mXF (fs : List (Str × D)) (fld : Str) : Env → R D := fun _ => match fs.lookup fld with
  | some d => .ok d
  | none => .stuck
structure XfL (K : PySem.W.Frag) (L : LE) (c fld : Str) : Prop where
  x : XfC K (L.ca c)
  n : PySem.W.findIn K (.ref (L.ca c)) fld = some none
theorem xfL_mk {K : PySem.W.Frag} {ca : Str → Addr} {T : List Addr} {c fld : Str} {x : Addr} (e : ca c = x) (h : XfC K x) (n : PySem.W.findIn K (.ref x) fld = some none) : XfL K ⟨K, ca, T⟩ c fld := by
  subst e
  exact ⟨h, n⟩
theorem e_xf (i : Nat) {a : Addr} {oe : Obj} {pn : List (Addr × Obj)} {d : Option Addr} {eo : Option (Addr × List (Str × V))} {fs : List (Str × D)} {c n fld : Str} {p : Pos} {bw : Bool} (xf : XfL X.K L c fld) (hz : Zc (.ref (L.ca c)) d oe) (hv : ∃ vs, oe.data = .fields vs) (he : EoOk L d eo fs)
    (hfl : fl[i]? = some (.x (.ref a) eo) := by rfl) (hN : X.N[i]? = some n := by rfl) (hvi : Vis X.env.scope n := by first | exact Or.inl rfl | exact Or.inr (Or.inl rfl) | exact Or.inr (Or.inr rfl)) (hd : (n == ("__debug__" : Str)) = false := by decide) (hcd : (n == ("__classdict__" : Str)) = false := by decide)
    (hb : attributeBase (.Name n p) fld X.env (eval (.Name n p) X.env) = eval (.Name n p) X.env := by rfl) :
    PE (X.suite a ((a, oe) :: pn)) (.Attribute (.Name n p) fld pos) (tD L fl (.d bw) W (mXF fs fld)) :=
  (pe_xf (X := X) xf.x xf.n hz hv (pv (X := X.suite a ((a, oe) :: pn)) i hN hvi hd hcd) (hb := hb)).imp fun σ H Q ⟨F, B, ρ, r, p⟩ => by
    refine ⟨.ref a, (r.px i _ _ hfl).1, rfl, rfl, ?_⟩
    unfold mXF at p
    cases l : fs.lookup fld with
    | none => rw [l] at p; exact p.elim
    | some y =>
      rw [l] at p
      obtain ⟨dx, ws, v, h1, h2, h3, h4⟩ := he.look l
      have hF := (r.px i _ _ hfl).2 dx ws h2
      exact ⟨dx, ws, v, h1, r.bs.fh _ _ hF, h3, postE_ok (d := y) p r.refl (h4 _)⟩

/-! ### isinstance of it -/
noncomputable def rIsF (K : PySem.W.Frag) (D a : Addr) (d : Option Addr) : List V → Hp → VK → Prop := fun xs H Q => (∀ dx, d = some dx → ∃ ws, H dx = some (.xd ws)) ∧ rIsE K D a xs H Q
theorem call_isF {a D : Addr} {oe : Obj} {d : Option Addr} {pn : List (Addr × Obj)} (C : ExcC X.K D) (hz : Zc (.ref D) d oe) (hf : ∃ vs, oe.data = .fields vs) : CallR (X.suite a ((a, oe) :: pn)) (.builtin "isinstance") (rIsF X.K D a d) := by
  intro pins s σ H xs us Q I r h
  obtain ⟨hdx, c, cv, b, rfl, hcv, e, q⟩ := h
  cases r with
  | cons rx rr =>
    cases rr with
    | cons rt rr =>
      cases rr
      cases rx
      have ec := hcv _ rt
      subst ec
      obtain ⟨hget, _⟩ := I.pin (a, oe) (List.mem_append.mpr (.inl List.mem_cons_self))
      obtain ⟨vs, hv⟩ := hf
      have hcl : (PySem.W.clsIn X.K D).isSome = true := by
        have z := C.hd
        unfold PySem.W.hasDictIn at z
        cases q : PySem.W.clsIn X.K D with
        | none => rw [q] at z; cases z
        | some _ => rfl
      have J : ∃ od, PySem.W.InstAt s.heap a oe D od := by
        obtain ⟨oc, od, oda, osl⟩ := oe
        obtain ⟨h1, h2⟩ := hz
        dsimp only at h1 h2 hv
        subst h1 h2 hv
        cases od with
        | none => exact ⟨none, hget, rfl, rfl, trivial⟩
        | some dx =>
          obtain ⟨ws, hw⟩ := hdx dx rfl
          have hx : ObjOk X.prog X.w H s.heap dx (.xd ws) := I.hok dx _ hw
          obtain ⟨mA, hns, _⟩ := hx
          obtain ⟨o, _, _, ho, _⟩ := hns
          exact ⟨some o, hget, rfl, rfl, ho⟩
      obtain ⟨od, J⟩ := J
      exact PySem.W.kia_one (PySem.W.kitx_exc hcl C.hg C.hk C.hs C.ha C.hn C.ht C.hm) I.kIn J e (fun z => nomatch z) fun tk => ⟨.bl b, H, I.kept (t' := tk) fun _ _ z => z, rfl, q⟩
theorem isF_dx {F B H : Hp} {σ : L2.St} {ρ : Env} {i : Nat} {a : Addr} {d : Option Addr} {eo : Option (Addr × List (Str × V))} {fs : List (Str × D)} (r : Rep L fl F B σ H ρ) (hfl : fl[i]? = some (.x (.ref a) eo)) (he : EoOk L d eo fs) : ∀ dx, d = some dx → ∃ ws, H dx = some (.xd ws) := by
  intro dx hd
  rcases he.dict with ⟨h1, _⟩ | ⟨dx', ws, h1, h2⟩
  · rw [h1] at hd; cases hd
  · rw [h1] at hd
    cases hd
    exact ⟨ws, r.bs.fh _ _ ((r.px i _ _ hfl).2 dx ws h2)⟩
theorem e_isF (i : Nat) {a : Addr} {oe : Obj} {d : Option Addr} {eo : Option (Addr × List (Str × V))} {fs : List (Str × D)} {pn : List (Addr × Obj)} {c T n : Str} {b : Bool} {p p2 pn' : Pos} {bw : Bool} (xe : XE X.K L c) (xk : XK X.K X.mg L c T b) (hz : Zc (.ref (L.ca c)) d oe) (hv : ∃ vs, oe.data = .fields vs) (heo : EoOk L d eo fs) (hm : X.mg "isinstance" = none)
    (hfl : fl[i]? = some (.x (.ref a) eo) := by rfl) (hN : X.N[i]? = some n := by rfl) (hvi : Vis X.env.scope n := by first | exact Or.inl rfl | exact Or.inr (Or.inl rfl) | exact Or.inr (Or.inr rfl)) (hd : (n == ("__debug__" : Str)) = false := by decide) (hcd : (n == ("__classdict__" : Str)) = false := by decide)
    (hg : Gl X "isinstance" := by rfl) (hgT : Gl X T := by rfl) (hdb : (T == ("__debug__" : Str)) = false := by decide)
    (hse : starEach [.Name n pn', .Name T p2] X.env = (false, eval (.Name n pn') X.env) :: starEach [.Name T p2] X.env := by rfl) (hpl : (backTo pos (starEach [.Name T p2] X.env)).any (·.1) = false := by rfl) :
    PE (X.suite a ((a, oe) :: pn)) (.Call (.Name "isinstance" p) [.Name n pn', .Name T p2] [] pos) (tD L fl (.d bw) W (mC (.bl b))) :=
  (pe_callB (X := X.suite a ((a, oe) :: pn)) (call_isF xe.e hz hv) hg hm boot_isinstance (pa_cons (pv i hN hvi hd hcd) (pa_cons (pe_glob (v := .ref (L.ca T)) hgT xk.g rfl hdb) pa_nil) hse) (he := hse) (hpl := hpl)).imp fun σ H Q ⟨F, B, ρ, r, p⟩ =>
    ⟨.ref a, (r.px i _ _ hfl).1, isF_dx r hfl heo, .ref (L.ca T), .ref (L.ca T), b, rfl, fun u h => h, xk.k, postE_ok (d := .bl b) p r.refl .bl⟩
theorem e_isFb (i : Nat) {a : Addr} {oe : Obj} {d : Option Addr} {eo : Option (Addr × List (Str × V))} {fs : List (Str × D)} {pn : List (Addr × Obj)} {c TS n : Str} {T : String} {b : Bool} {p p2 pn' : Pos} {bw : Bool} (xe : XE X.K L c) (hT : X.mg TS = none) (hvT : bootBuiltins TS = some (.type T)) (xk : PySem.W.kitOne X.K (.ref (L.ca c)) (.type T) = some b) (hz : Zc (.ref (L.ca c)) d oe) (hv : ∃ vs, oe.data = .fields vs) (heo : EoOk L d eo fs) (hm : X.mg "isinstance" = none)
    (hfl : fl[i]? = some (.x (.ref a) eo) := by rfl) (hN : X.N[i]? = some n := by rfl) (hvi : Vis X.env.scope n := by first | exact Or.inl rfl | exact Or.inr (Or.inl rfl) | exact Or.inr (Or.inr rfl)) (hd : (n == ("__debug__" : Str)) = false := by decide) (hcd : (n == ("__classdict__" : Str)) = false := by decide)
    (hg : Gl X "isinstance" := by rfl) (hgT : Gl X TS := by rfl) (hn : TS ≠ "__name__" := by decide) (hdb : (TS == ("__debug__" : Str)) = false := by decide)
    (hse : starEach [.Name n pn', .Name TS p2] X.env = (false, eval (.Name n pn') X.env) :: starEach [.Name TS p2] X.env := by rfl) (hpl : (backTo pos (starEach [.Name TS p2] X.env)).any (·.1) = false := by rfl) :
    PE (X.suite a ((a, oe) :: pn)) (.Call (.Name "isinstance" p) [.Name n pn', .Name TS p2] [] pos) (tD L fl (.d bw) W (mC (.bl b))) :=
  (pe_callB (X := X.suite a ((a, oe) :: pn)) (call_isF xe.e hz hv) hg hm boot_isinstance (pa_cons (pv i hN hvi hd hcd) (pa_cons (pe_bltn (v := .ty T) hgT hT hvT rfl hn hdb) pa_nil) hse) (he := hse) (hpl := hpl)).imp fun σ H Q ⟨F, B, ρ, r, p⟩ =>
    ⟨.ref a, (r.px i _ _ hfl).1, isF_dx r hfl heo, .ty T, .type T, b, rfl, fun u h => h, xk, postE_ok (d := .bl b) p r.refl .bl⟩
end
end PD
set_option Elab.async false
set_option linter.all false
set_option maxRecDepth 100000
set_option maxHeartbeats 2000000
/-! # raise C(f"..{N}..") of a constant number -/
namespace PD
open PySem PySem.Spec PyProof.Rows L2
section
variable {X : Cx} {L : LE} {fl fl' : List Sh} {W : WX} {pos : Pos} {J : Jn}
theorem s_raiseFs {c m1 m2 x : Str} {i : Int} {j1 j2 : Nat} {p p1 p2 p3 p4 p5 pos' : Pos} (q : Xcl X.K X.mg L c) (hm : GInt X.mg x i) (tk : Takes X W) (hz : i.natAbs.log2 < 1920) (h1 : (Str.empty ++ m1).length ≤ sizeLine) (h2 : (Str.empty ++ m1 ++ (toString i : Str)).length ≤ sizeLine) (h3 : (Str.empty ++ m1 ++ (toString i : Str) ++ m2).length ≤ sizeLine)
    (hgx : Gl X x := by rfl) (hdx : (x == ("__debug__" : Str)) = false := by decide) (hc : X.calm = true := by rfl) (hg : Gl X c := by rfl) (hdb : (c == ("__debug__" : Str)) = false := by decide)
    (hs : starEach [.JoinedStr [.Constant (.str m1) j1 p1, .FormattedValue (.Name x p2) (-1) none p3, .Constant (.str m2) j2 p4] p5] X.env = (false, eval (.JoinedStr [.Constant (.str m1) j1 p1, .FormattedValue (.Name x p2) (-1) none p3, .Constant (.str m2) j2 p4] p5) X.env) :: starEach [] X.env := by rfl) :
    PS X (.Raise (some (.Call (.Name c p) [.JoinedStr [.Constant (.str m1) j1 p1, .FormattedValue (.Name x p2) (-1) none p3, .Constant (.str m2) j2 p4] p5] [] pos')) none pos) (tS L J fl fl' W (sRaise c)) := by
  obtain ⟨t, hm⟩ := hm
  refine (ps_raise hc tk (SkE.pmk_own1 PySem.F.excBase_ValueError q.x q.g q.k (raises_own q.b q.t) hg (pe_joined (PJ.cons pe_str (PJ.cons (pe_fmt (pe_glob (v := .int i) hgx hm ⟨t, rfl⟩ hdx)) (PJ.cons pe_str PJ.nil)))) hs hdb)).imp fun D σ H ⟨F, B, ρ, r, p⟩ => ?_
  exact ⟨_, rfl, h1, .inr ⟨i, rfl, hz, _, rfl, h2, _, rfl, h3, p _ _ fl σ F H (.refl _) r ⟨rfl, rfl⟩⟩⟩
end
end PD
set_option Elab.async false
set_option linter.all false
set_option maxRecDepth 100000
set_option maxHeartbeats 2000000
/-! # zip of two, each a list or a tuple -/
namespace L2
open PySem PySem.Spec PyProof.Rows
noncomputable def SqK (t : Bool) (K : PySem.W.Frag) (H : Hp) (a : Addr) (xs : List V) : Prop := cond t (SqT K H a xs) (SqL K H a xs)
noncomputable def IsK (t : Bool) (h : Heap) (a : Addr) (its : Array Value) : Prop := cond t (h.IsTuple a its) (h.IsList a its)
noncomputable def IkK (t : Bool) (h : Heap) (it a : Addr) (i : Nat) : Prop := cond t (h.IsTupleIter it a i) (h.IsListIter it a i)
noncomputable def itO (t : Bool) (a : Addr) : Obj := { cls := .type (cond t "tuple_iterator" "list_iterator"), data := .fields #[.ref a, .int 0 0] }
section
variable {X : Cx} {pins : List (Addr × Obj)} {σ : L2.St} {H : Hp} {s : Shared} {a it : Addr} {xs : List V} {h h' : Heap} {i : Nat}
theorem Inv.seqK {t : Bool} (I : Inv X pins σ H s) (q : SqK t X.K H a xs) : ∃ its : List Value, Vals xs its ∧ IsK t s.heap a its.toArray ∧ a < s.heap.objs.size := by
  cases t with
  | false =>
    obtain ⟨its, rv, p, _⟩ := I.list q
    exact ⟨its, rv, p.isList, p.lt⟩
  | true =>
    obtain ⟨its, rv, p, _⟩ := I.tuple q
    obtain ⟨o1, ho1, _⟩ := id p
    exact ⟨its, rv, p, Heap.lt_size ho1⟩
theorem drawsK {prog : Program} {w : World} {A : Around} (t : Bool) (hh : A.handled = none) (it a : Addr) (hne : a ≠ it) (items : Array Value) : Draws prog w A it [it, a] items.size (fun i v => items[i]? = some v) (fun i h => IkK t h it a i ∧ IsK t h a items) := by
  cases t with
  | false => exact .list hh it a hne items
  | true => exact .tuple hh it a hne items
theorem beginsK (t : Bool) (a : Addr) (items : Array Value) : Begins (.ref a) (itO t a) (fun h => IsK t h a items) := by
  cases t with
  | false => exact begins_list a items
  | true => exact begins_tuple a items
theorem ikK_new {t : Bool} (e : h.get? it = some (itO t a)) : IkK t h it a 0 := by
  cases t with
  | false => exact ⟨_, e, rfl, rfl⟩
  | true => exact ⟨_, e, rfl, rfl⟩
theorem IkK.at {t : Bool} (x : IkK t h it a i) (k : ∀ o, h.get? it = some o → h'.get? it = some o) : IkK t h' it a i := by
  cases t with
  | false => exact Heap.IsListIter.at x fun o q => k o q
  | true => exact Heap.IsTupleIter.at x fun o q => k o q
theorem IkK.obj {t : Bool} (x : IkK t h it a i) : ∃ o, h.get? it = some o ∧ ∀ v, o.data ≠ .cell v := by
  cases t with
  | false =>
    obtain ⟨o, e, _, d⟩ := x
    exact ⟨o, e, fun v q => by rw [d] at q; cases q⟩
  | true =>
    obtain ⟨o, e, _, d⟩ := x
    exact ⟨o, e, fun v q => by rw [d] at q; cases q⟩
end
end L2
namespace PD
open PySem PySem.Spec PyProof.Rows L2
noncomputable def sqD : D → Option (List D)
  | .lst xs => some xs
  | .tup xs => some xs
  | _ => none
section
variable {X : Cx} {L : LE} {fl : List Sh} {W : WX} {pos : Pos}
theorem dat_sqK {K : PySem.W.Frag} {F : Hp} {v : V} {d : D} {xs : List D} (h : Dat K F v d) (e : sqD d = some xs) : ∃ t a vs, v = .ref a ∧ DatL K F vs xs ∧ (∀ H, Sm F H → SqK t K H a vs) := by
  cases h with
  | lst h r => cases e; exact ⟨false, _, _, rfl, r, fun H s => SqL.of (s _ _ h rfl)⟩
  | tup h r => cases e; exact ⟨true, _, _, rfl, r, fun H s => sm_t s h⟩
  | _ => cases e
end
end PD
set_option Elab.async false
set_option linter.all false
set_option maxRecDepth 100000
set_option maxHeartbeats 2000000
/-! # enumerate of a list or a tuple -/
namespace L2
open PySem PySem.Spec PyProof.Rows
theorem meets_enum1B {v : Value} {o : Obj} {H : Heap → Prop} (B : Begins v o H) :
    Meets (Builtin.«enumerate.__new__» ⟨[.type "enumerate", v], []⟩) (fun _ R s => H s.heap ∧
      R (.ok (.ret (.ref (s.heap.push o).objs.size))) { s with heap := (s.heap.push o).push { cls := .type "enumerate", data := .fields #[.none, .bool false, .ref s.heap.objs.size, rawInt 0, .none, .none] } }) :=
  .of_wp fun prog w A R s h => by
    obtain ⟨hp, g, d, tk, os⟩ := s; obtain ⟨h1, h⟩ := h
    have hsub := sub_enumerate
    have q1 : ∀ {A' : Around} {E : Value → Shared → Prop} {Q : Value → Shared → Prop}, Q (.ref hp.objs.size) ⟨hp.push o, g, d, tk, os⟩ → wpAny (model prog w) A' (pyIter v) Q E ⟨hp, g, d, tk, os⟩ :=
      fun q => B.iter prog w _ _ ⟨hp, g, d, tk, os⟩ _ h1 q
    wp_walk using q1
    refine wpAny_stack_any fun st => wpAny_pure ?_
    split
    · rename_i c _ _ _ _ _
      cases (c == Value.type "enumerate")
      · wp_walk using q1
        exact ⟨_, rfl, h⟩
      · wp_walk using q1
        exact ⟨_, rfl, h⟩
    · wp_walk using q1
      exact ⟨_, rfl, h⟩
theorem enum1_begins {prog : Program} {w : World} {A : Around} {E : Value → Shared → Prop} {s : Shared} {v : Value} {o : Obj} {H : Heap → Prop} {Q : Value → Shared → Prop} (B : Begins v o H) (h1 : H s.heap)
    (h : ∀ h', IsEnum h' (s.heap.objs.size + 1) s.heap.objs.size 0 .none → h'.get? s.heap.objs.size = some o → h'.objs.size = s.heap.objs.size + 2 →
      (∀ b o, s.heap.get? b = some o → h'.get? b = some o) → Q (.ref (s.heap.objs.size + 1)) { s with heap := h' }) :
    wpAny (model prog w) A (call (.type "enumerate") [v]) Q E s := by
  refine callType_new F.called_enumerate (by decide) (F.typeCall_enumerate_1 _) (F.newCall_enumerate_1 _) (fun obj => F.args_object_init_2 obj _) F.entry_enumerate_new
    (meets_enum1B B) ⟨h1, ?_⟩
  have hz : (s.heap.push o).objs.size = s.heap.objs.size + 1 := Heap.size_push ..
  show _ ∧ _
  rw [hz]
  have he : IsEnum ((s.heap.push o).push { cls := .type "enumerate", data := .fields #[.none, .bool false, .ref s.heap.objs.size, rawInt 0, .none, .none] }) (s.heap.objs.size + 1) s.heap.objs.size 0 .none := by
    have := Heap.get?_push_size (s.heap.push o) (o := { cls := .type "enumerate", data := .fields #[.none, .bool false, .ref s.heap.objs.size, rawInt 0, .none, .none] }) rfl
    rw [hz] at this; exact this
  refine ⟨⟨_, he, rfl⟩, h _ he (Heap.get?_push_of_some _ (Heap.get?_push_size _ B.free)) (by rw [Heap.size_push, hz]) fun b o x => Heap.get?_push_of_some _ (Heap.get?_push_of_some _ x)⟩
/-- the sequence at a, its items with their counts in new pairs -/
noncomputable def IteK (t : Bool) (K : PySem.W.Frag) (a : Addr) (xs : List V) : It :=
  ⟨fun i H => SqK t K H a xs ∧ i < xs.length,
    fun i H v H' => ∃ T x, v = .ref T ∧ H T = none ∧ H' = upd H T (.tup [.int (i : Nat), x]) ∧ xs[i]? = some x,
    fun i H => SqK t K H a xs ∧ xs.length ≤ i⟩
theorem turn_enK {P : Program} {w : World} {K : PySem.W.Frag} {elts : List Expr} {kk : Nat} {tpos : Pos} {t : Bool} {a e it : Addr} {xs : List V} (d1 : e ≠ it) (d2 : e ≠ a) (d3 : a ≠ it) :
    Turn P w K (.Tuple elts kk tpos) (IteK t K a xs) [e, it] e (fun i h => (∃ old, IsEnum h e it ((i : Nat) : Int) old) ∧ IkK t h it a i ∧ i ≤ xs.length) where
  mem := by simp
  obj := fun i h st c hc => by
    obtain ⟨⟨old, he⟩, h1, _⟩ := st
    have e' : c = e ∨ c = it := by simpa using hc
    rcases e' with q | q
    · rw [q]; exact ⟨_, he, fun v q => nomatch q⟩
    · rw [q]; exact h1.obj
  keep := fun i h h' st k => by
    obtain ⟨⟨old, he⟩, h1, l⟩ := st
    exact ⟨⟨old, k e (by simp) _ he⟩, h1.at fun o q => k it (by simp) o q, l⟩
  item := by
    intro X hP hw hK hc i pins s σ H E I hf st hg
    subst hP hw hK
    obtain ⟨⟨old, he⟩, h1, _⟩ := st
    obtain ⟨hqx, lx⟩ := hg
    obtain ⟨its, rv, p, la⟩ := I.seqK hqx
    have n1 := rv.length
    have hel : e < s.heap.objs.size := Heap.lt_size he
    have hil : it < s.heap.objs.size := by obtain ⟨_, e1, _⟩ := h1.obj; exact Heap.lt_size e1
    have hh : X.A.in1.handled = none := I.ok.hd hc
    refine wpAny_pyNext_enum_itemC (drawsK t hh it a d3 its.toArray) he ⟨h1, p⟩ (by simp; omega) d1 (by simp [d1, d2]) fun u h' tk hu ho st' hT hsz hk => ?_
    obtain ⟨x, hx⟩ : ∃ x, xs[i]? = some x := ⟨_, List.getElem?_eq_getElem lx⟩
    obtain ⟨v, hv, ru⟩ := rv.get hx
    have ev : v = u := by
      have q : its[i]? = some u := by simpa using hu
      rw [hv] at q
      exact Option.some.inj q
    subst ev
    refine ⟨_, rfl, wpAny_letOwnedTupleGo_enum (s := { s with heap := h', toks := tk + 1 }) ho fun h'' he' sb => ?_⟩
    have hT2 : h''.get? s.heap.objs.size = some { cls := .type "tuple", data := .seq #[.int i tk, v] } := (sb.2 _ (Nat.ne_of_gt hel)).trans hT
    have new : ObjOk X.prog X.w (upd H s.heap.objs.size (.tup [.int (i : Nat), x])) h'' s.heap.objs.size (.tup [.int (i : Nat), x]) :=
      ⟨by show 2 ≤ sizeLine; decide, [.int i tk, v], .cons ⟨_, rfl⟩ (.cons ru .nil), ⟨_, hT2, rfl, _, rfl⟩⟩
    have I1 : Inv X pins σ (upd H s.heap.objs.size (.tup [.int (i : Nat), x])) { s with heap := h'', toks := tk + 1 } :=
      I.turnedNew (t' := tk + 1) (ch := [e, it]) (fun c o hb q => (sb.2 c (fun q' => hb (by simp [q']))).trans (hk c o (fun q' => hb (by simp [q'])) (fun q' => hb (by simp [q'])) q)) hf (Nat.le_refl _) new
    refine ⟨.ref s.heap.objs.size, _, I1, rfl, ⟨_, x, rfl, I.hok.fresh (Nat.le_refl _), rfl, hx⟩, ⟨⟨v, ?_⟩, st'.1.at fun o q => (sb.2 _ (Ne.symm d1)).trans q, lx⟩, fun c hcm => ?_⟩
    · have e1 : ((i + 1 : Nat) : Int) = (i : Int) + 1 := by omega
      rw [e1]; exact he'
    · have hlt : c < s.heap.objs.size := by
        have e' : c = e ∨ c = it := by simpa using hcm
        rcases e' with q | q
        · rw [q]; exact hel
        · rw [q]; exact hil
      rw [upd_ne (Nat.ne_of_lt hlt)]
      exact (hf c hcm).1
  done := by
    intro X hP hw hK hc i pins s σ H E I hf st hg
    subst hP hw hK
    obtain ⟨⟨old, he⟩, h1, l⟩ := st
    obtain ⟨hqx, hend⟩ := hg
    obtain ⟨its, rv, p, la⟩ := I.seqK hqx
    have n1 := rv.length
    have hh : X.A.in1.handled = none := I.ok.hd hc
    have hi : i = its.toArray.size := by simp; omega
    subst hi
    obtain ⟨f0, f1, f2, f3, f4, f5⟩ := hf it (by simp)
    exact wpAny_pyNext_enum_endD (drawsK t hh it a d3 its.toArray) he ⟨h1, p⟩ fun h' eb => ⟨rfl, I.turned (t' := s.toks) (fun b o hb q => eb b o hb q) f0 f1 f3 f4 f5⟩
  self := fun A i s Q E st h => by
    obtain ⟨⟨_, he⟩, _⟩ := st
    exact wpAny_pyIter_enum he h
theorem pi_enK {X : Cx} {e : Expr} {ta : TA} {p pos tpos : Pos} {elts : List Expr} {kk : Nat} (hg : Gl X "enumerate") (hm : X.mg "enumerate" = none) (ha : PA X [e] ta)
    (hs : starEach [e] X.env = [(false, eval e X.env)] := by rfl) :
    PI X (.Tuple elts kk tpos) (.Call (.Name "enumerate" p) [e] [] pos) (fun σ H R => ta σ H fun vs H1 => ∃ t a xs, vs = [.ref a] ∧ SqK t X.K H1 a xs ∧ R (IteK t X.K a xs) H1) := by
  refine ⟨fun pins s σ H R I h => ?_⟩
  refine Call_ (ld_blt I hg hm boot_enumerate (PyProof.Rows.callWith_type1 (thn (ha.run pos pins s σ H _ I h) fun us s1 ⟨vs, H1, I1, r1, q1⟩ => ?_) hs rfl))
  obtain ⟨t, a, xs, ex, hqx, q⟩ := q1
  subst ex
  cases r1 with
  | cons r rr =>
    cases rr
    cases r
    obtain ⟨its, rv, p1, la⟩ := I1.seqK hqx
    refine enum1_begins (beginsK t a its.toArray) p1 fun h' he hit hsz hk => wpAny_pyIter_enum he ?_
    have I2 : Inv X pins σ H1 { s1 with heap := h' } := I1.kept (t' := s1.toks) hk
    refine ⟨s1.heap.objs.size + 1, [s1.heap.objs.size + 1, s1.heap.objs.size], _, _, H1, rfl, I2, turn_enK (Nat.succ_ne_self _) (Nat.ne_of_gt (Nat.lt_succ_of_lt la)) (Nat.ne_of_lt la), ⟨⟨.none, he⟩, ikK_new hit, Nat.zero_le _⟩, fun b hb => ?_, q⟩
    have e' : b = s1.heap.objs.size + 1 ∨ b = s1.heap.objs.size := by simpa using hb
    have hle : s1.heap.objs.size ≤ b := by
      rcases e' with z | z
      · rw [z]; exact Nat.le_add_right _ _
      · rw [z]; exact Nat.le_refl _
    exact I1.fpOk hle (I1.hok.fresh hle)
end L2
namespace PD
open PySem PySem.Spec PyProof.Rows L2
noncomputable def gEnS (d : D) : Option (List D) := (sqD d).map (enumL 0)
@[simp] theorem gEnS_l {xs : List D} : gEnS (.lst xs) = some (enumL 0 xs) := Eq.trans rfl rfl
@[simp] theorem gEnS_t {xs : List D} : gEnS (.tup xs) = some (enumL 0 xs) := Eq.trans rfl rfl
section
variable {X : Cx} {L : LE} {fl : List Sh} {W : WX} {pos : Pos}
theorem wk_enK {F0 : Hp} {t : Bool} {a : Addr} {vs : List V} {xs : List D} (h1 : ∀ H, Sm F0 H → SqK t L.K H a vs) (d1 : DatL L.K F0 vs xs) : Wk L (IteK t L.K a vs) F0 (enumL 0 xs) := fun F H s1 s2 nt => by
  have k1 := h1 H (s1.trans s2).sm
  have n1 := d1.length
  refine ⟨fun i d hi => ?_, fun i hi => ⟨k1, by rw [enumL_len, ← n1] at hi; exact hi⟩⟩
  rw [enumL_get] at hi
  cases qx : xs[i]? with
  | none => rw [qx] at hi; cases hi
  | some x =>
    rw [qx] at hi
    cases hi
    obtain ⟨v, e1, e2⟩ := d1.get qx
    refine ⟨⟨k1, by rw [n1]; exact (List.getElem?_eq_some_iff.mp qx).1⟩, fun r H' yl => ?_⟩
    obtain ⟨T, z, rfl, hT, rfl, g1⟩ := yl
    rw [e1] at g1
    cases g1
    have e := Ext.newF (T := L.T) (o := .tup [.int ((i : Nat) : Int), v]) s2 nt hT rfl
    refine ⟨_, e, .tup (SqT.of upd_same) ?_⟩
    rw [show (0 : Int) + (i : Nat) = ((i : Nat) : Int) by omega]
    exact .cons .int (.cons (e2.mono (s1.trans e.ff).sm) .nil)
theorem i_enumK {e : Expr} {f : Env → R D} {kk : Nat} {p tpos : Pos} {elts : List Expr} (hm : X.mg "enumerate" = none) (he : PE X e (tD L fl .s W f)) (hK : X.K = L.K := by rfl) (hg : Gl X "enumerate" := by rfl) (hse : starEach [e] X.env = [(false, eval e X.env)] := by rfl) :
    PI X (.Tuple elts kk tpos) (.Call (.Name "enumerate" p) [e] [] pos) (tI L fl W (iOf gEnS f)) := by
  refine ⟨fun pins s σ H Q I h => (pi_enK (elts := elts) (kk := kk) (tpos := tpos) hg hm (pa_cons he pa_nil (by first | exact hse | rfl)) hse).run pins s σ H Q I ?_⟩
  obtain ⟨F, B, ρ, r, q⟩ := h
  refine ⟨F, B, ρ, r, PostI.bindE q fun d v F1 H1 S _ p1 e1 o1 => ?_⟩
  have dv := (own_d o1).1
  cases qd : sqD d with
  | none => unfold gEnS at p1; rw [qd] at p1; exact p1.elim
  | some xs =>
    have p2 : PostI L F H (.ok (enumL 0 xs)) W σ Q := by unfold gEnS at p1; rw [qd] at p1; exact p1
    obtain ⟨t, a, us, rfl, da, ka⟩ := dat_sqK (show Dat L.K F1 _ d from dv) qd
    rw [hK]
    exact ⟨t, a, us, rfl, ka H1 e1.fh.sm, p2 _ F1 H1 e1 (wk_enK ka da)⟩
end
end PD
set_option Elab.async false
set_option linter.all false
set_option maxRecDepth 100000
set_option maxHeartbeats 2000000
/-! # a op b op c op d -/
namespace L2
open PySem PySem.Spec PyProof.Rows
section
variable {X : Cx} {a b c d : Expr} {ta tb tc td : TE} {pos : Pos}
end
end L2
namespace PD
open PySem PySem.Spec PyProof.Rows L2
section
variable {X : Cx} {L : LE} {fl : List Sh} {W : WX} {pos : Pos}
end
/-! isinstance of an error with fields, of a tuple of classes -/
section
variable {X : Cx} {L : LE} {fl : List Sh} {W : WX} {pos : Pos}
noncomputable def rIsFT (K : PySem.W.Frag) (C a : Addr) (d : Option Addr) : List V → Hp → VK → Prop := fun xs H Q => (∀ dx, d = some dx → ∃ ws, H dx = some (.xd ws)) ∧ ∃ (tp : Addr) (cs : List Addr) (b : Bool), xs = [.ref a, .ref tp] ∧ H tp = some (.tup (cs.map V.ref)) ∧ PySem.W.kitAny K (.ref C) (cs.map Value.ref) = some b ∧ Q (.bl b) H
theorem call_isFT {a C : Addr} {oe : Obj} {d : Option Addr} {pn : List (Addr × Obj)} (E : ExcC X.K C) (hz : Zc (.ref C) d oe) (hf : ∃ vs, oe.data = .fields vs) : CallR (X.suite a ((a, oe) :: pn)) (.builtin "isinstance") (rIsFT X.K C a d) := by
  intro pins s σ H xs us Q I r h
  obtain ⟨hdx, tp, cs, b, rfl, hT, e, q⟩ := h
  obtain ⟨u1, u2, rfl, r1, r2⟩ := vals2 r
  cases (show u2 = Value.ref tp from r2)
  cases (show u1 = Value.ref a from r1)
  obtain ⟨hget, _⟩ := I.pin (a, oe) (List.mem_append.mpr (.inl List.mem_cons_self))
  obtain ⟨vs, hv⟩ := hf
  have hcl : (PySem.W.clsIn X.K C).isSome = true := by
    have z := E.hd
    unfold PySem.W.hasDictIn at z
    cases q : PySem.W.clsIn X.K C with
    | none => rw [q] at z; cases z
    | some _ => rfl
  have J : ∃ od, PySem.W.InstAt s.heap a oe C od := by
    obtain ⟨oc, od, oda, osl⟩ := oe
    obtain ⟨h1, h2⟩ := hz
    dsimp only at h1 h2 hv
    subst h1 h2 hv
    cases od with
    | none => exact ⟨none, hget, rfl, rfl, trivial⟩
    | some dx =>
      obtain ⟨ws, hw⟩ := hdx dx rfl
      have hx : ObjOk X.prog X.w H s.heap dx (.xd ws) := I.hok dx _ hw
      obtain ⟨mA, hns, _⟩ := hx
      obtain ⟨o, _, _, ho, _⟩ := hns
      exact ⟨some o, hget, rfl, rfl, ho⟩
  obtain ⟨od, J⟩ := J
  obtain ⟨_, its, rv, o, h1, h2, n, h3⟩ := (show ObjOk X.prog X.w H s.heap tp (.tup (cs.map V.ref)) from I.hok tp _ hT)
  have key : ∀ (cs : List Addr) (its : List Value), Paired RelV (cs.map V.ref) its → its = cs.map Value.ref := by
    intro cs
    induction cs with
    | nil => intro its h; cases h; rfl
    | cons c cs ih =>
      intro its h
      cases h with
      | cons h1 h2 =>
        rw [List.map_cons, ih _ h2]
        congr 1
  have e3 := key cs _ rv
  subst e3
  obtain ⟨oc, od2, dt, sl⟩ := o
  simp only at h2 h3
  subst h2 h3
  exact PySem.W.kia_tup (PySem.W.kitx_exc hcl E.hg E.hk E.hs E.ha E.hn E.ht E.hm) I.kIn J h1 e (fun z => nomatch z) fun tk => ⟨.bl b, H, I.kept (t' := tk) fun _ _ z => z, rfl, q⟩
theorem e_isFT (i : Nat) {a : Addr} {oe : Obj} {d : Option Addr} {eo : Option (Addr × List (Str × V))} {fs : List (Str × D)} {pn : List (Addr × Obj)} {c n : Str} {b : Bool} {p pn' tpos : Pos} {bw : Bool} {es : List Expr} {kk : Nat} {cs : List Addr} (xe : XE X.K L c) (hc : Clss (X.suite a ((a, oe) :: pn)) L es cs) (xk : PySem.W.kitAny X.K (.ref (L.ca c)) (cs.map Value.ref) = some b) (hlen : cs.length ≤ 100) (hz : Zc (.ref (L.ca c)) d oe) (hv : ∃ vs, oe.data = .fields vs) (heo : EoOk L d eo fs) (hm : X.mg "isinstance" = none)
    (hfl : fl[i]? = some (.x (.ref a) eo) := by rfl) (hN : X.N[i]? = some n := by rfl) (hvi : Vis X.env.scope n := by first | exact Or.inl rfl | exact Or.inr (Or.inl rfl) | exact Or.inr (Or.inr rfl)) (hd : (n == ("__debug__" : Str)) = false := by decide) (hcd : (n == ("__classdict__" : Str)) = false := by decide)
    (hg : Gl X "isinstance" := by rfl)
    (hse : starEach [.Name n pn', .Tuple es kk tpos] X.env = (false, eval (.Name n pn') X.env) :: starEach [.Tuple es kk tpos] X.env := by rfl) (hse2 : starEach [.Tuple es kk tpos] X.env = (false, eval (.Tuple es kk tpos) X.env) :: starEach [] X.env := by rfl) (hpl : (backTo pos (starEach [.Tuple es kk tpos] X.env)).any (·.1) = false := by rfl) :
    PE (X.suite a ((a, oe) :: pn)) (.Call (.Name "isinstance" p) [.Name n pn', .Tuple es kk tpos] [] pos) (tD L fl (.d bw) W (mC (.bl b))) :=
  (pe_callB (X := X.suite a ((a, oe) :: pn)) (call_isFT xe.e hz hv) hg hm boot_isinstance (pa_cons (pv i hN hvi hd hcd) (pa_cons (pe_tup (pa_clss hc)) pa_nil hse2) hse) (he := hse) (hpl := hpl)).imp fun σ H Q ⟨F, B, ρ, r, p⟩ =>
    ⟨.ref a, (r.px i _ _ hfl).1, by rw [List.length_map]; exact le_line (by have : LN = 1000000 := rfl; omega), fun tp htp => ⟨fun dx hdx => by
      obtain ⟨ws, hw⟩ := isF_dx r hfl heo dx hdx
      exact ⟨ws, by rw [upd_ne (ne_of_none hw htp)]; exact hw⟩, tp, cs, b, rfl, upd_same, xk, postE_ok (d := .bl b) p (Ext.newH (T := L.T) r.bs.fh r.bs.nf htp) .bl⟩⟩
end
end PD
set_option linter.all false
set_option maxRecDepth 100000
namespace PN
open PD PM

noncomputable def z8e13ffc9 : List Nat := [112, 117, 116]
noncomputable def z12cba3ee : List Nat := [99, 111, 112, 121]
noncomputable def i1_law_many : Env → R Fl := (sIf (mB (m2 dEq (m2 dIx (mV 0) (mC (.int 0))) (mC (.str z8e13ffc9)))) (sRet (mC (.int 1))) sNx)
noncomputable def b_law_many : Env → R Fl := (sSeq i1_law_many (sRet (m2 dIx (mV 0) (mC (.int 2)))))
noncomputable def m_law_many : List D → R D := mFn 1 false b_law_many
noncomputable def i1_phrase_length : Env → R Fl := (sIf (mB (m2 dEq (m2 dIx (mV 0) (mC (.int 0))) (mC (.str z8e13ffc9)))) (sRet (mC (.int 1))) sNx)
noncomputable def b_phrase_length : Env → R Fl := (sSeq i1_phrase_length (sRet (m2 dIx (mV 0) (mC (.int 2)))))
noncomputable def m_phrase_length : List D → R D := mFn 1 false b_phrase_length
noncomputable def c1_total_length : Env → R D := (mLc (iOf gSq (mV 0)) [1] (gSet 1) mYes (mCall 1 m_phrase_length (mCons (mV 1) mNil)))
noncomputable def b_total_length : Env → R Fl := (sRet (mN dSumL (mCons c1_total_length mNil)))
noncomputable def m_total_length : List D → R D := mFn 2 false b_total_length
noncomputable def b_is_letter : Env → R Fl := (sRet (mAndV (m2 dEq (mN dLen (mCons (mV 0) mNil)) (mC (.int 1))) (m2 dIn (mV 0) (mC (.str zc3fcd3d7)))))
noncomputable def m_is_letter : List D → R D := mFn 1 false b_is_letter
noncomputable def i1_is_valid_phrase : Env → R Fl := (sIf (mB (m2 dEq (m2 dIx (mV 0) (mC (.int 0))) (mC (.str z8e13ffc9)))) (sRet (mCall 1 m_is_letter (mCons (m2 dIx (mV 0) (mC (.int 1))) mNil))) sNx)
noncomputable def b_is_valid_phrase : Env → R Fl := (sSeq i1_is_valid_phrase (sRet (mAndV (m2 dGe (m2 dIx (mV 0) (mC (.int 1))) (mC (.int 0))) (m2 dGe (m2 dIx (mV 0) (mC (.int 2))) (mC (.int 1))))))
noncomputable def m_is_valid_phrase : List D → R D := mFn 1 false b_is_valid_phrase
noncomputable def i1_check_phrases : Env → R Fl := (sIf (mB (m2 dEq (mN dLen (mCons (mV 0) mNil)) (mC (.int 0)))) (fun _ => .stuck) sNx)
noncomputable def i2_check_phrases : Env → R Fl := (sIf (mNot (mTru (mCall 1 m_is_valid_phrase (mCons (mV 3) mNil)))) (fun _ => .stuck) sNx)
noncomputable def l1_check_phrases : Env → R Fl := i2_check_phrases
noncomputable def i3_check_phrases : Env → R Fl := (sIf (mB (m2 dGt (mV 1) (mC (.int 128)))) (fun _ => .stuck) sNx)
noncomputable def i4_check_phrases : Env → R Fl := (sIf (mAnd (mB (m2 dEq (m2 dIx (mV 3) (mC (.int 0))) (mC (.str z12cba3ee)))) (mB (m2 dGt (m2 dAdd (m2 dIx (mV 3) (mC (.int 1))) (m2 dIx (mV 3) (mC (.int 2)))) (mV 1)))) (fun _ => .stuck) sNx)
noncomputable def l2_check_phrases : Env → R Fl := i4_check_phrases
noncomputable def b_check_phrases : Env → R Fl := (sSeq i1_check_phrases (sSeq (sFor (iOf (gEn 0) (mV 0)) (gTup (gsCons (gSet 2) (gsCons (gSet 3) gsNil))) l1_check_phrases) (sSeq (sSet 1 (mCall 1 m_total_length (mCons (mV 0) mNil))) (sSeq i3_check_phrases (sFor (iOf (gEn 0) (mV 0)) (gTup (gsCons (gSet 2) (gsCons (gSet 3) gsNil))) l2_check_phrases)))))
noncomputable def m_check_phrases : List D → R D := mFn 4 true b_check_phrases
noncomputable def b_Copies_init : Env → R Fl := (sSeq (sDrop (mCall 1 m_check_phrases (mCons (mV 1) mNil))) (sFldI 0 "phrases" (mN dTupOf (mCons (mV 1) mNil))))
noncomputable def m_Copies_init : List D → R (List D) := mInit "Copies" ["phrases"] 2 b_Copies_init
noncomputable def b_Copies_size : Env → R Fl := (sRet (mN dLen (mCons (m1 (dFld ["Copies"] "phrases") (mV 0)) mNil)))
noncomputable def m_Copies_size : List D → R D := mFn 1 false b_Copies_size
end PN
set_option linter.all false
set_option maxRecDepth 100000
set_option maxHeartbeats 1000000
namespace PN
open PD PM
/-! ### phrases -/
inductive Ph where
  | put (c : Nat) | copy (s n : Nat)
deriving DecidableEq
noncomputable def Ph.d : Ph → D
  | .put c => .tup [.str z8e13ffc9, .str [c]]
  | .copy s n => .tup [.str z12cba3ee, .int (s : Nat), .int (n : Nat)]
noncomputable def Ph.len : Ph → Nat
  | .put _ => 1
  | .copy _ n => n
noncomputable def tot (ps : List Ph) : Nat := (ps.map Ph.len).sum
@[simp] theorem tot_nil : tot [] = 0 := rfl
@[simp] theorem tot_cons {p : Ph} {ps : List Ph} : tot (p :: ps) = p.len + tot ps := rfl
@[simp] theorem tot_app {ps qs : List Ph} : tot (ps ++ qs) = tot ps + tot qs := by
  induction ps with
  | nil => simp
  | cons p ps ih => rw [List.cons_append, tot_cons, tot_cons, ih]; omega
noncomputable def PhOk (size : Nat) : Ph → Prop
  | .put c => 97 ≤ c ∧ c ≤ 122
  | .copy s n => 1 ≤ n ∧ s + n ≤ size
structure Val (ps : List Ph) : Prop where
  ne : ps ≠ []
  most : tot ps ≤ 128
  ok : ∀ p ∈ ps, PhOk (tot ps) p
theorem PhOk.pos {size : Nat} {p : Ph} (h : PhOk size p) : 1 ≤ p.len := by
  cases p with
  | put c => exact Nat.le_refl 1
  | copy s n => exact h.1
theorem len_le {size : Nat} : ∀ {ps : List Ph}, (∀ p ∈ ps, PhOk size p) → ps.length ≤ tot ps
  | [], _ => Nat.le_refl _
  | p :: ps, h => by
    have h1 := (h p List.mem_cons_self).pos
    have h2 := len_le fun q m => h q (List.mem_cons_of_mem _ m)
    rw [tot_cons, List.length_cons]
    omega
theorem Val.len {ps : List Ph} (h : Val ps) : ps.length ≤ 128 := Nat.le_trans (len_le h.ok) h.most
theorem fits4 {ds : List Int} {a b c d : Int} {ss : List Int} (h : Fits ds (a :: b :: c :: d :: ss)) : ∃ x0 x1 x2 x3 r, ds = x0 :: x1 :: x2 :: x3 :: r ∧ (0 ≤ x0 ∧ x0 < a) ∧ (0 ≤ x1 ∧ x1 < b) ∧ (0 ≤ x2 ∧ x2 < c) ∧ (0 ≤ x3 ∧ x3 < d) ∧ Fits r ss := by
  match ds, h with
  | x0 :: x1 :: x2 :: x3 :: r, ⟨h0, h1, h2, h3, h4⟩ => exact ⟨x0, x1, x2, x3, r, rfl, h0, h1, h2, h3, h4⟩
end PN
set_option linter.all false
set_option maxRecDepth 100000
namespace PD
section
variable {α : Type} {N B C : Env → Prop} {K : D → Prop} {ρ : Env} {d : D}
/-- over the items, by what has been gone through -/
theorem loop_pre {T : D → Env → Option Env} {b : Env → R Fl} (I : List α → Env → Prop) (emb : α → D) (xs : List α) (ρ : Env) (h : I [] ρ)
    (hs : ∀ (pre : List α) (a : α) (post : List α) (ρ : Env), xs = pre ++ a :: post → I pre ρ → Ot (T (emb a) ρ) fun ρ1 => Oc (b ρ1) (I (pre ++ [a])) noD noE (I (pre ++ [a])) noX) : ∃ ρ', sLoop T b (xs.map emb) ρ = .ok (.nx ρ') ∧ I xs ρ' := by
  obtain ⟨ρ', e, h'⟩ := loop_I (T := T) (b := b) (fun j ρ => I (xs.take j) ρ) (xs.map emb) ρ (by rw [List.take_zero]; exact h) fun j d ρ hj hi => by
    rw [List.getElem?_map] at hj
    cases q : xs[j]? with
    | none => rw [q] at hj; cases hj
    | some a =>
      rw [q] at hj
      cases hj
      obtain ⟨hl, he⟩ := List.getElem?_eq_some_iff.mp q
      have e2 : xs.take (j + 1) = xs.take j ++ [a] := by rw [List.take_add_one, q]; rfl
      rw [e2]
      exact hs (xs.take j) a (xs.drop (j + 1)) ρ (by rw [← he, ← List.drop_eq_getElem_cons hl, List.take_append_drop]) hi
  rw [List.length_map, List.take_length] at h'
  exact ⟨ρ', e, h'⟩
end
end PD
namespace PD
section
variable {ρ ρ' : Env} {d x y : D} {i j : Nat} {xs ys : List D}
noncomputable def kExt (i : Nat) (ρ : Env) : Option (List D) → R D → R Fl := fun o r => match o with
  | some xs => liftE r ρ fun d => match d with
    | .lst ys => if xs.length + ys.length ≤ LN then .ok (.nx (ρ.set i (some (.lst (xs ++ ys))))) else .stuck
    | _ => .stuck
  | none => .stuck
theorem r_sExt {f : Env → R D} : sExt i f ρ = kExt i ρ (getL ρ i) (f ρ) := Eq.trans rfl rfl
theorem r_kExt (h : xs.length + ys.length ≤ 1000000) : kExt i ρ (some xs) (.ok (.lst ys)) = .ok (.nx (ρ.set i (some (.lst (xs ++ ys))))) := if_pos h
noncomputable def kPop (j i : Nat) (ρ : Env) : Option (List D) → R Fl := fun o => match o with
  | some xs => match xs.getLast? with
    | some d => .ok (.nx ((ρ.set i (some (.lst xs.dropLast))).set j (some d)))
    | none => .stuck
  | none => .stuck
theorem r_sPop : sPop j i ρ = kPop j i ρ (getL ρ i) := Eq.trans rfl rfl
theorem r_kPop : kPop j i ρ (some (xs ++ [d])) = .ok (.nx ((ρ.set i (some (.lst xs))).set j (some d))) := by
  show (match (xs ++ [d]).getLast? with | some d => _ | none => _) = _
  rw [List.getLast?_append]
  show R.ok (Fl.nx ((ρ.set i (some (D.lst (xs ++ [d]).dropLast))).set j (some d))) = _
  rw [List.dropLast_concat]
noncomputable def kSI (i : Nat) (ρ : Env) : R D → Option (List D) → R D → R Fl := fun r o k => liftE r ρ fun d => match o with
  | some xs => liftE k ρ fun k => match k with
    | .int j => match L2.ixN xs.length j with
      | some m => .ok (.nx (ρ.set i (some (.lst (xs.set m d)))))
      | none => .stuck
    | _ => .stuck
  | none => .stuck
theorem r_sSI {fe fk : Env → R D} : sSetIx i fe fk ρ = kSI i ρ (fe ρ) (getL ρ i) (fk ρ) := Eq.trans rfl rfl
theorem r_kSI {k : Nat} (h : k < xs.length) : kSI i ρ (.ok d) (some xs) (.ok (.int (k : Nat))) = .ok (.nx (ρ.set i (some (.lst (xs.set k d))))) := by
  show (match L2.ixN xs.length (k : Int) with | some m => _ | none => _) = _
  rw [ixN_nat h]
theorem r_kSIl : kSI i ρ (.ok d) (some (xs ++ [x])) (.ok (.int (-1))) = .ok (.nx (ρ.set i (some (.lst (xs ++ [d]))))) := by
  have e : L2.ixN (xs ++ [x]).length (-1) = some xs.length := by
    unfold L2.ixN
    rw [List.length_append]
    simp
    omega
  show (match L2.ixN (xs ++ [x]).length (-1) with | some m => _ | none => _) = _
  rw [e]
  show R.ok (Fl.nx (ρ.set i (some (D.lst ((xs ++ [x]).set xs.length d))))) = _
  rw [List.set_append_right _ _ (Nat.le_refl _), Nat.sub_self]
  rfl
theorem r_ixl : dIx (.lst (xs ++ [x])) (.int (-1)) = some x := by
  have := r_last (xs := xs ++ [x]) (k := xs.length) (by simp)
  rw [this]
  simp
noncomputable def kAug (i : Nat) (g : D → D → Option D) (ρ : Env) : Option (Option D) → R D → R Fl := fun o r => match o with
  | some (some x) => liftE r ρ fun y => match g x y with
    | some d => .ok (.nx (ρ.set i (some d)))
    | none => .stuck
  | _ => .stuck
noncomputable def kOS (i : Nat) (ρ : Env) : Option D → R Fl := fun o => match o with
  | some d => .ok (.nx (ρ.set i (some d)))
  | none => .stuck
theorem r_sAug {g : D → D → Option D} {f : Env → R D} : sAug i g f ρ = kAug i g ρ (ρ[i]?) (f ρ) := Eq.trans rfl rfl
theorem r_kAug {g : D → D → Option D} : kAug i g ρ (some (some x)) (.ok y) = kOS i ρ (g x y) := Eq.trans rfl rfl
theorem r_kOS : kOS i ρ (some d) = .ok (.nx (ρ.set i (some d))) := Eq.trans rfl rfl
noncomputable def kPar (i j : Nat) (ρ : Env) : R D → R D → R Fl := fun a b => liftE a ρ fun a => liftE b ρ fun b => .ok (.nx ((ρ.set i (some a)).set j (some b)))
theorem r_sPar {f g : Env → R D} : sPar i j f g ρ = kPar i j ρ (f ρ) (g ρ) := Eq.trans rfl rfl
theorem r_kPar : kPar i j ρ (.ok x) (.ok y) = .ok (.nx ((ρ.set i (some x)).set j (some y))) := Eq.trans rfl rfl
noncomputable def kTo : Option Env → R Fl := fun o => match o with
  | some ρ' => .ok (.nx ρ')
  | none => .stuck
noncomputable def kAsg (T : D → Env → Option Env) (ρ : Env) : R D → R Fl := fun r => liftE r ρ fun d => kTo (T d ρ)
theorem r_sAsg {f : Env → R D} {T : D → Env → Option Env} : sAsg f T ρ = kAsg T ρ (f ρ) := by
  unfold sAsg kAsg kTo; rfl
theorem r_kAsg {T : D → Env → Option Env} : kAsg T ρ (.ok d) = kTo (T d ρ) := Eq.trans rfl rfl
theorem r_kTo : kTo (some ρ') = .ok (.nx ρ') := Eq.trans rfl rfl
theorem r_gTup {Ts : List D → Env → Option Env} : gTup Ts (.tup xs) ρ = Ts xs ρ := Eq.trans rfl rfl
theorem r_gsNil : gsNil [] ρ = some ρ := Eq.trans rfl rfl
noncomputable def kGs (Ts : List D → Env → Option Env) (xs : List D) : Option Env → Option Env := fun o => o.bind fun ρ' => Ts xs ρ'
theorem r_gsCons {T : D → Env → Option Env} {Ts : List D → Env → Option Env} : gsCons T Ts (d :: xs) ρ = kGs Ts xs (T d ρ) := by
  show (T d ρ).bind _ = (T d ρ).bind _
  rfl
theorem r_kGs {Ts : List D → Env → Option Env} : kGs Ts xs (some ρ') = Ts xs ρ' := Eq.trans rfl rfl
theorem r_tru0 : dTru (.lst []) = some false := Eq.trans rfl rfl
theorem r_truc : dTru (.lst (x :: xs)) = some true := Eq.trans rfl rfl
theorem r_trus : dTru (.lst (xs ++ [x])) = some true := by
  show some (!(xs ++ [x]).isEmpty) = _
  cases xs <;> rfl
theorem r_trub {b : Bool} : dTru (.bl b) = some b := Eq.trans rfl rfl
theorem r_trun : dTru .non = some false := Eq.trans rfl rfl
/-! fields, __init__ -/
noncomputable def kFI (i : Nat) (f : PySem.Str) (ρ : Env) : R D → Option (Option D) → R Fl := fun r o => liftE r ρ fun d => match o with
  | some (some (.obj c ks vs)) => if ks.contains f = false ∧ ks.length < 900 then .ok (.nx (ρ.set i (some (.obj c (ks ++ [f]) (vs ++ [d]))))) else .stuck
  | _ => .stuck
theorem r_sFI {f : PySem.Str} {fe : Env → R D} : sFldI i f fe ρ = kFI i f ρ (fe ρ) (ρ[i]?) := Eq.trans rfl rfl
theorem r_kFI {f c : PySem.Str} {ks : List PySem.Str} (h : ks.contains f = false ∧ ks.length < 900) : kFI i f ρ (.ok d) (some (some (.obj c ks xs))) = .ok (.nx (ρ.set i (some (.obj c (ks ++ [f]) (xs ++ [d]))))) := if_pos h
noncomputable def kInit (ks : List PySem.Str) : R Fl → R (List D) := fun r => match r with
  | .ok (.nx ρ) => initOf ks ρ
  | .ok (.ex c fs _) => .err c fs
  | _ => .stuck
theorem r_kInit {ks : List PySem.Str} : kInit ks (.ok (.nx ρ)) = initOf ks ρ := Eq.trans rfl rfl
theorem r_kInitX {ks : List PySem.Str} {c : PySem.Str} {fs : List (PySem.Str × D)} : kInit ks (.ok (.ex c fs ρ)) = .err c fs := Eq.trans rfl rfl
end
end PD
set_option linter.all false
set_option maxRecDepth 100000
set_option maxHeartbeats 1000000
/-! # walks that stop; errors with a field in mirrors -/
namespace PD
theorem r_raiseF {c fld : PySem.Str} {f : Env → R D} {ρ : Env} {d : D} (h : f ρ = .ok d) (a : isAtom d = true) : sRaiseF c fld f ρ = .ok (.ex c [(fld, d)] ρ) := by
  unfold sRaiseF
  rw [h]
  show (if isAtom d then _ else _) = _
  rw [if_pos a]
theorem tryF_ex {cl : List Cl3} {f : Env → R Fl} {ρ ρ' : Env} {c : PySem.Str} {fs : List (PySem.Str × D)} (h : f ρ = .ok (.ex c fs ρ')) (l : ρ'.length = ρ.length) : sTryF cl f ρ = goN3 cl c fs ρ' := by
  unfold sTryF
  rw [h]
  exact if_pos l
theorem goN3_t {k : Cl3} {r : List Cl3} {c : PySem.Str} {fs : List (PySem.Str × D)} {ρ : Env} (h : k.tbl c = some true) : goN3 (k :: r) c fs ρ = endN k.io (k.g fs (clrI k.io ρ)) := by
  unfold goN3
  rw [h]
theorem goN3_f {k : Cl3} {r : List Cl3} {c : PySem.Str} {fs : List (PySem.Str × D)} {ρ : Env} (h : k.tbl c = some false) : goN3 (k :: r) c fs ρ = goN3 r c fs ρ := by
  rw [goN3, h]
theorem tryF_rt {cl : List Cl3} {f : Env → R Fl} {ρ : Env} {d : D} (h : f ρ = .ok (.rt d)) : sTryF cl f ρ = .ok (.rt d) := by
  unfold sTryF
  rw [h]
end PD
set_option Elab.async false
set_option linter.all false
set_option maxRecDepth 100000
set_option maxHeartbeats 2000000
/-! # xs.index(y) of atoms -/
namespace PD
open PySem PySem.Spec PyProof.Rows L2
noncomputable def dIndex : D → List D → Option D
  | .lst xs, [y] => if isAtom y = true ∧ allAt xs = true then (xs.findIdx? fun x => eqA x y).map fun j => .int (j : Nat) else none
  | _, _ => none
noncomputable def mMl (g : D → List D → Option D) (fo : Env → R D) (fs : Env → R (List D)) : Env → R D := fun ρ => fo ρ >>= fun o => match o with
  | .lst zs => fs ρ >>= fun xs => oR (g (.lst zs) xs)
  | _ => .stuck
section
variable {X : Cx} {L : LE} {fl : List Sh} {W : WX} {pos : Pos}
end
end PD
set_option linter.all false
set_option maxRecDepth 100000
set_option maxHeartbeats 1000000
namespace PN
open PD PM
/-! ### sources and letters -/
noncomputable def oD : Option Nat → D
  | none => .non
  | some k => .int (k : Nat)
noncomputable def src1 : Ph → List (Option Nat)
  | .put _ => [none]
  | .copy s n => (List.range n).map fun i => some (s + i)
noncomputable def srcs (ps : List Ph) : List (Option Nat) := (ps.map src1).flatten
section
variable {s : D} {ps : List Ph}
end
/-! ### the check, the press -/
/-- the press of the phrases -/
noncomputable def cop (ps : List Ph) : D := .obj "Copies" ["phrases"] [.tup (ps.map Ph.d)]
theorem fld_ok {ps : List Ph} : dFld ["Copies"] "phrases" (cop ps) = some (.tup (ps.map Ph.d)) := dFld_ok (List.mem_singleton.mpr rfl) (by
  show List.lookup (PySem.Str.ofString "phrases") [(PySem.Str.ofString "phrases", D.tup (ps.map Ph.d))] = _
  rw [List.lookup_cons, beq_self_eq_true])
end PN
set_option linter.all false
set_option maxRecDepth 100000
set_option maxHeartbeats 1000000
namespace PN
open PD PM
/-! ### lists compared by == -/
/-- an atom that == can compare -/
structure FlatP (d : PySem.PyData) : Prop where
  c : d.canLay0 = true
  z : d.depth = 0
/-! ### _law_same on two lists -/
end PN
set_option Elab.async false
set_option linter.all false
set_option maxRecDepth 100000
set_option maxHeartbeats 2000000
/-! # operators of own classes: -a, a + b (one class), a * int -/
namespace PD
open PySem PySem.Spec PyProof.Rows L2
/-- c * int -/
structure MulC (K : PySem.W.Frag) (c : Str) : Prop where
  ex : ∀ C, PySem.W.nsIn K mainGlobals c = some (some (.ref C)) → PySem.W.selfFirst K C = true ∧ PySem.W.findIn K (.ref C) "__rmul__" = some none ∧ (∃ fo, PySem.W.findIn K (.type "int") "__mul__" = some fo) ∧ (∃ ro, PySem.W.findIn K (.type "int") "__rmul__" = some ro) ∧ PySem.W.subIn K (.type "int") (.ref C) = some false
noncomputable def mOwnB (tab : List (Str × (List D → R D))) (ok : Str → D → Bool) (fa fb : Env → R D) : Env → R D := fun ρ => fa ρ >>= fun o => match o with
  | .obj c ks vs => match tab.lookup c with
    | some mt => fb ρ >>= fun y => if ok c y = true then mt [.obj c ks vs, y] else .stuck
    | none => .stuck
  | _ => .stuck
noncomputable def okSame (c : Str) : D → Bool
  | .obj c2 _ _ => decide (c2 = c)
  | _ => false
noncomputable def okInt (c : Str) : D → Bool
  | .int _ => true
  | _ => false
section
variable {X : Cx} {L : LE} {fl : List Sh} {W : WX} {pos : Pos}
end
end PD
set_option Elab.async false
set_option linter.all false
set_option maxRecDepth 100000
set_option maxHeartbeats 2000000
/-! # a class whose `__iter__` is `return iter(self.f)`, f a tuple: walked -/
namespace PD
open PySem PySem.Spec PyProof.Rows L2
noncomputable def TitO (t it : Addr) : HO := .ext fun h => h.IsTupleIter it t 0
/-- what `__iter__` does, from any state -/
noncomputable def ItRun (P : Program) (w : World) (K : PySem.W.Frag) (mg : Str → Option Value) (base : Heap) (f : Str) (g : Addr) (fd : FuncData) : Prop :=
  ∀ (A : Around) (outer : List PySem.Env) (s : Shared) (H : Hp) (a C dx : Addr) (fs : List (Str × V)) (t : Addr) (xs : List V), Room 1 A → Env0 P w K mg base A outer s H → BindsTo s fd ⟨[.ref a], []⟩ [("self", .ref a)] → H a = some (.ins C dx fs) → Cls K C → NoAttr K C f → fs.lookup f = some (.ref t) → SqT K H t xs →
    codeAny (model P w) A (.call (.ref g) ⟨[.ref a], []⟩) (CR (L2.CX P w) outer P w H s (fun v H' => ∃ it, v = .ref it ∧ H it = none ∧ s.heap.objs.size ≤ it ∧ H' = upd H it (TitO t it)) (fun _ _ _ => False)) s
/-- the class c is walked by its field f -/
structure ItrC (P : Program) (w : World) (K : PySem.W.Frag) (mg : Str → Option Value) (base : Heap) (c f : Str) : Prop where
  ex : ∀ C, PySem.W.nsIn K mainGlobals c = some (some (.ref C)) → ∃ g fd, Cls K C ∧ NoAttr K C f ∧ PySem.W.findIn K (.ref C) "__iter__" = some (some (.ref g)) ∧ PySem.W.isFn K (.ref g) = true ∧ ItRun P w K mg base f g fd ∧ Binds K fd ["self"] []
section
variable {P : Program} {w : World} {K : PySem.W.Frag} {mg : Str → Option Value} {base : Heap}
end
section
variable {X : Cx} {L : LE} {fl : List Sh} {W : WX} {pos : Pos} {tg : Expr}
end
end PD
set_option linter.all false
set_option maxRecDepth 100000
namespace PO
open PD PM PN

noncomputable def z1a5df958 : List Nat := [114, 105, 110, 103]
noncomputable def z1cb251ec : List Nat := [116, 101, 120, 116]
noncomputable def i1_check_phrases : Env → R Fl := (sIf (mB (m2 dEq (mN dLen (mCons (mV 0) mNil)) (mC (.int 0)))) (sRaiseF "BadPress" "index" (mC (.int 0))) sNx)
noncomputable def i2_check_phrases : Env → R Fl := (sIf (mNot (mTru (mCall 1 m_is_valid_phrase (mCons (mV 3) mNil)))) (sRaiseF "BadPress" "index" (mV 2)) sNx)
noncomputable def l1_check_phrases : Env → R Fl := i2_check_phrases
noncomputable def i3_check_phrases : Env → R Fl := (sIf (mB (m2 dGt (mV 1) (mC (.int 128)))) (sRaise "TooLong") sNx)
noncomputable def i4_check_phrases : Env → R Fl := (sIf (mAnd (mB (m2 dEq (m2 dIx (mV 3) (mC (.int 0))) (mC (.str z12cba3ee)))) (mB (m2 dGt (m2 dAdd (m2 dIx (mV 3) (mC (.int 1))) (m2 dIx (mV 3) (mC (.int 2)))) (mV 1)))) (sRaiseF "BadPress" "index" (mV 2)) sNx)
noncomputable def l2_check_phrases : Env → R Fl := i4_check_phrases
noncomputable def b_check_phrases : Env → R Fl := (sSeq i1_check_phrases (sSeq (sFor (iOf (gEn 0) (mV 0)) (gTup (gsCons (gSet 2) (gsCons (gSet 3) gsNil))) l1_check_phrases) (sSeq (sSet 1 (mCall 1 m_total_length (mCons (mV 0) mNil))) (sSeq i3_check_phrases (sFor (iOf (gEn 0) (mV 0)) (gTup (gsCons (gSet 2) (gsCons (gSet 3) gsNil))) l2_check_phrases)))))
noncomputable def m_check_phrases : List D → R D := mFn 4 true b_check_phrases
noncomputable def b_Copies_init : Env → R Fl := (sSeq (sDrop (mCall 1 m_check_phrases (mCons (mV 1) mNil))) (sFldI 0 "phrases" (mN dTupOf (mCons (mV 1) mNil))))
noncomputable def m_Copies_init : List D → R (List D) := mInit "Copies" ["phrases"] 2 b_Copies_init
end PO
set_option linter.all false
set_option maxRecDepth 100000
namespace PU
open PD PM PO
open _root_.PN hiding i1_check_phrases i2_check_phrases l1_check_phrases i3_check_phrases i4_check_phrases l2_check_phrases b_check_phrases m_check_phrases b_Copies_init m_Copies_init

noncomputable def zf5b75010 : List Nat := [108, 101, 116, 116, 101, 114]
noncomputable def z33c9b363 : List Nat := [112, 97, 105, 114]
noncomputable def z62cd2759 : List Nat := [112, 111, 119, 101, 114]
noncomputable def i1_parts_of : Env → R Fl := (sIf (mB (m2 dEq (m2 dIx (mV 0) (mC (.int 0))) (mC (.str zf5b75010)))) (sRet (mN dLst mNil)) sNx)
noncomputable def i2_parts_of : Env → R Fl := (sIf (mB (m2 dEq (m2 dIx (mV 0) (mC (.int 0))) (mC (.str z33c9b363)))) (sRet (mN dLst (mCons (m2 dIx (mV 0) (mC (.int 1))) (mCons (m2 dIx (mV 0) (mC (.int 2))) mNil)))) sNx)
noncomputable def b_parts_of : Env → R Fl := (sSeq i1_parts_of (sSeq i2_parts_of (sRet (mN dLst (mCons (m2 dIx (mV 0) (mC (.int 1))) mNil)))))
noncomputable def m_parts_of : List D → R D := mFn 1 false b_parts_of
noncomputable def i1_is_valid_rule : Env → R Fl := (sIf (mB (m2 dEq (m2 dIx (mV 0) (mC (.int 0))) (mC (.str zf5b75010)))) (sRet (mCall 1 m_is_letter (mCons (m2 dIx (mV 0) (mC (.int 1))) mNil))) sNx)
noncomputable def i2_is_valid_rule : Env → R Fl := (sIf (mNot (mB (mChain dLe dLt (mC (.int 0)) (mV 2) (mV 1)))) (sRet (mC (.bl false))) sNx)
noncomputable def l1_is_valid_rule : Env → R Fl := i2_is_valid_rule
noncomputable def b_is_valid_rule : Env → R Fl := (sSeq i1_is_valid_rule (sSeq (sFor (iOf gSq (mCall 1 m_parts_of (mCons (mV 0) mNil))) (gSet 2) l1_is_valid_rule) (sRet (mOrV (m2 dEq (m2 dIx (mV 0) (mC (.int 0))) (mC (.str z33c9b363))) (mChain dLe dLe (mC (.int 2)) (m2 dIx (mV 0) (mC (.int 2))) (mC (.int 128)))))))
noncomputable def m_is_valid_rule : List D → R D := mFn 3 false b_is_valid_rule
noncomputable def i1_check_rules : Env → R Fl := (sIf (mB (m2 dEq (mN dLen (mCons (mV 0) mNil)) (mC (.int 0)))) (sRaiseF "BadPress" "index" (mC (.int 0))) sNx)
noncomputable def i2_check_rules : Env → R Fl := (sIf (mB (m2 dGt (mN dLen (mCons (mV 0) mNil)) (mC (.int 256)))) (sRaise "TooLong") sNx)
noncomputable def i3_check_rules : Env → R Fl := (sIf (mNot (mTru (mCall 2 m_is_valid_rule (mCons (mV 2) (mCons (mN dLen (mCons (mV 0) mNil)) mNil))))) (sRaiseF "BadPress" "index" (mV 1)) sNx)
noncomputable def l1_check_rules : Env → R Fl := i3_check_rules
noncomputable def b_check_rules : Env → R Fl := (sSeq i1_check_rules (sSeq i2_check_rules (sFor (iOf gEnS (mV 0)) (gTup (gsCons (gSet 1) (gsCons (gSet 2) gsNil))) l1_check_rules)))
noncomputable def m_check_rules : List D → R D := mFn 3 true b_check_rules
noncomputable def b_Rules_init : Env → R Fl := (sSeq (sDrop (mCall 1 m_check_rules (mCons (mV 1) mNil))) (sFldI 0 "rules" (mN dTupOf (mCons (mV 1) mNil))))
noncomputable def m_Rules_init : List D → R (List D) := mInit "Rules" ["rules"] 2 b_Rules_init
noncomputable def c1_ending_names : Env → R D := (mLc (iOf gSq (mV 0)) [8] (gSet 8) mYes (mN dLst mNil))
noncomputable def l1_ending_names : Env → R Fl := (sLLApp 1 (mV 7) (mV 5))
noncomputable def l2_ending_names : Env → R Fl := (sFor (iOf gSq (mCall 1 m_parts_of (mCons (mV 6) mNil))) (gSet 7) l1_ending_names)
noncomputable def c2_ending_names : Env → R D := (mLc (iOf gSq (mV 0)) [6] (gSet 6) mYes (mN dLen (mCons (mCall 1 m_parts_of (mCons (mV 6) mNil)) mNil)))
noncomputable def c3_ending_names : Env → R D := (mLc (iArgs gR1 (mCons (mN dLen (mCons (mV 0) mNil)) mNil)) [5] (gSet 5) (mB (m2 dEq (m2 dIx (mV 2) (mV 5)) (mC (.int 0)))) (mV 5))
noncomputable def i1_ending_names : Env → R Fl := (sIf (mB (m2 dEq (m2 dIx (mV 2) (mV 5)) (mC (.int 0)))) (sApp 3 (mV 5)) sNx)
noncomputable def l3_ending_names : Env → R Fl := (sSeq (sAugIx 2 dSub (mV 5) (mC (.int 1))) i1_ending_names)
noncomputable def l4_ending_names : Env → R Fl := (sSeq (sFor (iOf gSq (m2 dIx (mV 1) (m2 dIx (mV 3) (mV 4)))) (gSet 5) l3_ending_names) (sAug 4 dAddI (mC (.int 1))))
noncomputable def b_ending_names : Env → R Fl := (sSeq (sSet 1 c1_ending_names) (sSeq (sFor (iOf gEnS (mV 0)) (gTup (gsCons (gSet 5) (gsCons (gSet 6) gsNil))) l2_ending_names) (sSeq (sSet 2 c2_ending_names) (sSeq (sSet 3 c3_ending_names) (sSeq (sSet 4 (mC (.int 0))) (sSeq (sWhile (mB (m2 dLt (mV 4) (mN dLen (mCons (mV 3) mNil)))) l4_ending_names) (sRet (mV 3))))))))
noncomputable def m_ending_names : List D → R D := mFn 9 false b_ending_names
noncomputable def c1_lengths_of : Env → R D := (mLc (iOf gSq (mV 0)) [4] (gSet 4) mYes (mC .non))
noncomputable def i1_lengths_of : Env → R Fl := (sIf (mB (m2 dEq (m2 dIx (mV 3) (mC (.int 0))) (mC (.str z33c9b363)))) (sSetIx 1 (m2 dAdd (m2 dIx (mV 1) (m2 dIx (mV 3) (mC (.int 1)))) (m2 dIx (mV 1) (m2 dIx (mV 3) (mC (.int 2))))) (mV 2)) (sSetIx 1 (m2 dMul (m2 dIx (mV 1) (m2 dIx (mV 3) (mC (.int 1)))) (m2 dIx (mV 3) (mC (.int 2)))) (mV 2)))
noncomputable def i2_lengths_of : Env → R Fl := (sIf (mB (m2 dEq (m2 dIx (mV 3) (mC (.int 0))) (mC (.str zf5b75010)))) (sSetIx 1 (mC (.int 1)) (mV 2)) i1_lengths_of)
noncomputable def l1_lengths_of : Env → R Fl := (sSeq (sSet 3 (m2 dIx (mV 0) (mV 2))) i2_lengths_of)
noncomputable def b_lengths_of : Env → R Fl := (sSeq (sSet 1 c1_lengths_of) (sSeq (sFor (iOf gSq (mCall 1 m_ending_names (mCons (mV 0) mNil))) (gSet 2) l1_lengths_of) (sRet (mV 1))))
noncomputable def m_lengths_of : List D → R D := mFn 5 false b_lengths_of
noncomputable def c1_used_names : Env → R D := (mLc (iOf gSq (mV 0)) [4] (gSet 4) mYes (mC (.bl false)))
noncomputable def i1_used_names : Env → R Fl := (sIf (mNot (mTru (m2 dIx (mV 1) (mV 3)))) (sSeq (sSetIx 1 (mC (.bl true)) (mV 3)) (sExt 2 (mCall 1 m_parts_of (mCons (m2 dIx (mV 0) (mV 3)) mNil)))) sNx)
noncomputable def l1_used_names : Env → R Fl := (sSeq (sPop 3 2) i1_used_names)
noncomputable def c2_used_names : Env → R D := (mLc (iArgs gR1 (mCons (mN dLen (mCons (mV 0) mNil)) mNil)) [3] (gSet 3) (mTru (m2 dIx (mV 1) (mV 3))) (mV 3))
noncomputable def b_used_names : Env → R Fl := (sSeq (sSet 1 c1_used_names) (sSeq (sSet 2 (mN dLst (mCons (m2 dSub (mN dLen (mCons (mV 0) mNil)) (mC (.int 1))) mNil))) (sSeq (sWhile (mTru (mV 2)) l1_used_names) (sRet c2_used_names))))
noncomputable def m_used_names : List D → R D := mFn 5 false b_used_names
noncomputable def b_Rules_lengths : Env → R Fl := (sRet (mCall 1 m_lengths_of (mCons (m1 (dFld ["Rules"] "rules") (mV 0)) mNil)))
noncomputable def m_Rules_lengths : List D → R D := mFn 1 false b_Rules_lengths
noncomputable def b_Rules_size : Env → R Fl := (sRet (mN dLen (mCons (mCall 1 m_used_names (mCons (m1 (dFld ["Rules"] "rules") (mV 0)) mNil)) mNil)))
noncomputable def m_Rules_size : List D → R D := mFn 1 false b_Rules_size
noncomputable def i1_law_parts : Env → R Fl := (sIf (mB (m2 dEq (m2 dIx (mV 0) (mC (.int 0))) (mC (.str z33c9b363)))) (sRet (mN dLst (mCons (m2 dIx (mV 0) (mC (.int 1))) (mCons (m2 dIx (mV 0) (mC (.int 2))) mNil)))) sNx)
noncomputable def i2_law_parts : Env → R Fl := (sIf (mB (m2 dEq (m2 dIx (mV 0) (mC (.int 0))) (mC (.str z62cd2759)))) (sRet (mN dLst (mCons (m2 dIx (mV 0) (mC (.int 1))) mNil))) sNx)
noncomputable def b_law_parts : Env → R Fl := (sSeq i1_law_parts (sSeq i2_law_parts (sRet (mN dLst mNil))))
noncomputable def m_law_parts : List D → R D := mFn 1 false b_law_parts
noncomputable def c1_law_lengths : Env → R D := (mLc (iOf gSq (mV 0)) [4] (gSet 4) mYes (mC .non))
noncomputable def c2_law_lengths : Env → R D := (mLc (iOf gSq (mCall 1 m_law_parts (mCons (m2 dIx (mV 0) (mV 3)) mNil))) [6] (gSet 6) mYes (m2 dIx (mV 1) (mV 6)))
noncomputable def i1_law_lengths : Env → R Fl := (sIf (mB (m2 dEq (m2 dIx (m2 dIx (mV 0) (mV 3)) (mC (.int 0))) (mC (.str z33c9b363)))) (sSetIx 1 (m2 dAdd (m2 dIx (mV 5) (mC (.int 0))) (m2 dIx (mV 5) (mC (.int 1)))) (mV 3)) sNx)
noncomputable def i2_law_lengths : Env → R Fl := (sIf (mB (m2 dEq (m2 dIx (m2 dIx (mV 0) (mV 3)) (mC (.int 0))) (mC (.str z62cd2759)))) (sSetIx 1 (m2 dMul (m2 dIx (mV 5) (mC (.int 0))) (m2 dIx (m2 dIx (mV 0) (mV 3)) (mC (.int 2)))) (mV 3)) sNx)
noncomputable def i3_law_lengths : Env → R Fl := (sIf (mB (m2 dNotIn (mC .non) (mV 5))) (sSeq (sSetIx 1 (mC (.int 1)) (mV 3)) (sSeq i1_law_lengths i2_law_lengths)) sNx)
noncomputable def l1_law_lengths : Env → R Fl := (sSeq (sSet 5 c2_law_lengths) i3_law_lengths)
noncomputable def l2_law_lengths : Env → R Fl := (sFor (iArgs gR1 (mCons (mN dLen (mCons (mV 0) mNil)) mNil)) (gSet 3) l1_law_lengths)
noncomputable def b_law_lengths : Env → R Fl := (sSeq (sSet 1 c1_law_lengths) (sSeq (sFor (iArgs gR1 (mCons (mN dLen (mCons (mV 0) mNil)) mNil)) (gSet 2) l2_law_lengths) (sRet (mV 1))))
noncomputable def m_law_lengths : List D → R D := mFn 7 false b_law_lengths
noncomputable def i1_law_rules : Env → R Fl := (sIf (mAnd (mB (m2 dGt (mV 7) (mC (.int 0)))) (mOr (mNot (mTru (mV 1))) (mB (m2 dGt (m2 dIx (mV 3) (mC (.int 3))) (mC (.int 1)))))) (sSeq (sSet 9 (m2 dSub (m2 dSub (mV 7) (mC (.int 1))) (m2 dMod (mN dInt1 (mCons (m2 dIx (mV 8) (mC (.int 2))) mNil)) (mN dMin2 (mCons (mV 7) (mCons (mC (.int 3)) mNil)))))) (sSet 10 (m2 dMod (mN dInt1 (mCons (m2 dIx (mV 8) (mC (.int 3))) mNil)) (mV 7)))) sNx)
noncomputable def i2_law_rules : Env → R Fl := (sIf (mNot (mTru (mV 1))) (sSet 11 (m2 dAdd (mC (.int 2)) (m2 dMod (mN dInt1 (mCons (m2 dIx (mV 8) (mC (.int 4))) mNil)) (mC (.int 4))))) sNx)
noncomputable def i3_law_rules : Env → R Fl := (sIf (mAnd (mB (m2 dGt (m2 dIx (mV 8) (mC (.int 0))) (mC (.int 0)))) (mOr (mTru (mV 1)) (mB (m2 dGt (mV 7) (mC (.int 0)))))) (sSet 12 (mN dTup (mCons (mC (.str z33c9b363)) (mCons (mV 9) (mCons (mV 10) mNil))))) sNx)
noncomputable def i4_law_rules : Env → R Fl := (sIf (mAnd (mB (m2 dEq (m2 dIx (mV 8) (mC (.int 0))) (mC (.int 5)))) (mOr (mTru (mV 1)) (mB (m2 dGt (mV 7) (mC (.int 0)))))) (sSet 12 (mN dTup (mCons (mC (.str z62cd2759)) (mCons (mV 9) (mCons (mV 11) mNil))))) sNx)
noncomputable def i5_law_rules : Env → R Fl := (sIf (mAnd (mNot (mTru (mV 1))) (mB (m2 dGt (m2 dIx (mCall 1 m_law_lengths (mCons (m2 dAdd (mV 6) (mN dLst (mCons (mV 12) mNil))) mNil)) (mV 7)) (mC (.int 48))))) (sSet 12 (mN dTup (mCons (mC (.str zf5b75010)) (mCons (mCall 1 m_law_letter (mCons (m2 dAdd (m2 dIx (mV 3) (mC (.int 2))) (m2 dIx (mV 8) (mC (.int 1)))) mNil)) mNil)))) sNx)
noncomputable def l1_law_rules : Env → R Fl := (sSeq (sSet 8 (mSl dSl (mV 5) (mSo (m2 dMul (mC (.int 5)) (mV 7))) (mSo (m2 dAdd (m2 dMul (mC (.int 5)) (mV 7)) (mC (.int 5)))))) (sSeq (sSet 9 (m2 dMod (mN dInt1 (mCons (m2 dIx (mV 8) (mC (.int 2))) mNil)) (mV 4))) (sSeq (sSet 10 (m2 dMod (mN dInt1 (mCons (m2 dIx (mV 8) (mC (.int 3))) mNil)) (mV 4))) (sSeq (sSet 11 (m2 dIx (mN dLst (mCons (mC (.int 2)) (mCons (mC (.int 3)) (mCons (mC (.int 4)) (mCons (mC (.int 2)) (mCons (mC (.int 128)) mNil)))))) (m2 dIx (mV 8) (mC (.int 4))))) (sSeq i1_law_rules (sSeq i2_law_rules (sSeq (sSet 12 (mN dTup (mCons (mC (.str zf5b75010)) (mCons (mCall 1 m_law_letter (mCons (m2 dAdd (m2 dIx (mV 3) (mC (.int 2))) (m2 dMul (m2 dIx (mV 8) (mC (.int 1))) (m2 dAdd (mC (.int 1)) (m2 dMul (mC (.int 6)) (mN dInt1 (mCons (m2 dEq (m2 dIx (mV 3) (mC (.int 3))) (mC (.int 1))) mNil)))))) mNil)) mNil)))) (sSeq i3_law_rules (sSeq i4_law_rules (sSeq i5_law_rules (sApp 6 (mV 12))))))))))))
noncomputable def b_law_rules : Env → R Fl := (sSeq (sSet 2 (mN dLst (mCons (mC (.int 10)) (mCons (mC (.int 10)) (mCons (mC (.int 26)) (mCons (mC (.int 4)) mNil)))))) (sSeq (sSet 3 (mCall 2 m_law_draws (mCons (mV 0) (mCons (mV 2) mNil)))) (sSeq (sSet 4 (mCall 3 m_law_size (mCons (m2 dIx (mV 3) (mC (.int 0))) (mCons (m2 dIx (mV 3) (mC (.int 1))) (mCons (mC (.int 10)) mNil))))) (sSeq (sSet 5 (mSl dSl (mCall 2 m_law_draws (mCons (mV 0) (mCons (m2 dAdd (mV 2) (m2 dMul (mN dLst (mCons (mC (.int 6)) (mCons (mC (.int 3)) (mCons (mC (.int 64)) (mCons (mC (.int 64)) (mCons (mC (.int 5)) mNil)))))) (mV 4))) mNil))) (mSo (mC (.int 4))) mNo)) (sSeq (sSet 6 (mN dLst mNil)) (sSeq (sFor (iArgs gR1 (mCons (mV 4) mNil)) (gSet 7) l1_law_rules) (sRet (mV 6))))))))
noncomputable def m_law_rules : List D → R D := mFn 13 false b_law_rules
noncomputable def i1_law_each : Env → R Fl := (sIf (mAnd (mTru (mV 2)) (mB (m2 dGt (mV 4) (mC (.int 0))))) (sSeq (sSet 6 (m2 dSub (m2 dSub (mV 4) (mC (.int 1))) (m2 dMod (mN dInt1 (mCons (m2 dIx (mV 5) (mC (.int 2))) mNil)) (mN dMin2 (mCons (mV 4) (mCons (mC (.int 3)) mNil)))))) (sSeq (sSet 7 (m2 dMod (mN dInt1 (mCons (m2 dIx (mV 5) (mC (.int 3))) mNil)) (mV 4))) (sSet 8 (mN dMax2 (mCons (mV 8) (mCons (m2 dMul (mC (.int 2)) (mN dInt1 (mCons (m2 dEq (mV 4) (m2 dSub (mV 1) (mC (.int 1)))) mNil))) mNil)))))) sNx)
noncomputable def i2_law_each : Env → R Fl := (sIf (mAnd (mB (m2 dGt (mV 8) (mC (.int 1)))) (mOr (mB (m2 dGt (mV 4) (mC (.int 0)))) (mNot (mTru (mV 2))))) (sSet 9 (mN dTup (mCons (mC (.str z33c9b363)) (mCons (mV 6) (mCons (mV 7) mNil))))) sNx)
noncomputable def i3_law_each : Env → R Fl := (sIf (mAnd (mB (m2 dEq (mV 8) (mC (.int 4)))) (mOr (mB (m2 dGt (mV 4) (mC (.int 0)))) (mNot (mTru (mV 2))))) (sSet 9 (mN dTup (mCons (mC (.str z62cd2759)) (mCons (mV 6) (mCons (m2 dAdd (mC (.int 2)) (m2 dIx (mV 5) (mC (.int 4)))) mNil))))) sNx)
noncomputable def l1_law_each : Env → R Fl := (sSeq (sSet 5 (mCall 2 m_law_draws (mCons (m2 dAdd (mCall 2 m_law_cell (mCons (mV 0) (mCons (m2 dAdd (mC (.int 2)) (mV 4)) mNil))) (mV 4)) (mCons (mN dLst (mCons (mC (.int 5)) (mCons (mC (.int 26)) (mCons (mV 1) (mCons (mV 1) (mCons (mC (.int 127)) mNil)))))) mNil)))) (sSeq (sSet 6 (m2 dIx (mV 5) (mC (.int 2)))) (sSeq (sSet 7 (m2 dIx (mV 5) (mC (.int 3)))) (sSeq (sSet 8 (m2 dIx (mV 5) (mC (.int 0)))) (sSeq i1_law_each (sSeq (sSet 9 (mN dTup (mCons (mC (.str zf5b75010)) (mCons (mCall 1 m_law_letter (mCons (m2 dIx (mV 5) (mC (.int 1))) mNil)) mNil)))) (sSeq i2_law_each (sSeq i3_law_each (sApp 3 (mV 9))))))))))
noncomputable def b_law_each : Env → R Fl := (sSeq (sSet 3 (mN dLst mNil)) (sSeq (sFor (iArgs gR1 (mCons (mV 1) mNil)) (gSet 4) l1_law_each) (sRet (mV 3))))
noncomputable def m_law_each : List D → R D := mFn 10 false b_law_each
noncomputable def l1_law_used : Env → R Fl := (sSetIx 1 (mC (.bl true)) (mV 5))
end PU
set_option linter.all false
set_option maxRecDepth 100000
namespace PV
open PD PM PO PU
open _root_.PN hiding i1_check_phrases i2_check_phrases l1_check_phrases i3_check_phrases i4_check_phrases l2_check_phrases b_check_phrases m_check_phrases b_Copies_init m_Copies_init

noncomputable def z0f526403 : List Nat := [108, 111, 110, 103]
noncomputable def i1_text_of_rules : Env → R Fl := (sIf (mB (m2 dEq (m2 dIx (mV 4) (mC (.int 0))) (mC (.str z33c9b363)))) (sDPut 2 (mV 3) (m2 dAdd (mDGet 2 (m2 dIx (mV 4) (mC (.int 1)))) (mDGet 2 (m2 dIx (mV 4) (mC (.int 2)))))) (sDPut 2 (mV 3) (m2 dMul (mDGet 2 (m2 dIx (mV 4) (mC (.int 1)))) (m2 dIx (mV 4) (mC (.int 2))))))
noncomputable def i2_text_of_rules : Env → R Fl := (sIf (mB (m2 dEq (m2 dIx (mV 4) (mC (.int 0))) (mC (.str zf5b75010)))) (sDPut 2 (mV 3) (m2 dIx (mV 4) (mC (.int 1)))) i1_text_of_rules)
noncomputable def i3_text_of_rules : Env → R Fl := (sIf (mB (m2 dIn (mV 3) (mV 1))) (sSeq (sSet 4 (m2 dIx (mV 0) (mV 3))) i2_text_of_rules) sNx)
noncomputable def l1_text_of_rules : Env → R Fl := i3_text_of_rules
noncomputable def b_text_of_rules : Env → R Fl := (sSeq (sSet 1 (mCall 1 m_used_names (mCons (mV 0) mNil))) (sSeq (sSet 2 (mC (.dic [] []))) (sSeq (sFor (iOf gSq (mCall 1 m_ending_names (mCons (mV 0) mNil))) (gSet 3) l1_text_of_rules) (sRet (mDGet 2 (m2 dSub (mN dLen (mCons (mV 0) mNil)) (mC (.int 1))))))))
noncomputable def m_text_of_rules : List D → R D := mFn 5 false b_text_of_rules
noncomputable def c1_first_endless : Env → R D := (mLc (iOf gSq (mCall 1 m_parts_of (mCons (mV 0) mNil))) [2] (gSet 2) (mB (m2 dIsN (m2 dIx (mV 1) (mV 2)) (mC .non))) (mV 2))
noncomputable def b_first_endless : Env → R Fl := (sRet (m2 dIx c1_first_endless (mC (.int 0))))
noncomputable def m_first_endless : List D → R D := mFn 3 false b_first_endless
noncomputable def l1_ring_of_names : Env → R Fl := (sSeq (sApp 2 (mV 3)) (sSet 3 (mCall 2 m_first_endless (mCons (m2 dIx (mV 0) (mV 3)) (mCons (mV 1) mNil)))))
noncomputable def b_ring_of_names : Env → R Fl := (sSeq (sSet 2 (mN dLst mNil)) (sSeq (sSet 3 (m2 dSub (mN dLen (mCons (mV 0) mNil)) (mC (.int 1)))) (sSeq (sWhile (mB (m2 dNotIn (mV 3) (mV 2))) l1_ring_of_names) (sRet (mSl dSlL (mV 2) (mSo (mMl dIndex (mV 2) (mCons (mV 3) mNil))) mNo)))))
noncomputable def m_ring_of_names : List D → R D := mFn 4 false b_ring_of_names
noncomputable def i1_Rules_verdict : Env → R Fl := (sIf (mB (m2 dIsN (m2 dIx (mV 1) (m1 dNeg (mC (.int 1)))) (mC .non))) (sRet (mN dTup (mCons (mAt (mC (.str z1a5df958))) (mCons (mAtL (mCall 2 m_ring_of_names (mCons (m1 (dFld ["Rules"] "rules") (mV 0)) (mCons (mV 1) mNil)))) mNil)))) sNx)
noncomputable def i2_Rules_verdict : Env → R Fl := (sIf (mB (m2 dGt (m2 dIx (mV 1) (m1 dNeg (mC (.int 1)))) (mC (.int 128)))) (sRet (mN dTup (mCons (mAt (mC (.str z0f526403))) (mCons (mAt (m2 dIx (mV 1) (m1 dNeg (mC (.int 1))))) mNil)))) sNx)
noncomputable def b_Rules_verdict : Env → R Fl := (sSeq (sSet 1 (mMeth0 [("Rules", m_Rules_lengths)] "lengths" (mV 0))) (sSeq i1_Rules_verdict (sSeq i2_Rules_verdict (sRet (mN dTup (mCons (mAt (mC (.str z1cb251ec))) (mCons (mAt (mCall 1 m_text_of_rules (mCons (m1 (dFld ["Rules"] "rules") (mV 0)) mNil))) mNil)))))))
noncomputable def m_Rules_verdict : List D → R D := mFn 2 false b_Rules_verdict
noncomputable def l1_law_near : Env → R Fl := (sApp 3 (mN dTup (mCons (mC (.str z33c9b363)) (mCons (m2 dSub (mN dLen (mCons (mV 3) mNil)) (mC (.int 1))) (mCons (m2 dMod (mN dInt1 (mCons (mV 4) mNil)) (mC (.int 2))) mNil)))))
noncomputable def b_law_near : Env → R Fl := (sSeq (sSet 1 (mCall 2 m_law_draws (mCons (mV 0) (mCons (mN dLst (mCons (mC (.int 26)) (mCons (mC (.int 3)) (mCons (mC (.int 3)) (mCons (mC (.int 7)) mNil))))) mNil)))) (sSeq (sSet 2 (m2 dIx (mN dLst (mCons (mC (.int 1)) (mCons (mC (.int 2)) (mCons (mC (.int 4)) mNil)))) (m2 dIx (mV 1) (mC (.int 1))))) (sSeq (sSet 3 (mN dLst (mCons (mN dTup (mCons (mC (.str zf5b75010)) (mCons (mCall 1 m_law_letter (mCons (m2 dIx (mV 1) (mC (.int 0))) mNil)) mNil))) (mCons (mN dTup (mCons (mC (.str zf5b75010)) (mCons (mCall 1 m_law_letter (mCons (m2 dAdd (m2 dIx (mV 1) (mC (.int 0))) (mC (.int 1))) mNil)) mNil))) (mCons (mN dTup (mCons (mC (.str z33c9b363)) (mCons (mC (.int 0)) (mCons (mC (.int 1)) mNil)))) (mCons (mN dTup (mCons (mC (.str z33c9b363)) (mCons (mC (.int 2)) (mCons (mC (.int 2)) mNil)))) mNil)))))) (sSeq (sApp 3 (mN dTup (mCons (mC (.str z62cd2759)) (mCons (m2 dIx (mN dLst (mCons (mC (.int 0)) (mCons (mC (.int 2)) (mCons (mC (.int 3)) mNil)))) (m2 dIx (mV 1) (mC (.int 1)))) (mCons (m2 dSub (m2 dDiv (mC (.int 128)) (mV 2)) (m2 dIx (mV 1) (mC (.int 2)))) mNil))))) (sSeq (sFor (iArgs gR1 (mCons (m2 dIx (mV 1) (mC (.int 3))) mNil)) (gSet 4) l1_law_near) (sRet (mV 3)))))))
noncomputable def m_law_near : List D → R D := mFn 5 false b_law_near
end PV
set_option Elab.async false
set_option linter.all false
set_option maxRecDepth 100000
set_option maxHeartbeats 1000000
/-! # text.rfind(word, 0, end) -/
namespace PD
open PySem PySem.Spec PyProof.Rows L2
noncomputable def dRfind4 (s : List Nat) : List D → Option D
  | [.str t, .int i, .int j] => if i = 0 ∧ 0 ≤ j ∧ j ≤ s.length then some (.int (rfindI (s.take j.toNat) t)) else none
  | _ => none
section
variable {L : LE}
end
@[simp] theorem dRfind4_s {s t : List Nat} {j : Int} (h0 : 0 ≤ j) (h1 : j ≤ s.length) : dRfind4 s [.str t, .int 0, .int j] = some (.int (rfindI (s.take j.toNat) t)) := if_pos ⟨rfl, h0, h1⟩
end PD
set_option Elab.async false
set_option linter.all false
set_option maxRecDepth 100000
set_option maxHeartbeats 2000000
/-! # seen = set(); for ..: (a statement); if c or w in seen: (raise); seen.add(w) -/
namespace PD
open PySem PySem.Spec PyProof.Rows L2
section
variable {L : LE} {fl : List Sh} {F B H : Hp} {σ σ' : L2.St} {ρ : Env}
/-- a slot that holds just this -/
theorem Rep.toX (r : Rep L fl F B σ H ρ) {si : Nat} {v : V} (hs : fl[si]? = some .s) : Rep L (fl.set si (.x v none)) F B (σ.set si (some v)) H (ρ.set si none) := by
  have hl : si < fl.length := (List.getElem?_eq_some_iff.mp hs).1
  obtain ⟨Ss, h1, h2, h3, h4⟩ := r.sl
  refine ⟨r.bs, by rw [List.length_set, List.length_set]; exact r.ls, by rw [List.length_set, List.length_set]; exact r.lr, fun i u eo q => ?_, Ss, fun i d q => ?_, h2, h3, h4⟩
  · by_cases c : i = si
    · subst c
      rw [List.getElem?_set_self hl] at q
      cases q
      exact ⟨List.getElem?_set_self (by rw [r.ls]; exact hl), fun dx ws z => by cases z⟩
    · rw [List.getElem?_set_ne (Ne.symm c)] at q ⊢
      exact r.px i u eo q
  · by_cases c : i = si
    · subst c
      rw [List.getElem?_set_self (by rw [r.lr]; exact hl)] at q
      cases q
    · rw [List.getElem?_set_ne (Ne.symm c)] at q
      obtain ⟨v', sh, a1, a2, a3, a4⟩ := h1 i d q
      exact ⟨v', sh, by rw [List.getElem?_set_ne (Ne.symm c)]; exact a1, by rw [List.getElem?_set_ne (Ne.symm c)]; exact a2, a3, a4⟩
theorem Rep.unX {si : Nat} {v : V} (hs : fl[si]? = some .s) (r : Rep L (fl.set si (.x v none)) F B σ H ρ) : Rep L fl F B σ H ρ := by
  have hl : si < fl.length := (List.getElem?_eq_some_iff.mp hs).1
  obtain ⟨Ss, h1, h2, h3, h4⟩ := r.sl
  refine ⟨r.bs, by rw [r.ls, List.length_set], by rw [r.lr, List.length_set], fun i u eo q => ?_, Ss, fun i d q => ?_, h2, h3, h4⟩
  · have c : i ≠ si := fun c => by rw [c, hs] at q; cases q
    exact r.px i u eo (by rw [List.getElem?_set_ne (Ne.symm c)]; exact q)
  · obtain ⟨v', sh, a1, a2, a3, a4⟩ := h1 i d q
    by_cases c : i = si
    · subst c
      rw [List.getElem?_set_self hl] at a2
      cases a2
      cases a3
    · rw [List.getElem?_set_ne (Ne.symm c)] at a2
      exact ⟨v', sh, a1, a2, a3, a4⟩
end
/-! ### the loop -/
section
variable {X : Cx} {L : LE} {J : Jn} {fl fl' : List Sh} {W : WX}
end
end PD
set_option Elab.async false
set_option linter.all false
set_option maxRecDepth 100000
set_option maxHeartbeats 2000000
/-! # row = x[k]; row.append(e); row[0] = e2, over a list of own lists -/
namespace PD
open PySem PySem.Spec PyProof.Rows L2
section
variable {X : Cx} {L : LE} {J : Jn} {fl fl1 fl' : List Sh} {W : WX} {pos pos2 pos3 : Pos}
noncomputable def sLLRowK (i j : Nat) (fk f1 f2 : Env → R D) (g : Env → R Fl) : Env → R Fl := fun ρ => match getL ρ i with
  | some ds => liftE (fk ρ) ρ fun k => match k with
    | .int a => match ixN ds.length a with
      | some m => match ds[m]? with
        | some (.lst xs) => liftE (f1 (ρ.set j none)) (ρ.set j none) fun e1 =>
          if xs.length < LN then
            liftE (f2 ((ρ.set j none).set i (some (.lst (ds.set m (.lst (xs ++ [e1]))))))) ((ρ.set j none).set i (some (.lst (ds.set m (.lst (xs ++ [e1])))))) fun e2 =>
              g (((ρ.set j none).set i (some (.lst (ds.set m (.lst (xs ++ [e1])))))).set i (some (.lst ((ds.set m (.lst (xs ++ [e1]))).set m (.lst ((xs ++ [e1]).set 0 e2))))))
          else .stuck
        | _ => .stuck
      | none => .stuck
    | _ => .stuck
  | none => .stuck
theorem Rep.neL {F B H : Hp} {σ : L2.St} {ρ : Env} {i k : Nat} {ds xs : List PD.D} {q p : Addr} {us : List V} (r : Rep L fl F B σ H ρ) (hs : fl[i]? = some (.l (.l .s))) (hx : ρ[i]? = some (some (.lst ds))) (hg : ds[k]? = some (.lst xs)) (c1 : σ[i]? = some (some (.ref q))) (c2 : H q = some (.lst us)) (c3 : us[k]? = some (.ref p)) : p ≠ q := by
  obtain ⟨Ss, h1, h2, h3, h4⟩ := r.sl
  obtain ⟨v, sh, a1, a2, a3, a4⟩ := h1 i _ hx
  rw [hs] at a2
  cases a2
  rw [c1] at a1
  cases a1
  have n3 := h3 i
  generalize hS : Ss i = S0 at a4 n3
  cases a4 with
  | l hq ho =>
    rename_i us2 S
    rw [c2] at hq
    cases hq
    obtain ⟨nq, nS⟩ := List.nodup_cons.mp n3
    obtain ⟨w, S1, Sk, S2, e1, e2, e3, e4⟩ := ho.atL rfl hg
    subst e1
    rw [c3] at e2
    cases e2
    cases e3 with
    | l hp hpo => exact fun z => nq (z ▸ List.mem_append_right _ (List.mem_append_left _ List.mem_cons_self))
theorem ss_llRow (i j : Nat) {x y : Str} {b e1 e2 : Expr} {rest : List Stmt} {fk f1 f2 : Env → R D} {g : Env → R Fl} {xp sp yp yp2 yp3 apos cpos p2 sp2 : Pos} {kk : Nat} (hN : X.N.Nodup) (hij : j ≠ i) (hb : PE X b (tD L fl .s W fk)) (he1 : PE X e1 (tD L fl .s W f1)) (he2 : PE X e2 (tD L fl .s W f2)) (hr : PSs X rest (tS L J fl fl' W g))
    (hK : X.K = L.K := by rfl) (hs : fl[i]? = some (.l (.l .s)) := by rfl) (hsj : fl[j]? = some .s := by rfl) (hNi : X.N[i]? = some x := by rfl) (hNj : X.N[j]? = some y := by rfl) (hx : Loc X.env.scope y := by first | exact Or.inl rfl | exact Or.inr (Or.inl rfl) | exact Or.inr (Or.inr rfl) | rfl)
    (hv : Vis X.env.scope x := by first | exact Or.inl rfl | exact Or.inr (Or.inl rfl) | exact Or.inr (Or.inr rfl)) (hvy : Vis X.env.scope y := by first | exact Or.inl rfl | exact Or.inr (Or.inl rfl) | exact Or.inr (Or.inr rfl)) (hd : (x == ("__debug__" : Str)) = false := by decide) (hcd : (x == ("__classdict__" : Str)) = false := by decide) (hdy : (y == ("__debug__" : Str)) = false := by decide) (hcdy : (y == ("__classdict__" : Str)) = false := by decide)
    (hpi : PlainIx b := by exact fun _ _ => rfl)
    (hsw1 : swapsWith (.Subscript (.Name x xp) b sp) (some (.Name y yp)) pos.line X.env = pure false := by rfl) (hf : X.fn y = true ∨ X.env.scope.names.lookup y = some .local := by first | exact .inl rfl | exact .inr rfl)
    (hbase : attributeBase (.Name y yp2) "append" X.env (eval (.Name y yp2) X.env) = eval (.Name y yp2) X.env := by rfl)
    (hfew : ((backTo cpos (starEach [e1] X.env)).all (fun x => !x.1) && (backToKw cpos (keywordEach [] X.env)).all (fun x => x.1.isSome) && decide (([e1] : List Expr).length + ([] : List Keyword).length + (if ([] : List Keyword).isEmpty then 0 else 1) < 30)) = true := by rfl)
    (hline : (apos.endLine == cpos.line) = true := by rfl) (hse : starEach [e1] X.env = (false, eval e1 X.env) :: starEach [] X.env := by rfl) (hplain : (backTo cpos (starEach [] X.env)).any (·.1) = false := by rfl)
    (hsw : swapsWith (.Call (.Attribute (.Name y yp2) "append" apos) [e1] [] cpos) none pos2.line X.env = pure false := by rfl)
    (ha : ∀ v, assign (.Subscript (.Name y yp3) (.Constant (.int ((0 : Nat) : Int)) kk p2) sp2) X.env v = (do
      let ov ← holding [v] (eval (.Name y yp3) X.env)
      let iv ← holding [v, ov] (eval (.Constant (.int ((0 : Nat) : Int)) kk p2) X.env)
      standAt sp2
      holding [v, ov, iv] (setItem ov iv v)
      release [v, ov, iv] []) := by intro _; rfl)
    (hs1 : swapsWithSole [.Subscript (.Name y yp3) (.Constant (.int ((0 : Nat) : Int)) kk p2) sp2] e2 pos3.line X.env = pure false := by rfl) (hw : swappedStores [.Subscript (.Name y yp3) (.Constant (.int ((0 : Nat) : Int)) kk p2) sp2] e2 X.env = pure none := by rfl)
    (h1 : (assignEach [.Subscript (.Name y yp3) (.Constant (.int ((0 : Nat) : Int)) kk p2) sp2] X.env).map (·.2) = [assign (.Subscript (.Name y yp3) (.Constant (.int ((0 : Nat) : Int)) kk p2) sp2) X.env] := by rfl) :
    PSs X (.Assign [.Name y yp] (.Subscript (.Name x xp) b sp) pos :: .Expr (.Call (.Attribute (.Name y yp2) "append" apos) [e1] [] cpos) pos2 :: .Assign [.Subscript (.Name y yp3) (.Constant (.int ((0 : Nat) : Int)) kk p2) sp2] e2 pos3 :: rest) (tS L J fl fl' W (sLLRowK i j fk f1 f2 g)) :=
  (pss_cons (ps_set hN hNj hx (pe_ix ix_seq (pv i hNi hv hd hcd) hb hpi) hsw1 hf)
    (pss_cons (ps_expr (pe_bm PySem.F.plainAttrs_list PySem.F.slot_list_append PySem.F.type_list_append mt_append (pv j hNj hvy hdy hcdy) (pa_cons he1 pa_nil hse) hbase hfew hline hse hplain) hsw)
      (pss_cons (ps_asg he2 (pg_sub (pv j hNj hvy hdy hcdy) pe_int set_list ha) hs1 hw h1) hr))).imp fun D σ H ⟨F, B, ρ, r, p⟩ => by
    unfold sLLRowK at p
    cases q : getL ρ i with
    | none => rw [q] at p; exact p.elim
    | some ds =>
      rw [q] at p
      dsimp only at p
      have hxi := getL_some q
      obtain ⟨Ss, h1', _, _, _⟩ := r.sl
      obtain ⟨v, sh, a1, a2, a3, a4⟩ := h1' i _ hxi
      refine ⟨v, a1, F, B, ρ, r, PostS.bindE r p fun dk w F1 H1 S1 _ e1' r1 o1 _ _ p1 => ?_⟩
      have dw := (own_d o1).1
      cases dk with
      | int a =>
        cases dw
        dsimp only at p1
        cases q2 : ixN ds.length a with
        | none => rw [q2] at p1; exact p1.elim
        | some m =>
          rw [q2] at p1
          dsimp only at p1
          split at p1
          · rename_i xs q3
            obtain ⟨q0, us, l, vs, b1, b2, b3, b4, b5, b6, go⟩ := r1.mutL hs hxi q3
            rw [b1] at a1
            cases a1
            have hjl : j < fl.length := (List.getElem?_eq_some_iff.mp hsj).1
            refine .inl ⟨q0, us, a, .ref l, rfl, rfl, SqL.of b2, atI_ix (by rw [b4]; exact q2) b3, ?_⟩
            have rr : Rep L fl F1 B (σ.set j (some (.ref l))) H1 (ρ.set j none) := Rep.unX hsj (r1.toX (v := .ref l) hsj)
            have sj : (σ.set j (some (V.ref l)))[j]? = some (some (.ref l)) := List.getElem?_set_self (by rw [r1.ls]; exact hjl)
            have hxi' : (ρ.set j none)[i]? = some (some (.lst ds)) := by rw [List.getElem?_set_ne hij]; exact hxi
            refine ⟨.ref l, sj, .inl ⟨rfl, _, SqL.of b5⟩, F1, B, _, rr, PostS.bindE rr p1 fun d1 v1 F2 H2 S2 _ e2' r2 o2 _ _ p2 => ?_⟩
            have hlv := b6.length
            by_cases hl : xs.length < LN
            · rw [if_pos hl] at p2
              refine ⟨l, vs, v1, rfl, rfl, e2'.hh l _ b5 rfl, lt_line (by omega), ?_⟩
              -- after the append
              obtain ⟨q0', us', l', vs', c1, c2, c3, c4, c5, c6, go2⟩ := r2.mutL hs hxi' q3
              rw [List.getElem?_set_ne hij, b1] at c1
              cases c1
              rw [e2'.hh _ _ b2 rfl] at c2
              cases c2
              rw [b3] at c3
              cases c3
              rw [e2'.hh _ _ b5 rfl] at c5
              cases c5
              have rr2 := go2 F2 H2 (vs ++ [v1]) (xs ++ [d1]) r2.refl (c6.append (.cons (own_d o2).1 .nil))
              have hml : m < ds.length := (List.getElem?_eq_some_iff.mp q3).1
              have hil : i < (ρ.set j none).length := (List.getElem?_eq_some_iff.mp hxi').1
              have hx2 : ((ρ.set j none).set i (some (.lst (ds.set m (.lst (xs ++ [d1]))))))[i]? = some (some (.lst (ds.set m (.lst (xs ++ [d1]))))) := List.getElem?_set_self hil
              have hg2 : (ds.set m (.lst (xs ++ [d1])))[m]? = some (.lst (xs ++ [d1])) := List.getElem?_set_self hml
              refine ⟨F2, B, _, rr2, PostS.bindE rr2 p2 fun d2 v2 F3 H4 S3 _ e3 r3 o3 _ _ p3 => ?_⟩
              have hH : H4 l = some (.lst (vs ++ [v1])) := e3.hh l _ upd_same rfl
              obtain ⟨q0', us', l', vs', c1, c2, c3, c4, c5, c6', go3⟩ := r3.mutL hs hx2 hg2
              rw [List.getElem?_set_ne hij, b1] at c1
              cases c1
              have hq : l ≠ q0 := r1.neL hs hxi q3 b1 b2 b3
              have hH0 : H4 q0 = some (.lst us) := e3.hh q0 _ (by rw [upd_ne (Ne.symm hq)]; exact e2'.hh _ _ b2 rfl) rfl
              rw [hH0] at c2
              cases c2
              rw [b3] at c3
              cases c3
              rw [hH] at c5
              cases c5
              refine ⟨.ref l, sj, l, vs ++ [v1], 0, 0, rfl, rfl, hH, ?_, ?_⟩
              · unfold ixN
                rw [if_pos (by omega), if_pos (by rw [List.length_append]; simp)]
                simp
              · have r4 := go3 F3 H4 ((vs ++ [v1]).set 0 v2) ((xs ++ [d1]).set 0 d2) r3.refl (DatL.set (own_d o3).1 0 c6')
                exact ⟨F3, B, _, r4, p3⟩
            · rw [if_neg hl] at p2; exact p2.elim
          · exact p1.elim
      | _ => exact p1.elim
end
end PD
set_option linter.all false
set_option maxRecDepth 100000
namespace K18
open PD PM PO PU PV
open _root_.PN hiding i1_check_phrases i2_check_phrases l1_check_phrases i3_check_phrases i4_check_phrases l2_check_phrases b_check_phrases m_check_phrases b_Copies_init m_Copies_init

noncomputable def z7109b8bd : List Nat := [32, 33, 34, 35, 36, 38, 39, 40, 41, 42, 43, 44, 45, 46, 47, 48, 49, 50, 51, 52, 53, 54, 55, 56, 57, 58, 59, 60, 61, 62, 63, 64, 65, 66, 67, 68, 69, 70, 71, 72, 73, 74, 75, 76, 77, 78, 79, 80, 81, 82, 83, 84, 85, 86, 87, 88, 89, 90, 91, 92, 93, 94, 95, 96]
noncomputable def zb9801bfe : List Nat := [97, 98, 99, 100, 101, 102, 103, 104, 105, 106, 107, 108, 109, 110, 111, 112, 113, 114, 115, 116, 117, 118, 119, 120, 121, 122, 123, 124, 125, 126, 10, 9]
noncomputable def za336b5d4 : List Nat := [116, 111, 108, 100]
noncomputable def zbf713652 : List Nat := [66, 97, 100, 80, 114, 101, 115, 115]
noncomputable def z046afc1d : List Nat := [84, 111, 111, 76, 111, 110, 103]
noncomputable def i1_law_wrong : Env → R Fl := (sIf (mB (m2 dEq (m2 dIx (mV 0) (mC (.int 0))) (mC (.str zf5b75010)))) (sRet (mOrV (m2 dNe (mN dLen (mCons (m2 dIx (mV 0) (mC (.int 1))) mNil)) (mC (.int 1))) (m2 dNotIn (m2 dIx (mV 0) (mC (.int 1))) (mC (.str zc3fcd3d7))))) sNx)
noncomputable def i2_law_wrong : Env → R Fl := (sIf (mAnd (mB (m2 dEq (m2 dIx (mV 0) (mC (.int 0))) (mC (.str z62cd2759)))) (mOr (mB (m2 dLt (m2 dIx (mV 0) (mC (.int 2))) (mC (.int 2)))) (mB (m2 dGt (m2 dIx (mV 0) (mC (.int 2))) (mC (.int 128)))))) (sRet (mC (.bl true))) sNx)
noncomputable def c1_law_wrong : Env → R D := (mLc (iOf gSq (mCall 1 m_law_parts (mCons (mV 0) mNil))) [2] (gSet 2) (mOr (mB (m2 dLt (mV 2) (mC (.int 0)))) (mB (m2 dGe (mV 2) (mV 1)))) (mV 2))
noncomputable def b_law_wrong : Env → R Fl := (sSeq i1_law_wrong (sSeq i2_law_wrong (sRet (m2 dGt (mN dLen (mCons c1_law_wrong mNil)) (mC (.int 0))))))
noncomputable def m_law_wrong : List D → R D := mFn 3 false b_law_wrong
noncomputable def i1_law_mended : Env → R Fl := (sIf (mB (mCall 2 m_law_wrong (mCons (mV 2) (mCons (mN dLen (mCons (mV 0) mNil)) mNil)))) (sApp 1 (mN dTup (mCons (mC (.str zf5b75010)) (mCons (mC (.str [97])) mNil)))) (sApp 1 (mV 2)))
noncomputable def l1_law_mended : Env → R Fl := i1_law_mended
noncomputable def i2_law_mended : Env → R Fl := (sIf (mB (m2 dEq (mN dLen (mCons (mV 1) mNil)) (mC (.int 0)))) (sApp 1 (mN dTup (mCons (mC (.str zf5b75010)) (mCons (mC (.str [122])) mNil)))) sNx)
noncomputable def b_law_mended : Env → R Fl := (sSeq (sSet 1 (mN dLst mNil)) (sSeq (sFor (iOf gSq (mSl dSl (mV 0) mNo (mSo (mC (.int 256))))) (gSet 2) l1_law_mended) (sSeq i2_law_mended (sRet (mV 1)))))
noncomputable def m_law_mended : List D → R D := mFn 3 false b_law_mended
noncomputable def i1_law_each : Env → R Fl := (sIf (mB (m2 dGt (m2 dIx (mV 4) (mC (.int 0))) (mC (.int 1)))) (sSet 5 (mN dTup (mCons (mC (.str z33c9b363)) (mCons (m2 dIx (mV 4) (mC (.int 2))) (mCons (m2 dIx (mV 4) (mC (.int 3))) mNil))))) sNx)
noncomputable def i2_law_each : Env → R Fl := (sIf (mB (m2 dEq (m2 dIx (mV 4) (mC (.int 0))) (mC (.int 4)))) (sSet 5 (mN dTup (mCons (mC (.str z62cd2759)) (mCons (m2 dIx (mV 4) (mC (.int 2))) (mCons (m2 dAdd (mC (.int 2)) (m2 dIx (mV 4) (mC (.int 4)))) mNil))))) sNx)
noncomputable def l1_law_each : Env → R Fl := (sSeq (sSet 4 (mCall 2 m_law_draws (mCons (m2 dAdd (mCall 2 m_law_cell (mCons (mV 0) (mCons (m2 dAdd (mC (.int 4)) (mV 3)) mNil))) (mV 3)) (mCons (mN dLst (mCons (mC (.int 5)) (mCons (mC (.int 26)) (mCons (mV 1) (mCons (mV 1) (mCons (mC (.int 127)) mNil)))))) mNil)))) (sSeq (sSet 5 (mN dTup (mCons (mC (.str zf5b75010)) (mCons (mCall 1 m_law_letter (mCons (m2 dIx (mV 4) (mC (.int 1))) mNil)) mNil)))) (sSeq i1_law_each (sSeq i2_law_each (sApp 2 (mV 5))))))
noncomputable def b_law_each : Env → R Fl := (sSeq (sSet 2 (mN dLst mNil)) (sSeq (sFor (iArgs gR1 (mCons (mV 1) mNil)) (gSet 3) l1_law_each) (sRet (mV 2))))
noncomputable def m_law_each : List D → R D := mFn 6 false b_law_each
noncomputable def b_law_sign : Env → R Fl := (sSeq (sSet 1 (mC (.str z7109b8bd))) (sSeq (sSet 1 (m2 dAdd (mV 1) (mC (.str zb9801bfe)))) (sRet (m2 dIx (mV 1) (m2 dMod (mN dInt1 (mCons (mV 0) mNil)) (mC (.int 96)))))))
noncomputable def m_law_sign : List D → R D := mFn 2 false b_law_sign
noncomputable def i1_law_spoilt : Env → R Fl := (sIf (mB (m2 dEq (mV 2) (mC (.int 0)))) (sRet (mN dLst mNil)) sNx)
noncomputable def i2_law_spoilt : Env → R Fl := (sIf (mB (m2 dEq (m2 dIx (mV 3) (mC (.int 1))) (mC (.int 1)))) (sSet 8 (mN dTup (mCons (mC (.str z33c9b363)) (mCons (m2 dIx (mV 4) (m2 dIx (mV 3) (mC (.int 2)))) (mCons (m2 dIx (mV 4) (m2 dIx (mV 3) (mC (.int 3)))) mNil))))) sNx)
noncomputable def i3_law_spoilt : Env → R Fl := (sIf (mB (m2 dEq (m2 dIx (mV 3) (mC (.int 1))) (mC (.int 2)))) (sSet 8 (mN dTup (mCons (mC (.str z62cd2759)) (mCons (m2 dIx (mV 4) (m2 dMod (mN dInt1 (mCons (m2 dIx (mV 3) (mC (.int 2))) mNil)) (mC (.int 7)))) (mCons (m2 dIx (mV 5) (m2 dIx (mV 3) (mC (.int 4)))) mNil))))) sNx)
noncomputable def b_law_spoilt : Env → R Fl := (sSeq (sSet 2 (mN dLen (mCons (mV 0) mNil))) (sSeq i1_law_spoilt (sSeq (sSet 3 (mCall 2 m_law_draws (mCons (mV 1) (mCons (mN dLst (mCons (mV 2) (mCons (mC (.int 3)) (mCons (mC (.int 10)) (mCons (mC (.int 10)) (mCons (mC (.int 10)) (mCons (mC (.int 6)) (mCons (mC (.int 96)) (mCons (mC (.int 26)) (mCons (mC (.int 1000)) mNil)))))))))) mNil)))) (sSeq (sSet 4 (mN dLst (mCons (mC (.int 0)) (mCons (m2 dSub (mV 2) (mC (.int 1))) (mCons (m2 dIx (mV 3) (mC (.int 0))) (mCons (m2 dDiv (mV 2) (mC (.int 2))) (mCons (m2 dMod (mN dInt1 (mCons (m2 dIx (mV 3) (mC (.int 8))) mNil)) (mV 2)) (mCons (mV 2) (mCons (m1 dNeg (mC (.int 1))) (mCons (m2 dAdd (mV 2) (mC (.int 1))) (mCons (m2 dPow (mC (.int 10)) (mC (.int 30))) (mCons (m2 dSub (m1 dNeg (mC (.int 1))) (m2 dIx (mV 3) (mC (.int 8)))) mNil)))))))))))) (sSeq (sSet 5 (mN dLst (mCons (mC (.int 2)) (mCons (mC (.int 128)) (mCons (mC (.int 3)) (mCons (m2 dAdd (mC (.int 2)) (m2 dMod (mN dInt1 (mCons (m2 dIx (mV 3) (mC (.int 8))) mNil)) (mC (.int 127)))) (mCons (mC (.int 1)) (mCons (mC (.int 129)) (mCons (mC (.int 0)) (mCons (m2 dSub (m1 dNeg (mC (.int 1))) (m2 dIx (mV 3) (mC (.int 8)))) (mCons (mC (.int 1000)) (mCons (mC (.int 1)) mNil)))))))))))) (sSeq (sSet 6 (mCall 1 m_law_letter (mCons (m2 dIx (mV 3) (mC (.int 7))) mNil))) (sSeq (sSet 7 (mCall 1 m_law_sign (mCons (m2 dIx (mV 3) (mC (.int 6))) mNil))) (sSeq (sSet 8 (mN dTup (mCons (mC (.str zf5b75010)) (mCons (m2 dIx (mN dLst (mCons (mC (.str [])) (mCons (mV 7) (mCons (m2 dAdd (mV 6) (mV 7)) (mCons (m2 dAdd (mV 7) (mV 6)) (mCons (m2 dAdd (mV 6) (mV 6)) (mCons (mV 6) mNil))))))) (m2 dIx (mV 3) (mC (.int 5)))) mNil)))) (sSeq i2_law_spoilt (sSeq i3_law_spoilt (sRet (m2 dAdd (m2 dAdd (mSl dSl (mV 0) mNo (mSo (m2 dIx (mV 3) (mC (.int 0))))) (mN dLst (mCons (mV 8) mNil))) (mSl dSl (mV 0) (mSo (m2 dAdd (m2 dIx (mV 3) (mC (.int 0))) (mC (.int 1)))) mNo)))))))))))))
noncomputable def m_law_spoilt : List D → R D := mFn 9 false b_law_spoilt
noncomputable def e1_law_try : List (PySem.Str × D) → Env → R Fl := (fun fs => (sSeq (sSet 2 (mAndV (mC (.bl true)) (mC (.bl true)))) (sSeq (sSet 3 (mC (.bl false))) (sRet (mN dTup (mCons (mC (.str z046afc1d)) (mCons (mC (.int 0)) (mCons (mAndV (mV 2) (m1 dNot (mV 3))) mNil))))))))
noncomputable def e2_law_try : List (PySem.Str × D) → Env → R Fl := (fun fs => (sSeq (sSet 2 (mAndV (mC (.bl true)) (mC (.bl true)))) (sSeq (sSet 3 (mC (.bl false))) (sRet (mN dTup (mCons (mC (.str zbf713652)) (mCons (mXF fs "index") (mCons (mAndV (mV 2) (m1 dNot (mV 3))) mNil))))))))
noncomputable def b_law_try : Env → R Fl := (sTryF [⟨tblL "BadPress" ["TooLong"], (some 1), e2_law_try⟩, ⟨tblL "TooLong" ["BadPress"], (some 1), e1_law_try⟩] (sRet (mN dTup (mCons (mC (.str za336b5d4)) (mCons (mMake "Rules" ["rules"] 1 m_Rules_init (mCons (mV 0) mNil)) mNil)))))
noncomputable def m_law_try : List D → R D := mFn 4 false b_law_try
noncomputable def i1_law_due : Env → R Fl := (sIf (mB (m2 dEq (mN dLen (mCons (mV 0) mNil)) (mC (.int 0)))) (sRet (mN dTup (mCons (mC (.str zbf713652)) (mCons (mC (.int 0)) (mCons (mC (.bl true)) mNil))))) sNx)
noncomputable def i2_law_due : Env → R Fl := (sIf (mB (m2 dGt (mN dLen (mCons (mV 0) mNil)) (mC (.int 256)))) (sRet (mN dTup (mCons (mC (.str z046afc1d)) (mCons (mC (.int 0)) (mCons (mC (.bl true)) mNil))))) sNx)
noncomputable def i3_law_due : Env → R Fl := (sIf (mB (mCall 2 m_law_wrong (mCons (m2 dIx (mV 0) (mV 1)) (mCons (mN dLen (mCons (mV 0) mNil)) mNil)))) (sRet (mN dTup (mCons (mC (.str zbf713652)) (mCons (mV 1) (mCons (mC (.bl true)) mNil))))) sNx)
noncomputable def l1_law_due : Env → R Fl := i3_law_due
noncomputable def b_law_due : Env → R Fl := (sSeq i1_law_due (sSeq i2_law_due (sSeq (sFor (iArgs gR1 (mCons (mN dLen (mCons (mV 0) mNil)) mNil)) (gSet 1) l1_law_due) (sRet (mC .non)))))
noncomputable def m_law_due : List D → R D := mFn 2 false b_law_due
noncomputable def c1_law_reached : Env → R D := (mLc (iArgs gR1 (mCons (mN dLen (mCons (mV 0) mNil)) mNil)) [4] (gSet 4) mYes (m2 dEq (mV 4) (m2 dSub (mN dLen (mCons (mV 0) mNil)) (mC (.int 1)))))
noncomputable def l1_law_reached : Env → R Fl := (sSetIx 1 (mC (.bl true)) (mV 5))
noncomputable def i1_law_reached : Env → R Fl := (sIf (mTru (m2 dIx (mV 3) (mV 4))) (sFor (iOf gSq (mCall 1 m_law_parts (mCons (m2 dIx (mV 0) (mV 4)) mNil))) (gSet 5) l1_law_reached) sNx)
noncomputable def l2_law_reached : Env → R Fl := i1_law_reached
noncomputable def i2_law_reached : Env → R Fl := (sIf (mB (m2 dEq (mV 1) (mV 3))) sBk sNx)
noncomputable def l3_law_reached : Env → R Fl := (sSeq (sSet 3 (mNLL (mN dListOf (mCons (mV 1) mNil)))) (sSeq (sFor (iArgs gR1 (mCons (mN dLen (mCons (mV 0) mNil)) mNil)) (gSet 4) l2_law_reached) i2_law_reached))
noncomputable def c2_law_reached : Env → R D := (mLc (iOf gSq (mV 1)) [6] (gSet 6) (mTru (mV 6)) (mV 6))
noncomputable def b_law_reached : Env → R Fl := (sSeq (sSet 1 c1_law_reached) (sSeq (sFor (iArgs gR1 (mCons (mN dLen (mCons (mV 0) mNil)) mNil)) (gSet 2) l3_law_reached) (sRet (mN dLen (mCons c2_law_reached mNil)))))
noncomputable def m_law_reached : List D → R D := mFn 7 false b_law_reached
noncomputable def i1_law_holds : Env → R Fl := (sIf (mB (m2 dNotN (mV 2) (mC .non))) (sRet (mCall 2 (m_law_same 8) (mCons (mV 0) (mCons (mV 2) mNil)))) sNx)
noncomputable def i2_law_holds : Env → R Fl := (sIf (mB (m2 dNe (m2 dIx (mV 0) (mC (.int 0))) (mC (.str za336b5d4)))) (sRet (mC (.bl false))) sNx)
noncomputable def b_law_holds : Env → R Fl := (sSeq (sSet 2 (mCall 1 m_law_due (mCons (mV 1) mNil))) (sSeq i1_law_holds (sSeq i2_law_holds (sSeq (sSet 3 (m2 dIx (mV 0) (mC (.int 1)))) (sRet (mAndV (mCall 2 (m_law_same 8) (mCons (m1 (dFld ["Rules"] "rules") (mV 3)) (mCons (mN dTupOf (mCons (mV 1) mNil)) mNil))) (mCall 2 (m_law_same 8) (mCons (mMeth0 [("Rules", m_Rules_size)] "size" (mV 3)) (mCons (mCall 1 m_law_reached (mCons (mV 1) mNil)) mNil)))))))))
noncomputable def m_law_holds : List D → R D := mFn 4 false b_law_holds
noncomputable def i1_law : Env → R Fl := (sIf (mB (m2 dGt (m2 dIx (mV 1) (mC (.int 1))) (mC (.int 13)))) (sSet 2 (mCall 2 m_law_each (mCons (mV 0) (mCons (mCall 3 m_law_size (mCons (m2 dIx (mV 1) (mC (.int 5))) (mCons (m2 dIx (mV 1) (mC (.int 6))) (mCons (mC (.int 40)) mNil)))) mNil)))) sNx)
noncomputable def i2_law : Env → R Fl := (sIf (mB (m2 dEq (m2 dIx (mV 1) (mC (.int 1))) (mC (.int 0)))) (sSet 2 (mN dLst mNil)) sNx)
noncomputable def c1_law : Env → R D := (mLc (iArgs gR1 (mCons (m2 dAdd (mC (.int 254)) (m2 dIx (mV 1) (mC (.int 2)))) mNil)) [8] (gSet 8) mYes (mN dTup (mCons (mC (.str zf5b75010)) (mCons (mCall 1 m_law_letter (mCons (m2 dAdd (m2 dIx (mV 1) (mC (.int 3))) (m2 dMul (mV 8) (m2 dIx (mV 1) (mC (.int 4))))) mNil)) mNil))))
noncomputable def i3_law : Env → R Fl := (sIf (mOr (mB (m2 dEq (m2 dIx (mV 1) (mC (.int 1))) (mC (.int 1)))) (mB (m2 dEq (m2 dIx (mV 1) (mC (.int 1))) (mC (.int 2))))) (sSet 2 c1_law) sNx)
noncomputable def l1_law : Env → R Fl := (sSet 2 (mCall 2 m_law_spoilt (mCons (mV 2) (mCons (mCall 2 m_law_cell (mCons (mV 0) (mCons (m2 dAdd (mC (.int 2)) (mV 3)) mNil))) mNil))))
noncomputable def c2_law : Env → R D := (mLc (iOf gSq (mV 5)) [10] (gSet 10) mYes (mN dListOf (mCons (mV 10) mNil)))
noncomputable def c3_law : Env → R D := (mLc (iOf gSq (mV 6)) [10] (gSet 10) mYes (mCall 1 m_law_try (mCons (mV 10) mNil)))
noncomputable def i4_law : Env → R Fl := (sIf (mOr (mNot (mB (mCall 2 (m_law_same 8) (mCons (m2 dIx (mV 6) (mV 8)) (mCons (m2 dIx (mV 5) (mV 8)) mNil))))) (mNot (mB (mCall 2 m_law_holds (mCons (m2 dIx (mV 7) (mV 8)) (mCons (m2 dIx (mV 5) (mV 8)) mNil)))))) (sRet (mC (.bl false))) sNx)
noncomputable def l2_law : Env → R Fl := i4_law
noncomputable def l3_law : Env → R Fl := (sLLRowK 6 9 (mV 8) (mN dTup (mCons (mC (.str zf5b75010)) (mCons (mC (.str [113])) mNil))) (mN dTup (mCons (mC (.str z33c9b363)) (mCons (mC (.int 0)) (mCons (mC (.int 0)) mNil)))) sNx)
noncomputable def c4_law : Env → R D := (mLc (iArgs gR1 (mCons (mC (.int 4)) mNil)) [8] (gSet 8) (mNot (mB (mCall 2 m_law_holds (mCons (m2 dIx (mV 7) (mV 8)) (mCons (m2 dIx (mV 5) (mV 8)) mNil))))) (mV 8))
noncomputable def b_law : Env → R Fl := (sSeq (sSet 1 (mCall 2 m_law_draws (mCons (mCall 2 m_law_cell (mCons (mV 0) (mCons (mC (.int 0)) mNil))) (mCons (mN dLst (mCons (mC (.int 3)) (mCons (mC (.int 24)) (mCons (mC (.int 5)) (mCons (mC (.int 26)) (mCons (mC (.int 12)) (mCons (mC (.int 10)) (mCons (mC (.int 40)) mNil)))))))) mNil)))) (sSeq (sSet 2 (mCall 2 m_law_rules (mCons (mCall 2 m_law_cell (mCons (mV 0) (mCons (mC (.int 1)) mNil))) (mCons (m2 dGt (m2 dIx (mV 1) (mC (.int 4))) (mC (.int 3))) mNil)))) (sSeq i1_law (sSeq i2_law (sSeq i3_law (sSeq (sFor (iArgs gR1 (mCons (m2 dIx (mV 1) (mC (.int 0))) mNil)) (gSet 3) l1_law) (sSeq (sSet 4 (mCall 1 m_law_mended (mCons (mV 2) mNil))) (sSeq (sSet 5 (mN dLst (mCons (mV 2) (mCons (mV 4) (mCons (m2 dAdd (mV 4) (mN dLst (mCons (mN dTup (mCons (mC (.str zf5b75010)) (mCons (mC (.str [113])) mNil))) mNil))) (mCons (mV 2) mNil)))))) (sSeq (sSet 6 c2_law) (sSeq (sSet 7 (mNLL c3_law)) (sSeq (sFor (iArgs gR1 (mCons (mC (.int 4)) mNil)) (gSet 8) l2_law) (sSeq (sFor (iArgs gR1 (mCons (mC (.int 4)) mNil)) (gSet 8) l3_law) (sRet (m2 dEq (mN dLen (mCons c4_law mNil)) (mC (.int 0))))))))))))))))
noncomputable def m_law : List D → R D := mFn 11 false b_law
end K18
set_option Elab.async false
set_option linter.all false
set_option maxRecDepth 100000
set_option maxHeartbeats 4000000
namespace K18
open PySem PySem.Spec PyProof.Rows L2 PD PM PO PU PV
open _root_.PN hiding i1_check_phrases i2_check_phrases l1_check_phrases i3_check_phrases i4_check_phrases l2_check_phrases b_check_phrases m_check_phrases b_Copies_init m_Copies_init
noncomputable def topS (i : Nat) : Stmt := PySem.Challenge.pw_pressroots_k18_rules_form.main.body.getD i (.Pass ⟨0, 0, 0, 0⟩)
noncomputable abbrev st_law_draws : Stmt := topS 62
noncomputable abbrev st_law_size : Stmt := topS 64
noncomputable abbrev st_law_letter : Stmt := topS 63
noncomputable abbrev st_law_parts : Stmt := topS 67
noncomputable abbrev st_law_lengths : Stmt := topS 68
noncomputable abbrev st_law_rules : Stmt := topS 69
noncomputable abbrev st_law_wrong : Stmt := topS 73
noncomputable abbrev st_law_mended : Stmt := topS 75
noncomputable abbrev st_law_cell : Stmt := topS 61
noncomputable abbrev st_law_each : Stmt := topS 70
noncomputable abbrev st_law_sign : Stmt := topS 71
noncomputable abbrev st_law_spoilt : Stmt := topS 72
noncomputable abbrev st_parts_of : Stmt := topS 44
noncomputable abbrev st_is_letter : Stmt := topS 17
noncomputable abbrev st_is_valid_rule : Stmt := topS 45
noncomputable abbrev st_check_rules : Stmt := topS 46
noncomputable abbrev st_Rules_init : Stmt := inClass (topS 59) 0
noncomputable abbrev st_law_try : Stmt := topS 77
noncomputable abbrev st_law_is_int : Stmt := topS 65
noncomputable abbrev st_law_same : Stmt := topS 66
noncomputable abbrev st_law_due : Stmt := topS 74
noncomputable abbrev st_used_names : Stmt := topS 51
noncomputable abbrev st_Rules_size : Stmt := inClass (topS 59) 3
noncomputable abbrev st_law_reached : Stmt := topS 76
noncomputable abbrev st_law_holds : Stmt := topS 78
noncomputable abbrev st_law : Stmt := topS 79
noncomputable abbrev stx_BadPress : Stmt := inClass (topS 9) 0
structure Nb (mg : Str → Option Value) : Prop where
  ValueError : mg "ValueError" = none
  abs : mg "abs" = none
  bool : mg "bool" = none
  cLETTERS : GStr mg "LETTERS" zc3fcd3d7
  cMOST_RULES : GInt mg "MOST_RULES" 256
  cMOST_TIMES : GInt mg "MOST_TIMES" 128
  enumerate : mg "enumerate" = none
  int : mg "int" = none
  isinstance : mg "isinstance" = none
  len : mg "len" = none
  list : mg "list" = none
  min : mg "min" = none
  range : mg "range" = none
  str : mg "str" = none
  tuple : mg "tuple" = none
section
variable {P : Program} {w : World} {K : PySem.W.Frag} {mg : Str → Option Value} {base : Heap} {ca : Str → Addr} {T : List Addr}
theorem okx_BadPress {f D cc cda : Addr} {kV doc pm ct oc ccl cl : Value} {an od cdd cld : Option Addr} {osl ccs csl : Array (Option Value)} {vs : Array Value} {file : Str} {tf : Tok} (lk : K.lookup f = some ⟨oc, od, .func (PySem.W.ksFn "__init__" "BadPress.__init__" (defArgs stx_BadPress) (defBody stx_BadPress) (defScope stx_BadPress) .none kV doc pm an (.ref cda) ct cc), osl⟩) (hcd : PySem.W.codeIn K (.ref cda) "BadPress.__init__" = true)
    (hcode : K.lookup cda = some ⟨ccl, cdd, .fields vs, ccs⟩) (hvs : vs[2]? = some (.str file tf)) (hfile : ((P.main.file : Str) == file) = true) (htop : (P.main.scope.names.lookup ("super" : Str)).isSome = false) (hcell : K.lookup cc = some ⟨cl, cld, .cell (some (.ref D)), csl⟩) (T0 : OexC K D) (hm : PySem.W.ks_superIn K D D "__init__" = some (some (.builtin "ValueError.__init__"))) (hB : PySem.W.subIn K (.ref D) (.type "ValueError") = some true) (hDD : PySem.W.mroIn K D (.ref D) = some true)
    (hth : PySem.W.nsIn K cStatics "thirdparty.any" = some none) (hno : PySem.W.findIn K (.ref D) "index" = some none) (msup : mg "super" = none) : FnOk P w K mg base (L2.CX P w) 1 f (PySem.W.ksFn "__init__" "BadPress.__init__" (defArgs stx_BadPress) (defBody stx_BadPress) (defScope stx_BadPress) .none kV doc pm an (.ref cda) ct cc) ["self", "index"] (supSp K D "index") :=
  fn_sup (fld := "index") (k := 0) lk hcd rfl rfl hcode hvs hfile htop hcell T0 hm hB hDD hth hno msup rfl rfl rfl rfl (by decide +kernel) rfl rfl rfl (by decide) (by decide) (Nat.le_of_ble_eq_true rfl) _ (fun _ => rfl) (fun _ => rfl) (fun _ => rfl) (fun _ => rfl)
theorem sc_law_draws : FnScope ["cell", "sizes", "number", "rest", "draws", "k", "seed"] ["cell", "sizes"] (defScope st_law_draws) := ⟨rfl, rfl, rfl, by decide +kernel, rfl, by decide +kernel, by decide +kernel⟩
theorem ok_law_draws {f : Addr} {fd : FuncData} (F : Fun K "_law_draws" "_law_draws" st_law_draws f fd) (nb : Nb mg) :
    FnOk P w K mg base (L2.CX P w) 1 f fd ["cell", "sizes"] (spD ⟨K, ca, T⟩ .s 2 m_law_draws) := by
  refine fnD F sc_law_draws rfl (fl := [.s, .s, .s, .s, .l .s, .s, .s]) (fl' := [.s, .s, .s, .s, .s, .s, .s]) (rest := [.s, .s, (.l .s), .s, .s]) false rfl rfl (fun h => nomatch h) fun cdv A outer s H E hr => ?_
  exact (s_cons (fl1 := [.s, .s, .s, .s, .l .s, .s, .s]) (s_set 2 sc_law_draws.nd (e_callB call_abs (cd_abs (bw := true)) nb.abs boot_abs' (a_cons (e_varS 0) a_nil))) (s_cons (fl1 := [.s, .s, .s, .s, .l .s, .s, .s]) (s_set 3 sc_law_draws.nd (e_varS 2)) (s_cons (fl1 := [.s, .s, .s, .s, .l .s, .s, .s]) (s_if (t_cmp or_lt (od_cmp (bw := true)) (e_varS 2) (e_op2 op_pow (od_pow (bw := true)) e_int e_int)) (s_one (s_set 3 sc_law_draws.nd e_int)) s_nil) (s_cons (fl1 := [.s, .s, .s, .s, .l .s, .s, .s]) (s_set 4 sc_law_draws.nd (e_lst a_nil)) (s_cons (fl1 := [.s, .s, .s, .s, .l .s, .s, .s]) (s_for (passes_of rfl) (i_range1 nb.range (a_cons (e_callB call_len (cd_len (bw := true) rfl) nb.len PySem.boot_len (a_cons (e_varS 1) a_nil)) a_nil)) (g_name 5 sc_law_draws.nd) (s_one (s_if (t_cmp or_gt (od_cmp (bw := true)) (e_varS 3) e_int) (s_cons (fl1 := [.s, .s, .s, .s, .l .s, .s, .s]) (s_append 4 (e_op2 op_mod (od_mod (bw := true)) (e_callT call_int1 (cd_int (bw := true)) nb.int boot_int (a_cons (e_varS 3) a_nil)) (e_ix (e_varS 1) (e_varS 5)))) (s_one (s_set 3 sc_law_draws.nd (e_op2 op_fdivW (od_div (bw := true)) (e_varS 3) (e_ix (e_varS 1) (e_varS 5)))))) (s_cons (fl1 := [.s, .s, .s, .s, .l .s, .s, .s]) (s_set 6 sc_law_draws.nd (e_op2 op_mod (od_mod (bw := true)) (e_callT call_int1 (cd_int (bw := true)) nb.int boot_int (a_cons (e_op2 or_add od_add (e_op2 or_mul od_mul (e_varS 2) e_int) (e_op2 or_mul od_mul e_int (e_op2 or_add od_add (e_varS 5) e_int))) a_nil)) e_int)) (s_cons (fl1 := [.s, .s, .s, .s, .l .s, .s, .s]) (s_set 6 sc_law_draws.nd (e_op2 op_mod (od_mod (bw := true)) (e_callT call_int1 (cd_int (bw := true)) nb.int boot_int (a_cons (e_op2 or_add od_add (e_op2 or_mul od_mul (e_varS 6) (e_varS 6)) (e_op2 or_mul od_mul e_int (e_op2 or_add od_add (e_varS 5) e_int))) a_nil)) e_int)) (s_cons (fl1 := [.s, .s, .s, .s, .l .s, .s, .s]) (s_set 6 sc_law_draws.nd (e_op2 op_mod (od_mod (bw := true)) (e_callT call_int1 (cd_int (bw := true)) nb.int boot_int (a_cons (e_op2 or_add od_add (e_op2 or_mul od_mul (e_varS 6) (e_varS 6)) e_int) a_nil)) e_int)) (s_one (s_append 4 (e_op2 op_mod (od_mod (bw := true)) (e_callT call_int1 (cd_int (bw := true)) nb.int boot_int (a_cons (e_op2 op_fdivW (od_div (bw := true)) (e_varS 6) e_int) a_nil)) (e_ix (e_varS 1) (e_varS 5))))))))))) (ss_frz 4 (s_one (s_ret (e_varS 4)))))))))
theorem sc_law_size : FnScope ["mode", "number", "most"] ["mode", "number", "most"] (defScope st_law_size) := ⟨rfl, rfl, rfl, by decide +kernel, rfl, by decide +kernel, by decide +kernel⟩
theorem ok_law_size {f : Addr} {fd : FuncData} (F : Fun K "_law_size" "_law_size" st_law_size f fd) (nb : Nb mg) :
    FnOk P w K mg base (L2.CX P w) 1 f fd ["mode", "number", "most"] (spD ⟨K, ca, T⟩ .s 3 m_law_size) := by
  refine fnD F sc_law_size rfl (fl := [.s, .s, .s]) (fl' := [.s, .s, .s]) (rest := []) false rfl rfl (fun h => nomatch h) fun cdv A outer s H E hr => ?_
  exact (s_cons (fl1 := [.s, .s, .s]) (s_if (t_cmp or_lt (od_cmp (bw := true)) (e_varS 0) e_int) (s_one (s_ret (e_op2 or_add od_add e_int (e_op2 op_mod (od_mod (bw := true)) (e_callT call_int1 (cd_int (bw := true)) nb.int boot_int (a_cons (e_varS 1) a_nil)) (e_callB (call_min2 rfl) (cd_min (bw := true)) nb.min boot_min' (a_cons e_int (a_cons (e_varS 2) a_nil))))))) s_nil) (s_cons (fl1 := [.s, .s, .s]) (s_if (t_cmp or_lt (od_cmp (bw := true)) (e_varS 0) e_int) (s_one (s_ret (e_op2 or_add od_add e_int (e_op2 op_mod (od_mod (bw := true)) (e_callT call_int1 (cd_int (bw := true)) nb.int boot_int (a_cons (e_varS 1) a_nil)) (e_callB (call_min2 rfl) (cd_min (bw := true)) nb.min boot_min' (a_cons e_int (a_cons (e_varS 2) a_nil))))))) s_nil) (s_one (s_ret (e_op2 or_add od_add e_int (e_op2 op_mod (od_mod (bw := true)) (e_callT call_int1 (cd_int (bw := true)) nb.int boot_int (a_cons (e_varS 1) a_nil)) (e_varS 2)))))))
theorem sc_law_letter : FnScope ["number"] ["number"] (defScope st_law_letter) := ⟨rfl, rfl, rfl, by decide +kernel, rfl, by decide +kernel, by decide +kernel⟩
theorem ok_law_letter {f : Addr} {fd : FuncData} (F : Fun K "_law_letter" "_law_letter" st_law_letter f fd) (nb : Nb mg) :
    FnOk P w K mg base (L2.CX P w) 1 f fd ["number"] (spD ⟨K, ca, T⟩ .s 1 m_law_letter) := by
  refine fnD F sc_law_letter rfl (fl := [.s]) (fl' := [.s]) (rest := []) false rfl rfl (fun h => nomatch h) fun cdv A outer s H E hr => ?_
  exact (s_one (s_ret (e_ix (e_str zc3fcd3d7) (e_op2 op_mod (od_mod (bw := true)) (e_callT call_int1 (cd_int (bw := true)) nb.int boot_int (a_cons (e_varS 0) a_nil)) e_int))))
theorem sc_law_parts : FnScope ["rule"] ["rule"] (defScope st_law_parts) := ⟨rfl, rfl, rfl, by decide +kernel, rfl, by decide +kernel, by decide +kernel⟩
theorem ok_law_parts {f : Addr} {fd : FuncData} (F : Fun K "_law_parts" "_law_parts" st_law_parts f fd)  :
    FnOk P w K mg base (L2.CX P w) 1 f fd ["rule"] (spD ⟨K, ca, T⟩ (.l .s) 1 m_law_parts) := by
  refine fnD F sc_law_parts rfl (fl := [.s]) (fl' := [.s]) (rest := []) false rfl rfl (fun h => nomatch h) fun cdv A outer s H E hr => ?_
  exact (s_cons (fl1 := [.s]) (s_if (t_cmp (or_eq hr) (od_eq (bw := true) rfl) (e_ix (e_varS 0) e_int) (e_str z33c9b363)) (s_one (s_ret (e_lst (a_cons (e_ix (e_varS 0) e_int) (a_cons (e_ix (e_varS 0) e_int) a_nil))))) s_nil) (s_cons (fl1 := [.s]) (s_if (t_cmp (or_eq hr) (od_eq (bw := true) rfl) (e_ix (e_varS 0) e_int) (e_str z62cd2759)) (s_one (s_ret (e_lst (a_cons (e_ix (e_varS 0) e_int) a_nil)))) s_nil) (s_one (s_ret (e_lst a_nil)))))
theorem sc_law_lengths : FnScope ["rules", "sizes", "turn", "k", "rule", "known", "part"] ["rules"] (defScope st_law_lengths) := ⟨rfl, rfl, rfl, by decide +kernel, rfl, by decide +kernel, by decide +kernel⟩
theorem ok_law_lengths {f : Addr} {fd : FuncData} (F : Fun K "_law_lengths" "_law_lengths" st_law_lengths f fd) (nb : Nb mg) (c_law_parts : Cal P w K mg base ⟨K, ca, T⟩ "_law_parts" 1 (.l .s) 1 m_law_parts) :
    FnOk P w K mg base (L2.CX P w) 2 f fd ["rules"] (spD ⟨K, ca, T⟩ (.l .s) 1 m_law_lengths) := by
  refine fnD F sc_law_lengths rfl (fl := [.s, .l .s, .s, .s, .s, .s, .s]) (fl' := [.s, .l .s, .s, .s, .s, .s, .s]) (rest := [(.l .s), .s, .s, .s, .s, .s]) false rfl rfl (fun h => nomatch h) fun cdv A outer s H E hr => ?_
  exact (s_cons (fl1 := [.s, .l .s, .s, .s, .s, .s, .s]) (s_set 1 sc_law_lengths.nd (e_lc [("rule", 4)] sc_law_lengths.nd (i_seq (e_varS 0) gSq_ok) (by show blkC ["rules", "sizes", "turn", "k", "rule", "known", "part"] (defScope st_law_lengths) _ _ = true; decide +kernel) (fun _ _ _ _ _ => by exact (g_name 4 sc_law_lengths.nd)) (fun _ _ _ _ _ => by exact ts_nil) (fun _ _ _ _ _ => by exact e_non))) (s_cons (fl1 := [.s, .l .s, .s, .s, .s, .s, .s]) (s_for (passes_of rfl) (i_range1 nb.range (a_cons (e_callB call_len (cd_len (bw := true) rfl) nb.len PySem.boot_len (a_cons (e_varS 0) a_nil)) a_nil)) (g_name 2 sc_law_lengths.nd) (s_one (s_for (passes_of rfl) (i_range1 nb.range (a_cons (e_callB call_len (cd_len (bw := true) rfl) nb.len PySem.boot_len (a_cons (e_varS 0) a_nil)) a_nil)) (g_name 3 sc_law_lengths.nd) (s_cons (fl1 := [.s, .l .s, .s, .s, .s, .s, .s]) (s_setLcS 5 [("part", 6)] sc_law_lengths.nd (i_seq (e_frz (e_call c_law_parts hr (takes_of rfl rfl rfl rfl) (a_cons (e_ix (e_varS 0) (e_varS 3)) a_nil))) gSq_ok) (by show blkC ["rules", "sizes", "turn", "k", "rule", "known", "part"] (defScope st_law_lengths) _ _ = true; decide +kernel) (fun _ _ _ _ _ => by exact (g_name 6 sc_law_lengths.nd)) (fun _ _ _ _ _ => by exact ts_nil) (fun _ _ _ _ _ => by exact (e_ixO 1 (e_varS 6))) (sw_true rfl rfl rfl (by decide +kernel))) (s_one (s_if (t_cmp (or_notIn rfl) (od_notIn (bw := true)) e_non (e_varS 5)) (s_cons (fl1 := [.s, .l .s, .s, .s, .s, .s, .s]) (s_setix 1 e_int (e_varS 3)) (s_cons (fl1 := [.s, .l .s, .s, .s, .s, .s, .s]) (s_if (t_cmp (or_eq hr) (od_eq (bw := true) rfl) (e_ix (e_ix (e_varS 0) (e_varS 3)) e_int) (e_str z33c9b363)) (s_one (s_setix 1 (e_op2 or_add od_add (e_ix (e_varS 5) e_int) (e_ix (e_varS 5) e_int)) (e_varS 3))) s_nil) (s_one (s_if (t_cmp (or_eq hr) (od_eq (bw := true) rfl) (e_ix (e_ix (e_varS 0) (e_varS 3)) e_int) (e_str z62cd2759)) (s_one (s_setix 1 (e_op2 or_mul od_mul (e_ix (e_varS 5) e_int) (e_ix (e_ix (e_varS 0) (e_varS 3)) e_int)) (e_varS 3))) s_nil)))) s_nil)))))) (s_one (s_retO 1))))
theorem sc_law_rules : FnScope ["cell", "wild", "head", "told", "many", "parts", "rules", "k", "one", "left", "right", "times", "rule"] ["cell", "wild"] (defScope st_law_rules) := ⟨rfl, rfl, rfl, by decide +kernel, rfl, by decide +kernel, by decide +kernel⟩
theorem ok_law_rules {f : Addr} {fd : FuncData} (F : Fun K "_law_rules" "_law_rules" st_law_rules f fd) (nb : Nb mg) (c_law_draws : Cal P w K mg base ⟨K, ca, T⟩ "_law_draws" 1 .s 2 m_law_draws) (c_law_size : Cal P w K mg base ⟨K, ca, T⟩ "_law_size" 1 .s 3 m_law_size) (c_law_letter : Cal P w K mg base ⟨K, ca, T⟩ "_law_letter" 1 .s 1 m_law_letter) (c_law_lengths : Cal P w K mg base ⟨K, ca, T⟩ "_law_lengths" 2 (.l .s) 1 m_law_lengths) :
    FnOk P w K mg base (L2.CX P w) 3 f fd ["cell", "wild"] (spD ⟨K, ca, T⟩ .s 2 m_law_rules) := by
  refine fnD F sc_law_rules rfl (fl := [.s, .s, .s, .s, .s, .s, .l .s, .s, .s, .s, .s, .s, .s]) (fl' := [.s, .s, .s, .s, .s, .s, .s, .s, .s, .s, .s, .s, .s]) (rest := [.s, .s, .s, .s, (.l .s), .s, .s, .s, .s, .s, .s]) false rfl rfl (fun h => nomatch h) fun cdv A outer s H E hr => ?_
  exact (s_cons (fl1 := [.s, .s, .s, .s, .s, .s, .l .s, .s, .s, .s, .s, .s, .s]) (s_set 2 sc_law_rules.nd (e_frz (e_lst (a_cons e_int (a_cons e_int (a_cons e_int (a_cons e_int a_nil))))))) (s_cons (fl1 := [.s, .s, .s, .s, .s, .s, .l .s, .s, .s, .s, .s, .s, .s]) (s_set 3 sc_law_rules.nd (e_call c_law_draws hr (takes_of rfl rfl rfl rfl) (a_cons (e_varS 0) (a_cons (e_varS 2) a_nil)))) (s_cons (fl1 := [.s, .s, .s, .s, .s, .s, .l .s, .s, .s, .s, .s, .s, .s]) (s_set 4 sc_law_rules.nd (e_call c_law_size hr (takes_of rfl rfl rfl rfl) (a_cons (e_ix (e_varS 3) e_int) (a_cons (e_ix (e_varS 3) e_int) (a_cons e_int a_nil))))) (s_cons (fl1 := [.s, .s, .s, .s, .s, .s, .l .s, .s, .s, .s, .s, .s, .s]) (s_set 5 sc_law_rules.nd (e_sl (e_call c_law_draws hr (takes_of rfl rfl rfl rfl) (a_cons (e_varS 0) (a_cons (e_op2 or_add od_add (e_varS 2) (e_op2 or_mul od_mul (e_frz (e_lst (a_cons e_int (a_cons e_int (a_cons e_int (a_cons e_int (a_cons e_int a_nil))))))) (e_varS 4))) a_nil))) (o_some e_int) o_none)) (s_cons (fl1 := [.s, .s, .s, .s, .s, .s, .l .s, .s, .s, .s, .s, .s, .s]) (s_set 6 sc_law_rules.nd (e_lst a_nil)) (s_cons (fl1 := [.s, .s, .s, .s, .s, .s, .l .s, .s, .s, .s, .s, .s, .s]) (s_for (passes_of rfl) (i_range1 nb.range (a_cons (e_varS 4) a_nil)) (g_name 7 sc_law_rules.nd) (s_cons (fl1 := [.s, .s, .s, .s, .s, .s, .l .s, .s, .s, .s, .s, .s, .s]) (s_set 8 sc_law_rules.nd (e_sl (e_varS 5) (o_some (e_op2 or_mul od_mul e_int (e_varS 7))) (o_some (e_op2 or_add od_add (e_op2 or_mul od_mul e_int (e_varS 7)) e_int)))) (s_cons (fl1 := [.s, .s, .s, .s, .s, .s, .l .s, .s, .s, .s, .s, .s, .s]) (s_set 9 sc_law_rules.nd (e_op2 op_mod (od_mod (bw := true)) (e_callT call_int1 (cd_int (bw := true)) nb.int boot_int (a_cons (e_ix (e_varS 8) e_int) a_nil)) (e_varS 4))) (s_cons (fl1 := [.s, .s, .s, .s, .s, .s, .l .s, .s, .s, .s, .s, .s, .s]) (s_set 10 sc_law_rules.nd (e_op2 op_mod (od_mod (bw := true)) (e_callT call_int1 (cd_int (bw := true)) nb.int boot_int (a_cons (e_ix (e_varS 8) e_int) a_nil)) (e_varS 4))) (s_cons (fl1 := [.s, .s, .s, .s, .s, .s, .l .s, .s, .s, .s, .s, .s, .s]) (s_set 11 sc_law_rules.nd (e_ix (e_frz (e_lst (a_cons e_int (a_cons e_int (a_cons e_int (a_cons e_int (a_cons e_int a_nil))))))) (e_ix (e_varS 8) e_int))) (s_cons (fl1 := [.s, .s, .s, .s, .s, .s, .l .s, .s, .s, .s, .s, .s, .s]) (s_if (PW.pt (t_and2 (t_cmp or_gt (od_cmp (bw := true)) (e_varS 7) e_int) (t_and1 (PW.pt (t_or2 (t_not (t_tru (e_varS 1))) (t_or1 (t_cmp or_gt (od_cmp (bw := true)) (e_ix (e_varS 3) e_int) e_int))))))) (s_cons (fl1 := [.s, .s, .s, .s, .s, .s, .l .s, .s, .s, .s, .s, .s, .s]) (s_set 9 sc_law_rules.nd (e_op2 op_sub (od_sub (bw := true)) (e_op2 op_sub (od_sub (bw := true)) (e_varS 7) e_int) (e_op2 op_mod (od_mod (bw := true)) (e_callT call_int1 (cd_int (bw := true)) nb.int boot_int (a_cons (e_ix (e_varS 8) e_int) a_nil)) (e_callB (call_min2 rfl) (cd_min (bw := true)) nb.min boot_min' (a_cons (e_varS 7) (a_cons e_int a_nil)))))) (s_one (s_set 10 sc_law_rules.nd (e_op2 op_mod (od_mod (bw := true)) (e_callT call_int1 (cd_int (bw := true)) nb.int boot_int (a_cons (e_ix (e_varS 8) e_int) a_nil)) (e_varS 7))))) s_nil) (s_cons (fl1 := [.s, .s, .s, .s, .s, .s, .l .s, .s, .s, .s, .s, .s, .s]) (s_if (t_not (t_tru (e_varS 1))) (s_one (s_set 11 sc_law_rules.nd (e_op2 or_add od_add e_int (e_op2 op_mod (od_mod (bw := true)) (e_callT call_int1 (cd_int (bw := true)) nb.int boot_int (a_cons (e_ix (e_varS 8) e_int) a_nil)) e_int)))) s_nil) (s_cons (fl1 := [.s, .s, .s, .s, .s, .s, .l .s, .s, .s, .s, .s, .s, .s]) (s_set 12 sc_law_rules.nd (e_tup (a_cons (e_str zf5b75010) (a_cons (e_call c_law_letter hr (takes_of rfl rfl rfl rfl) (a_cons (e_op2 or_add od_add (e_ix (e_varS 3) e_int) (e_op2 or_mul od_mul (e_ix (e_varS 8) e_int) (e_op2 or_add od_add e_int (e_op2 or_mul od_mul e_int (e_callT call_int1 (cd_int (bw := true)) nb.int boot_int (a_cons (e_cmp (or_eq hr) (od_eq (bw := true) rfl) (e_ix (e_varS 3) e_int) e_int) a_nil)))))) a_nil)) a_nil)))) (s_cons (fl1 := [.s, .s, .s, .s, .s, .s, .l .s, .s, .s, .s, .s, .s, .s]) (s_if (PW.pt (t_and2 (t_cmp or_gt (od_cmp (bw := true)) (e_ix (e_varS 8) e_int) e_int) (t_and1 (PW.pt (t_or2 (t_tru (e_varS 1)) (t_or1 (t_cmp or_gt (od_cmp (bw := true)) (e_varS 7) e_int))))))) (s_one (s_set 12 sc_law_rules.nd (e_tup (a_cons (e_str z33c9b363) (a_cons (e_varS 9) (a_cons (e_varS 10) a_nil)))))) s_nil) (s_cons (fl1 := [.s, .s, .s, .s, .s, .s, .l .s, .s, .s, .s, .s, .s, .s]) (s_if (PW.pt (t_and2 (t_cmp (or_eq hr) (od_eq (bw := true) rfl) (e_ix (e_varS 8) e_int) e_int) (t_and1 (PW.pt (t_or2 (t_tru (e_varS 1)) (t_or1 (t_cmp or_gt (od_cmp (bw := true)) (e_varS 7) e_int))))))) (s_one (s_set 12 sc_law_rules.nd (e_tup (a_cons (e_str z62cd2759) (a_cons (e_varS 9) (a_cons (e_varS 11) a_nil)))))) s_nil) (s_cons (fl1 := [.s, .s, .s, .s, .s, .s, .l .s, .s, .s, .s, .s, .s, .s]) (s_if (t_brw (fl' := [.s, .s, .s, .s, .s, .s, .s, .s, .s, .s, .s, .s, .s]) (PW.pt (t_and2 (t_not (t_tru (e_varS 1))) (t_and1 (t_cmp or_gt (od_cmp (bw := true)) (e_ix (e_frz (e_call c_law_lengths hr (takes_of rfl rfl rfl rfl) (a_cons (e_op2 or_add od_add (e_varS 6) (e_frz (e_lst (a_cons (e_varS 12) a_nil)))) a_nil))) (e_varS 7)) e_int))))) (s_one (s_set 12 sc_law_rules.nd (e_tup (a_cons (e_str zf5b75010) (a_cons (e_call c_law_letter hr (takes_of rfl rfl rfl rfl) (a_cons (e_op2 or_add od_add (e_ix (e_varS 3) e_int) (e_ix (e_varS 8) e_int)) a_nil)) a_nil))))) s_nil) (s_one (s_append 6 (e_varS 12)))))))))))))) (ss_frz 6 (s_one (s_ret (e_varS 6))))))))))
theorem sc_law_wrong : FnScope ["rule", "many", "name"] ["rule", "many"] (defScope st_law_wrong) := ⟨rfl, rfl, rfl, by decide +kernel, rfl, by decide +kernel, by decide +kernel⟩
theorem ok_law_wrong {f : Addr} {fd : FuncData} (F : Fun K "_law_wrong" "_law_wrong" st_law_wrong f fd) (nb : Nb mg) (c_law_parts : Cal P w K mg base ⟨K, ca, T⟩ "_law_parts" 1 (.l .s) 1 m_law_parts) :
    FnOk P w K mg base (L2.CX P w) 2 f fd ["rule", "many"] (spD ⟨K, ca, T⟩ .s 2 m_law_wrong) := by
  refine fnD F sc_law_wrong rfl (fl := [.s, .s, .s]) (fl' := [.s, .s, .s]) (rest := [.s]) false rfl rfl (fun h => nomatch h) fun cdv A outer s H E hr => ?_
  exact (s_cons (fl1 := [.s, .s, .s]) (s_if (t_cmp (or_eq hr) (od_eq (bw := true) rfl) (e_ix (e_varS 0) e_int) (e_str zf5b75010)) (s_one (s_ret (e_or (e_cmp (or_ne hr) (od_ne (bw := true) rfl) (e_callB call_len (cd_len (bw := true) rfl) nb.len PySem.boot_len (a_cons (e_ix (e_varS 0) e_int) a_nil)) e_int) (e_one (e_cmp (or_notIn rfl) (od_notIn (bw := true)) (e_ix (e_varS 0) e_int) (e_str zc3fcd3d7)))))) s_nil) (s_cons (fl1 := [.s, .s, .s]) (s_if (PW.pt (t_and2 (t_cmp (or_eq hr) (od_eq (bw := true) rfl) (e_ix (e_varS 0) e_int) (e_str z62cd2759)) (t_and1 (PW.pt (t_or2 (t_cmp or_lt (od_cmp (bw := true)) (e_ix (e_varS 0) e_int) e_int) (t_or1 (t_cmp or_gt (od_cmp (bw := true)) (e_ix (e_varS 0) e_int) e_int))))))) (s_one (s_ret e_bl)) s_nil) (s_one (s_ret (e_cmp or_gt (od_cmp (bw := true)) (e_callB call_len (cd_len (bw := true) rfl) nb.len PySem.boot_len (a_cons (e_frz (e_lc [("name", 2)] sc_law_wrong.nd (i_seq (e_frz (e_call c_law_parts hr (takes_of rfl rfl rfl rfl) (a_cons (e_varS 0) a_nil))) gSq_ok) (by show blkC ["rule", "many", "name"] (defScope st_law_wrong) _ _ = true; decide +kernel) (fun _ _ _ _ _ => by exact (g_name 2 sc_law_wrong.nd)) (fun _ _ _ _ _ => by exact (ts_one (PW.pt (t_or2 (t_cmp or_lt (od_cmp (bw := true)) (e_varS 2) e_int) (t_or1 (t_cmp or_ge (od_cmp (bw := true)) (e_varS 2) (e_varS 1))))))) (fun _ _ _ _ _ => by exact (e_varS 2)))) a_nil)) e_int)))))
theorem sc_law_mended : FnScope ["rules", "out", "rule"] ["rules"] (defScope st_law_mended) := ⟨rfl, rfl, rfl, by decide +kernel, rfl, by decide +kernel, by decide +kernel⟩
theorem ok_law_mended {f : Addr} {fd : FuncData} (F : Fun K "_law_mended" "_law_mended" st_law_mended f fd) (nb : Nb mg) (c_law_wrong : Cal P w K mg base ⟨K, ca, T⟩ "_law_wrong" 2 .s 2 m_law_wrong) :
    FnOk P w K mg base (L2.CX P w) 3 f fd ["rules"] (spD ⟨K, ca, T⟩ .s 1 m_law_mended) := by
  refine fnD F sc_law_mended rfl (fl := [.s, .l .s, .s]) (fl' := [.s, .s, .s]) (rest := [(.l .s), .s]) false rfl rfl (fun h => nomatch h) fun cdv A outer s H E hr => ?_
  exact (s_cons (fl1 := [.s, .l .s, .s]) (s_set 1 sc_law_mended.nd (e_lst a_nil)) (s_cons (fl1 := [.s, .l .s, .s]) (s_for (passes_of rfl) (i_seq (e_sl (e_varS 0) o_none (o_some e_int)) gSq_ok) (g_name 2 sc_law_mended.nd) (s_one (s_if (t_val (e_call c_law_wrong hr (takes_of rfl rfl rfl rfl) (a_cons (e_varS 2) (a_cons (e_callB call_len (cd_len (bw := true) rfl) nb.len PySem.boot_len (a_cons (e_varS 0) a_nil)) a_nil)))) (s_one (s_append 1 (e_tup (a_cons (e_str zf5b75010) (a_cons (e_str [97]) a_nil))))) (s_one (s_append 1 (e_varS 2)))))) (s_cons (fl1 := [.s, .l .s, .s]) (s_if (t_cmp (or_eq hr) (od_eq (bw := true) rfl) (e_callB call_len (cd_len (bw := true) rfl) nb.len PySem.boot_len (a_cons (e_var 1) a_nil)) e_int) (s_one (s_append 1 (e_tup (a_cons (e_str zf5b75010) (a_cons (e_str [122]) a_nil))))) s_nil) (ss_frz 1 (s_one (s_ret (e_varS 1)))))))
theorem sc_law_cell : FnScope ["script", "k"] ["script", "k"] (defScope st_law_cell) := ⟨rfl, rfl, rfl, by decide +kernel, rfl, by decide +kernel, by decide +kernel⟩
theorem ok_law_cell {f : Addr} {fd : FuncData} (F : Fun K "_law_cell" "_law_cell" st_law_cell f fd) (nb : Nb mg) :
    FnOk P w K mg base (L2.CX P w) 1 f fd ["script", "k"] (spD ⟨K, ca, T⟩ .s 2 m_law_cell) := by
  refine fnD F sc_law_cell rfl (fl := [.s, .s]) (fl' := [.s, .s]) (rest := []) false rfl rfl (fun h => nomatch h) fun cdv A outer s H E hr => ?_
  exact (s_cons (fl1 := [.s, .s]) (s_if (t_cmp or_lt (od_cmp (bw := true)) (e_varS 1) (e_callB call_len (cd_len (bw := true) rfl) nb.len PySem.boot_len (a_cons (e_varS 0) a_nil))) (s_one (s_ret (e_ix (e_varS 0) (e_varS 1)))) s_nil) (s_one (s_ret e_int)))
theorem sc_law_each : FnScope ["script", "many", "rules", "k", "one", "rule"] ["script", "many"] (defScope st_law_each) := ⟨rfl, rfl, rfl, by decide +kernel, rfl, by decide +kernel, by decide +kernel⟩
theorem ok_law_each {f : Addr} {fd : FuncData} (F : Fun K "_law_each" "_law_each" st_law_each f fd) (nb : Nb mg) (c_law_draws : Cal P w K mg base ⟨K, ca, T⟩ "_law_draws" 1 .s 2 m_law_draws) (c_law_letter : Cal P w K mg base ⟨K, ca, T⟩ "_law_letter" 1 .s 1 m_law_letter) (c_law_cell : Cal P w K mg base ⟨K, ca, T⟩ "_law_cell" 1 .s 2 m_law_cell) :
    FnOk P w K mg base (L2.CX P w) 2 f fd ["script", "many"] (spD ⟨K, ca, T⟩ .s 2 m_law_each) := by
  refine fnD F sc_law_each rfl (fl := [.s, .s, .l .s, .s, .s, .s]) (fl' := [.s, .s, .s, .s, .s, .s]) (rest := [(.l .s), .s, .s, .s]) false rfl rfl (fun h => nomatch h) fun cdv A outer s H E hr => ?_
  exact (s_cons (fl1 := [.s, .s, .l .s, .s, .s, .s]) (s_set 2 sc_law_each.nd (e_lst a_nil)) (s_cons (fl1 := [.s, .s, .l .s, .s, .s, .s]) (s_for (passes_of rfl) (i_range1 nb.range (a_cons (e_varS 1) a_nil)) (g_name 3 sc_law_each.nd) (s_cons (fl1 := [.s, .s, .l .s, .s, .s, .s]) (s_set 4 sc_law_each.nd (e_call c_law_draws hr (takes_of rfl rfl rfl rfl) (a_cons (e_op2 or_add od_add (e_call c_law_cell hr (takes_of rfl rfl rfl rfl) (a_cons (e_varS 0) (a_cons (e_op2 or_add od_add e_int (e_varS 3)) a_nil))) (e_varS 3)) (a_cons (e_frz (e_lst (a_cons e_int (a_cons e_int (a_cons (e_varS 1) (a_cons (e_varS 1) (a_cons e_int a_nil))))))) a_nil)))) (s_cons (fl1 := [.s, .s, .l .s, .s, .s, .s]) (s_set 5 sc_law_each.nd (e_tup (a_cons (e_str zf5b75010) (a_cons (e_call c_law_letter hr (takes_of rfl rfl rfl rfl) (a_cons (e_ix (e_varS 4) e_int) a_nil)) a_nil)))) (s_cons (fl1 := [.s, .s, .l .s, .s, .s, .s]) (s_if (t_cmp or_gt (od_cmp (bw := true)) (e_ix (e_varS 4) e_int) e_int) (s_one (s_set 5 sc_law_each.nd (e_tup (a_cons (e_str z33c9b363) (a_cons (e_ix (e_varS 4) e_int) (a_cons (e_ix (e_varS 4) e_int) a_nil)))))) s_nil) (s_cons (fl1 := [.s, .s, .l .s, .s, .s, .s]) (s_if (t_cmp (or_eq hr) (od_eq (bw := true) rfl) (e_ix (e_varS 4) e_int) e_int) (s_one (s_set 5 sc_law_each.nd (e_tup (a_cons (e_str z62cd2759) (a_cons (e_ix (e_varS 4) e_int) (a_cons (e_op2 or_add od_add e_int (e_ix (e_varS 4) e_int)) a_nil)))))) s_nil) (s_one (s_append 2 (e_varS 5)))))))) (ss_frz 2 (s_one (s_ret (e_varS 2))))))
theorem sc_law_sign : FnScope ["number", "signs"] ["number"] (defScope st_law_sign) := ⟨rfl, rfl, rfl, by decide +kernel, rfl, by decide +kernel, by decide +kernel⟩
theorem ok_law_sign {f : Addr} {fd : FuncData} (F : Fun K "_law_sign" "_law_sign" st_law_sign f fd) (nb : Nb mg) :
    FnOk P w K mg base (L2.CX P w) 1 f fd ["number"] (spD ⟨K, ca, T⟩ .s 1 m_law_sign) := by
  refine fnD F sc_law_sign rfl (fl := [.s, .s]) (fl' := [.s, .s]) (rest := [.s]) false rfl rfl (fun h => nomatch h) fun cdv A outer s H E hr => ?_
  exact (s_cons (fl1 := [.s, .s]) (s_set 1 sc_law_sign.nd (e_str z7109b8bd)) (s_cons (fl1 := [.s, .s]) (s_set 1 sc_law_sign.nd (e_op2 or_add od_add (e_varS 1) (e_str zb9801bfe))) (s_one (s_ret (e_ix (e_varS 1) (e_op2 op_mod (od_mod (bw := true)) (e_callT call_int1 (cd_int (bw := true)) nb.int boot_int (a_cons (e_varS 0) a_nil)) e_int))))))
theorem sc_law_spoilt : FnScope ["rules", "cell", "many", "drawn", "near", "times", "letter", "sign", "rule"] ["rules", "cell"] (defScope st_law_spoilt) := ⟨rfl, rfl, rfl, by decide +kernel, rfl, by decide +kernel, by decide +kernel⟩
theorem ok_law_spoilt {f : Addr} {fd : FuncData} (F : Fun K "_law_spoilt" "_law_spoilt" st_law_spoilt f fd) (nb : Nb mg) (c_law_draws : Cal P w K mg base ⟨K, ca, T⟩ "_law_draws" 1 .s 2 m_law_draws) (c_law_letter : Cal P w K mg base ⟨K, ca, T⟩ "_law_letter" 1 .s 1 m_law_letter) (c_law_sign : Cal P w K mg base ⟨K, ca, T⟩ "_law_sign" 1 .s 1 m_law_sign) :
    FnOk P w K mg base (L2.CX P w) 2 f fd ["rules", "cell"] (spD ⟨K, ca, T⟩ .s 2 m_law_spoilt) := by
  refine fnD F sc_law_spoilt rfl (fl := [.s, .s, .s, .s, .s, .s, .s, .s, .s]) (fl' := [.s, .s, .s, .s, .s, .s, .s, .s, .s]) (rest := [.s, .s, .s, .s, .s, .s, .s]) false rfl rfl (fun h => nomatch h) fun cdv A outer s H E hr => ?_
  exact (s_cons (fl1 := [.s, .s, .s, .s, .s, .s, .s, .s, .s]) (s_set 2 sc_law_spoilt.nd (e_callB call_len (cd_len (bw := true) rfl) nb.len PySem.boot_len (a_cons (e_varS 0) a_nil))) (s_cons (fl1 := [.s, .s, .s, .s, .s, .s, .s, .s, .s]) (s_if (t_cmp (or_eq hr) (od_eq (bw := true) rfl) (e_varS 2) e_int) (s_one (s_ret (e_frz (e_lst a_nil)))) s_nil) (s_cons (fl1 := [.s, .s, .s, .s, .s, .s, .s, .s, .s]) (s_set 3 sc_law_spoilt.nd (e_call c_law_draws hr (takes_of rfl rfl rfl rfl) (a_cons (e_varS 1) (a_cons (e_frz (e_lst (a_cons (e_varS 2) (a_cons e_int (a_cons e_int (a_cons e_int (a_cons e_int (a_cons e_int (a_cons e_int (a_cons e_int (a_cons e_int a_nil))))))))))) a_nil)))) (s_cons (fl1 := [.s, .s, .s, .s, .s, .s, .s, .s, .s]) (s_set 4 sc_law_spoilt.nd (e_frz (e_lst (a_cons e_int (a_cons (e_op2 op_sub (od_sub (bw := true)) (e_varS 2) e_int) (a_cons (e_ix (e_varS 3) e_int) (a_cons (e_op2 op_fdivW (od_div (bw := true)) (e_varS 2) e_int) (a_cons (e_op2 op_mod (od_mod (bw := true)) (e_callT call_int1 (cd_int (bw := true)) nb.int boot_int (a_cons (e_ix (e_varS 3) e_int) a_nil)) (e_varS 2)) (a_cons (e_varS 2) (a_cons (e_neg e_int) (a_cons (e_op2 or_add od_add (e_varS 2) e_int) (a_cons (e_op2 op_pow (od_pow (bw := true)) e_int e_int) (a_cons (e_op2 op_sub (od_sub (bw := true)) (e_neg e_int) (e_ix (e_varS 3) e_int)) a_nil))))))))))))) (s_cons (fl1 := [.s, .s, .s, .s, .s, .s, .s, .s, .s]) (s_set 5 sc_law_spoilt.nd (e_frz (e_lst (a_cons e_int (a_cons e_int (a_cons e_int (a_cons (e_op2 or_add od_add e_int (e_op2 op_mod (od_mod (bw := true)) (e_callT call_int1 (cd_int (bw := true)) nb.int boot_int (a_cons (e_ix (e_varS 3) e_int) a_nil)) e_int)) (a_cons e_int (a_cons e_int (a_cons e_int (a_cons (e_op2 op_sub (od_sub (bw := true)) (e_neg e_int) (e_ix (e_varS 3) e_int)) (a_cons e_int (a_cons e_int a_nil))))))))))))) (s_cons (fl1 := [.s, .s, .s, .s, .s, .s, .s, .s, .s]) (s_set 6 sc_law_spoilt.nd (e_call c_law_letter hr (takes_of rfl rfl rfl rfl) (a_cons (e_ix (e_varS 3) e_int) a_nil))) (s_cons (fl1 := [.s, .s, .s, .s, .s, .s, .s, .s, .s]) (s_set 7 sc_law_spoilt.nd (e_call c_law_sign hr (takes_of rfl rfl rfl rfl) (a_cons (e_ix (e_varS 3) e_int) a_nil))) (s_cons (fl1 := [.s, .s, .s, .s, .s, .s, .s, .s, .s]) (s_set 8 sc_law_spoilt.nd (e_tup (a_cons (e_str zf5b75010) (a_cons (e_ix (e_frz (e_lst (a_cons (e_str []) (a_cons (e_varS 7) (a_cons (e_op2 or_add od_add (e_varS 6) (e_varS 7)) (a_cons (e_op2 or_add od_add (e_varS 7) (e_varS 6)) (a_cons (e_op2 or_add od_add (e_varS 6) (e_varS 6)) (a_cons (e_varS 6) a_nil)))))))) (e_ix (e_varS 3) e_int)) a_nil)))) (s_cons (fl1 := [.s, .s, .s, .s, .s, .s, .s, .s, .s]) (s_if (t_cmp (or_eq hr) (od_eq (bw := true) rfl) (e_ix (e_varS 3) e_int) e_int) (s_one (s_set 8 sc_law_spoilt.nd (e_tup (a_cons (e_str z33c9b363) (a_cons (e_ix (e_varS 4) (e_ix (e_varS 3) e_int)) (a_cons (e_ix (e_varS 4) (e_ix (e_varS 3) e_int)) a_nil)))))) s_nil) (s_cons (fl1 := [.s, .s, .s, .s, .s, .s, .s, .s, .s]) (s_if (t_cmp (or_eq hr) (od_eq (bw := true) rfl) (e_ix (e_varS 3) e_int) e_int) (s_one (s_set 8 sc_law_spoilt.nd (e_tup (a_cons (e_str z62cd2759) (a_cons (e_ix (e_varS 4) (e_op2 op_mod (od_mod (bw := true)) (e_callT call_int1 (cd_int (bw := true)) nb.int boot_int (a_cons (e_ix (e_varS 3) e_int) a_nil)) e_int)) (a_cons (e_ix (e_varS 5) (e_ix (e_varS 3) e_int)) a_nil)))))) s_nil) (s_one (s_ret (e_op2 or_add od_add (e_op2 or_add od_add (e_sl (e_varS 0) o_none (o_some (e_ix (e_varS 3) e_int))) (e_frz (e_lst (a_cons (e_varS 8) a_nil)))) (e_sl (e_varS 0) (o_some (e_op2 or_add od_add (e_ix (e_varS 3) e_int) e_int)) o_none))))))))))))))
theorem sc_parts_of : FnScope ["rule"] ["rule"] (defScope st_parts_of) := ⟨rfl, rfl, rfl, by decide +kernel, rfl, by decide +kernel, by decide +kernel⟩
theorem ok_parts_of {f : Addr} {fd : FuncData} (F : Fun K "parts_of" "parts_of" st_parts_of f fd)  :
    FnOk P w K mg base (L2.CX P w) 1 f fd ["rule"] (spD ⟨K, ca, T⟩ (.l .s) 1 m_parts_of) := by
  refine fnD F sc_parts_of rfl (fl := [.s]) (fl' := [.s]) (rest := []) false rfl rfl (fun h => nomatch h) fun cdv A outer s H E hr => ?_
  exact (s_cons (fl1 := [.s]) (s_if (t_cmp (or_eq hr) (od_eq (bw := true) rfl) (e_ix (e_varS 0) e_int) (e_str zf5b75010)) (s_one (s_ret (e_lst a_nil))) s_nil) (s_cons (fl1 := [.s]) (s_if (t_cmp (or_eq hr) (od_eq (bw := true) rfl) (e_ix (e_varS 0) e_int) (e_str z33c9b363)) (s_one (s_ret (e_lst (a_cons (e_ix (e_varS 0) e_int) (a_cons (e_ix (e_varS 0) e_int) a_nil))))) s_nil) (s_one (s_ret (e_lst (a_cons (e_ix (e_varS 0) e_int) a_nil))))))
theorem sc_is_letter : FnScope ["sign"] ["sign"] (defScope st_is_letter) := ⟨rfl, rfl, rfl, by decide +kernel, rfl, by decide +kernel, by decide +kernel⟩
theorem ok_is_letter {f : Addr} {fd : FuncData} (F : Fun K "is_letter" "is_letter" st_is_letter f fd) (nb : Nb mg) :
    FnOk P w K mg base (L2.CX P w) 1 f fd ["sign"] (spD ⟨K, ca, T⟩ .s 1 m_is_letter) := by
  refine fnD F sc_is_letter rfl (fl := [.s]) (fl' := [.s]) (rest := []) false rfl rfl (fun h => nomatch h) fun cdv A outer s H E hr => ?_
  exact (s_one (s_ret (e_and (e_cmp (or_eq hr) (od_eq (bw := true) rfl) (e_callB call_len (cd_len (bw := true) rfl) nb.len PySem.boot_len (a_cons (e_varS 0) a_nil)) e_int) (e_one (e_cmp (or_in rfl) (od_in (bw := true)) (e_varS 0) (e_gs nb.cLETTERS))))))
theorem sc_is_valid_rule : FnScope ["rule", "count", "name"] ["rule", "count"] (defScope st_is_valid_rule) := ⟨rfl, rfl, rfl, by decide +kernel, rfl, by decide +kernel, by decide +kernel⟩
theorem ok_is_valid_rule {f : Addr} {fd : FuncData} (F : Fun K "is_valid_rule" "is_valid_rule" st_is_valid_rule f fd) (nb : Nb mg) (c_parts_of : Cal P w K mg base ⟨K, ca, T⟩ "parts_of" 1 (.l .s) 1 m_parts_of) (c_is_letter : Cal P w K mg base ⟨K, ca, T⟩ "is_letter" 1 .s 1 m_is_letter) :
    FnOk P w K mg base (L2.CX P w) 2 f fd ["rule", "count"] (spD ⟨K, ca, T⟩ .s 2 m_is_valid_rule) := by
  refine fnD F sc_is_valid_rule rfl (fl := [.s, .s, .s]) (fl' := [.s, .s, .s]) (rest := [.s]) false rfl rfl (fun h => nomatch h) fun cdv A outer s H E hr => ?_
  exact (s_cons (fl1 := [.s, .s, .s]) (s_if (t_cmp (or_eq hr) (od_eq (bw := true) rfl) (e_ix (e_varS 0) e_int) (e_str zf5b75010)) (s_one (s_ret (e_call c_is_letter hr (takes_of rfl rfl rfl rfl) (a_cons (e_ix (e_varS 0) e_int) a_nil)))) s_nil) (s_cons (fl1 := [.s, .s, .s]) (s_for (passes_of rfl) (i_seq (e_frz (e_call c_parts_of hr (takes_of rfl rfl rfl rfl) (a_cons (e_varS 0) a_nil))) gSq_ok) (g_name 2 sc_is_valid_rule.nd) (s_one (s_if (t_not (t_chainT or_le (od_cmp (bw := true)) or_lt (od_cmp (bw := true)) e_int (e_varS 2) (e_varS 1))) (s_one (s_ret e_bl)) s_nil))) (s_one (s_ret (e_or (e_cmp (or_eq hr) (od_eq (bw := true) rfl) (e_ix (e_varS 0) e_int) (e_str z33c9b363)) (e_one (e_chain or_le (od_cmp (bw := true)) or_le (od_cmp (bw := true)) e_int (e_ix (e_varS 0) e_int) (e_gi nb.cMOST_TIMES))))))))
theorem sc_check_rules : FnScope ["rules", "index", "rule"] ["rules"] (defScope st_check_rules) := ⟨rfl, rfl, rfl, by decide +kernel, rfl, by decide +kernel, by decide +kernel⟩
theorem ok_check_rules {f : Addr} {fd : FuncData} (F : Fun K "check_rules" "check_rules" st_check_rules f fd) (nb : Nb mg) (xcTooLong : Xcl K mg ⟨K, ca, T⟩ "TooLong") (xrBadPress : XcF P w K mg base ⟨K, ca, T⟩ 1 "BadPress" "index") (c_is_valid_rule : Cal P w K mg base ⟨K, ca, T⟩ "is_valid_rule" 2 .s 2 m_is_valid_rule) :
    FnOk P w K mg base (L2.CX P w) 3 f fd ["rules"] (spD ⟨K, ca, T⟩ .s 1 m_check_rules) := by
  refine fnD F sc_check_rules rfl (fl := [.s, .s, .s]) (fl' := [.s, .s, .s]) (rest := [.s, .s]) true rfl rfl (fun _ => rfl) fun cdv A outer s H E hr => ?_
  exact (s_cons (fl1 := [.s, .s, .s]) (s_if (t_cmp (or_eq hr) (od_eq (bw := true) rfl) (e_callB call_len (cd_len (bw := true) rfl) nb.len PySem.boot_len (a_cons (e_varS 0) a_nil)) e_int) (s_one (s_raiseF xrBadPress hr (takes_of rfl rfl rfl rfl) e_int)) s_nil) (s_cons (fl1 := [.s, .s, .s]) (s_if (t_cmp or_gt (od_cmp (bw := true)) (e_callB call_len (cd_len (bw := true) rfl) nb.len PySem.boot_len (a_cons (e_varS 0) a_nil)) (e_gi nb.cMOST_RULES)) (s_one (s_raiseFs xcTooLong nb.cMOST_RULES (takes_of rfl rfl rfl rfl) (by decide +kernel) (Nat.le_of_ble_eq_true rfl) (Nat.le_of_ble_eq_true rfl) (Nat.le_of_ble_eq_true rfl))) s_nil) (s_one (s_for (passes_of rfl) (i_enumK nb.enumerate (e_varS 0)) (g_tup 2 (gs_lenS (gs_lenS gs_len0)) (gs_cons (g_name 1 sc_check_rules.nd) (gs_cons (g_name 2 sc_check_rules.nd) gs_nil))) (s_one (s_if (t_not (t_tru (e_toB (e_call c_is_valid_rule hr (takes_of rfl rfl rfl rfl) (a_cons (e_varS 2) (a_cons (e_callB call_len (cd_len (bw := true) rfl) nb.len PySem.boot_len (a_cons (e_varS 0) a_nil)) a_nil)))))) (s_one (s_raiseF xrBadPress hr (takes_of rfl rfl rfl rfl) (e_varS 1))) s_nil))))))
theorem sc_Rules_init : FnScope ["self", "rules"] ["self", "rules"] (defScope st_Rules_init) := ⟨rfl, rfl, rfl, by decide +kernel, rfl, by decide +kernel, by decide +kernel⟩
theorem ok_Rules_init {f : Addr} {fd : FuncData} (F : Fun K "__init__" "Rules.__init__" st_Rules_init f fd) (nb : Nb mg) (fd_Rules_rules : FldC K "Rules" "rules") (c_check_rules : Cal P w K mg base ⟨K, ca, T⟩ "check_rules" 3 .s 1 m_check_rules) :
    FnOk P w K mg base (L2.CX P w) 4 f fd ["self", "rules"] (spI ⟨K, ca, T⟩ "Rules" ["rules"] 1 m_Rules_init) := by
  refine fnI (fl := [.s]) (fl' := [.s]) (rest := []) F sc_Rules_init rfl rfl rfl rfl fun y C dx hcn cdv A outer s H E hr => ?_
  exact (s_cons (fl1 := [.i y C dx, .s]) (s_expr (e_call c_check_rules hr (takes_of rfl rfl rfl rfl) (a_cons (e_varS 1) a_nil))) (s_one (s_fldI 0 fd_Rules_rules hcn (e_callT call_tuple_of (cd_tup rfl) nb.tuple boot_tuple (a_cons (e_varS 1) a_nil)))))
theorem sc_law_try : FnScope ["rules", "e", "base", "odd"] ["rules"] (defScope st_law_try) := ⟨rfl, rfl, rfl, by decide +kernel, rfl, by decide +kernel, by decide +kernel⟩
theorem ok_law_try {f : Addr} {fd : FuncData} (F : Fun K "_law_try" "_law_try" st_law_try f fd) (nb : Nb mg) (ka0 : PySem.W.kitAny K (.ref (ca "BadPress")) ([ca "BadText", ca "BadPlaces", ca "BadCount", ca "TooLong", ca "TooShort", ca "NoText", ca "BadPaper", ca "BadLine", ca "NotARoot", ca "DeskError"].map Value.ref) = some false) (ka1 : PySem.W.kitAny K (.ref (ca "TooLong")) ([ca "BadText", ca "BadPlaces", ca "BadCount", ca "TooShort", ca "NoText", ca "BadPress", ca "BadPaper", ca "BadLine", ca "NotARoot", ca "DeskError"].map Value.ref) = some false) (kbBadPress_ValueError : PySem.W.kitOne K (.ref (ca "BadPress")) (.type "ValueError") = some true) (kbTooLong_ValueError : PySem.W.kitOne K (.ref (ca "TooLong")) (.type "ValueError") = some true) (xhBadPress : XH K mg ⟨K, ca, T⟩ "BadPress") (xhTooLong : XH K mg ⟨K, ca, T⟩ "TooLong") (xkBadPress_BadCount : XK K mg ⟨K, ca, T⟩ "BadPress" "BadCount" false) (xkBadPress_BadLine : XK K mg ⟨K, ca, T⟩ "BadPress" "BadLine" false) (xkBadPress_BadPaper : XK K mg ⟨K, ca, T⟩ "BadPress" "BadPaper" false) (xkBadPress_BadPlaces : XK K mg ⟨K, ca, T⟩ "BadPress" "BadPlaces" false) (xkBadPress_BadText : XK K mg ⟨K, ca, T⟩ "BadPress" "BadText" false) (xkBadPress_DeskError : XK K mg ⟨K, ca, T⟩ "BadPress" "DeskError" false) (xkBadPress_NoText : XK K mg ⟨K, ca, T⟩ "BadPress" "NoText" false) (xkBadPress_NotARoot : XK K mg ⟨K, ca, T⟩ "BadPress" "NotARoot" false) (xkBadPress_PressError : XK K mg ⟨K, ca, T⟩ "BadPress" "PressError" true) (xkBadPress_TooLong : XK K mg ⟨K, ca, T⟩ "BadPress" "TooLong" false) (xkBadPress_TooShort : XK K mg ⟨K, ca, T⟩ "BadPress" "TooShort" false) (xkTooLong_BadCount : XK K mg ⟨K, ca, T⟩ "TooLong" "BadCount" false) (xkTooLong_BadLine : XK K mg ⟨K, ca, T⟩ "TooLong" "BadLine" false) (xkTooLong_BadPaper : XK K mg ⟨K, ca, T⟩ "TooLong" "BadPaper" false) (xkTooLong_BadPlaces : XK K mg ⟨K, ca, T⟩ "TooLong" "BadPlaces" false) (xkTooLong_BadPress : XK K mg ⟨K, ca, T⟩ "TooLong" "BadPress" false) (xkTooLong_BadText : XK K mg ⟨K, ca, T⟩ "TooLong" "BadText" false) (xkTooLong_DeskError : XK K mg ⟨K, ca, T⟩ "TooLong" "DeskError" false) (xkTooLong_NoText : XK K mg ⟨K, ca, T⟩ "TooLong" "NoText" false) (xkTooLong_NotARoot : XK K mg ⟨K, ca, T⟩ "TooLong" "NotARoot" false) (xkTooLong_PressError : XK K mg ⟨K, ca, T⟩ "TooLong" "PressError" true) (xkTooLong_TooShort : XK K mg ⟨K, ca, T⟩ "TooLong" "TooShort" false) (xlBadPress_index : XfL K ⟨K, ca, T⟩ "BadPress" "index") (xnBadPress_TooLong : PySem.W.exmOne K (.ref (ca "BadPress")) (.ref (ca "TooLong")) = some false) (xnTooLong_BadPress : PySem.W.exmOne K (.ref (ca "TooLong")) (.ref (ca "BadPress")) = some false) (mk_Rules : MkC P w K mg base ⟨K, ca, T⟩ "Rules" 4 ["rules"] 1 m_Rules_init) :
    FnOk P w K mg base (L2.CX P w) 6 f fd ["rules"] (spD ⟨K, ca, T⟩ .s 1 m_law_try) := by
  refine fnD F sc_law_try rfl (fl := [.s, .s, .s, .s]) (fl' := [.s, .s, .s, .s]) (rest := [.s, .s, .s]) false rfl rfl (fun h => nomatch h) fun cdv A outer s H E hr => ?_
  exact (s_one (s_tryF sc_law_try.nd (takes_of rfl rfl rfl rfl) (fun W2 pn xe tkB hpo => by exact (s_one (s_ret (e_tup (a_cons (e_str za336b5d4) (a_cons (e_make mk_Rules hr tkB (a_cons (e_varS 0) a_nil)) a_nil)))))) (Cls3.cons (flE := fun a eo => [.s, .x (.ref a) eo, .s, .s]) rfl (by decide) xhBadPress.m (tblL_ok xhBadPress.x (nl_cons xnTooLong_BadPress nl_nil)) ⟨rfl, rfl⟩ (fun _ _ => rfl) (fun a oe pn d eo fs hz hv heo => by exact (s_cons (fl1 := [.s, .x (.ref a) eo, .s, .s]) (s_set 2 sc_law_try.nd (e_and (e_isF 1 xhBadPress.e xkBadPress_PressError hz hv heo nb.isinstance) (e_one (e_isFb 1 xhBadPress.e nb.ValueError boot_ValueError kbBadPress_ValueError hz hv heo nb.isinstance)))) (s_cons (fl1 := [.s, .x (.ref a) eo, .s, .s]) (s_set 3 sc_law_try.nd (e_isFT 1 xhBadPress.e (Clss.cons xkBadPress_BadText.g rfl (by decide) (Clss.cons xkBadPress_BadPlaces.g rfl (by decide) (Clss.cons xkBadPress_BadCount.g rfl (by decide) (Clss.cons xkBadPress_TooLong.g rfl (by decide) (Clss.cons xkBadPress_TooShort.g rfl (by decide) (Clss.cons xkBadPress_NoText.g rfl (by decide) (Clss.cons xkBadPress_BadPaper.g rfl (by decide) (Clss.cons xkBadPress_BadLine.g rfl (by decide) (Clss.cons xkBadPress_NotARoot.g rfl (by decide) (Clss.cons xkBadPress_DeskError.g rfl (by decide) Clss.nil rfl) rfl) rfl) rfl) rfl) rfl) rfl) rfl) rfl) rfl) ka0 (Nat.le_of_ble_eq_true rfl) hz hv heo nb.isinstance)) (s_one (s_ret (e_tup (a_cons (e_str zbf713652) (a_cons (e_xf 1 xlBadPress_index hz hv heo) (a_cons (e_and (e_varS 2) (e_one (e_not (e_varS 3)))) a_nil))))))))) (Cls3.cons (flE := fun a eo => [.s, .x (.ref a) eo, .s, .s]) rfl (by decide) xhTooLong.m (tblL_ok xhTooLong.x (nl_cons xnBadPress_TooLong nl_nil)) ⟨rfl, rfl⟩ (fun _ _ => rfl) (fun a oe pn d eo fs hz hv heo => by exact (s_cons (fl1 := [.s, .x (.ref a) eo, .s, .s]) (s_set 2 sc_law_try.nd (e_and (e_isF 1 xhTooLong.e xkTooLong_PressError hz hv heo nb.isinstance) (e_one (e_isFb 1 xhTooLong.e nb.ValueError boot_ValueError kbTooLong_ValueError hz hv heo nb.isinstance)))) (s_cons (fl1 := [.s, .x (.ref a) eo, .s, .s]) (s_set 3 sc_law_try.nd (e_isFT 1 xhTooLong.e (Clss.cons xkTooLong_BadText.g rfl (by decide) (Clss.cons xkTooLong_BadPlaces.g rfl (by decide) (Clss.cons xkTooLong_BadCount.g rfl (by decide) (Clss.cons xkTooLong_TooShort.g rfl (by decide) (Clss.cons xkTooLong_NoText.g rfl (by decide) (Clss.cons xkTooLong_BadPress.g rfl (by decide) (Clss.cons xkTooLong_BadPaper.g rfl (by decide) (Clss.cons xkTooLong_BadLine.g rfl (by decide) (Clss.cons xkTooLong_NotARoot.g rfl (by decide) (Clss.cons xkTooLong_DeskError.g rfl (by decide) Clss.nil rfl) rfl) rfl) rfl) rfl) rfl) rfl) rfl) rfl) rfl) ka1 (Nat.le_of_ble_eq_true rfl) hz hv heo nb.isinstance)) (s_one (s_ret (e_tup (a_cons (e_str z046afc1d) (a_cons e_int (a_cons (e_and (e_varS 2) (e_one (e_not (e_varS 3)))) a_nil))))))))) Cls3.nil))))
theorem sc_law_is_int : FnScope ["x"] ["x"] (defScope st_law_is_int) := ⟨rfl, rfl, rfl, by decide +kernel, rfl, by decide +kernel, by decide +kernel⟩
theorem ok_law_is_int {f : Addr} {fd : FuncData} (F : Fun K "_law_is_int" "_law_is_int" st_law_is_int f fd) (nb : Nb mg) :
    FnOk P w K mg base (L2.CX P w) 1 f fd ["x"] (spD ⟨K, ca, T⟩ .s 1 m_law_is_int) := by
  refine fnD F sc_law_is_int rfl (fl := [.s]) (fl' := [.s]) (rest := []) false rfl rfl (fun h => nomatch h) fun cdv A outer s H E hr => ?_
  exact (s_one (s_ret (e_and (e_isi kit_int nb.isinstance nb.int boot_int (e_varS 0)) (e_one (e_not (e_isi kit_bool nb.isinstance nb.bool boot_bool (e_varS 0)))))))
theorem sc_law_same : FnScope ["got", "due", "k"] ["got", "due"] (defScope st_law_same) := ⟨rfl, rfl, rfl, by decide +kernel, rfl, by decide +kernel, by decide +kernel⟩
theorem ok_law_same {f : Addr} {fd : FuncData} (F : Fun K "_law_same" "_law_same" st_law_same f fd) (b : Binds K fd ["got", "due"] []) (hm : mg "_law_same" = some (.ref f)) (nb : Nb mg) (c_law_is_int : Cal P w K mg base ⟨K, ca, T⟩ "_law_is_int" 1 .s 1 m_law_is_int) : ∀ n : Nat,
    FnOk P w K mg base (L2.CX P w) (n + 2) f fd ["got", "due"] (spD ⟨K, ca, T⟩ .s 2 (m_law_same n))
  | 0 => fn_stuck F sc_law_same rfl
  | n + 1 => by
    have crec : Cal P w K mg base ⟨K, ca, T⟩ "_law_same" (n + 2) .s 2 (m_law_same n) := cal_of (ok_law_same F b hm nb c_law_is_int n) F b hm
    refine fnD (k := n + 2) F sc_law_same rfl (b := b_law_same (m_law_same n)) (fl := [.s, .s, .s]) (fl' := [.s, .s, .s]) (rest := [.s]) false rfl rfl (fun h => nomatch h) fun cdv A outer s H E hr => ?_
    exact (s_cons (fl1 := [.s, .s, .s]) (s_if (t_cmp op_isN (od_isN (bw := true)) (e_varS 1) e_non) (s_one (s_ret (e_cmp op_isN (od_isN (bw := true)) (e_varS 0) e_non))) s_nil) (s_cons (fl1 := [.s, .s, .s]) (s_if (t_val (e_isi kit_bool nb.isinstance nb.bool boot_bool (e_varS 1))) (s_one (s_ret (e_and (e_isi kit_bool nb.isinstance nb.bool boot_bool (e_varS 0)) (e_one (e_cmp (or_eq hr) (od_eq (bw := true) rfl) (e_varS 0) (e_varS 1)))))) s_nil) (s_cons (fl1 := [.s, .s, .s]) (s_if (t_val (e_isi kit_int nb.isinstance nb.int boot_int (e_varS 1))) (s_one (s_ret (e_and (e_call c_law_is_int hr (takes_of rfl rfl rfl rfl) (a_cons (e_varS 0) a_nil)) (e_one (e_cmp (or_eq hr) (od_eq (bw := true) rfl) (e_varS 0) (e_varS 1)))))) s_nil) (s_cons (fl1 := [.s, .s, .s]) (s_if (t_val (e_isi kit_str nb.isinstance nb.str boot_str (e_varS 1))) (s_one (s_ret (e_and (e_isi kit_str nb.isinstance nb.str boot_str (e_varS 0)) (e_one (e_cmp (or_eq hr) (od_eq (bw := true) rfl) (e_varS 0) (e_varS 1)))))) s_nil) (s_cons (fl1 := [.s, .s, .s]) (s_if (PW.pt (t_and2 (t_val (e_isi kit_list nb.isinstance nb.list boot_list (e_varS 1))) (t_and1 (t_not (t_val (e_isi kit_list nb.isinstance nb.list boot_list (e_varS 0))))))) (s_one (s_ret e_bl)) s_nil) (s_cons (fl1 := [.s, .s, .s]) (s_if (PW.pt (t_and2 (t_val (e_isi kit_tuple nb.isinstance nb.tuple boot_tuple (e_varS 1))) (t_and1 (t_not (t_val (e_isi kit_tuple nb.isinstance nb.tuple boot_tuple (e_varS 0))))))) (s_one (s_ret e_bl)) s_nil) (s_cons (fl1 := [.s, .s, .s]) (s_if (t_cmp (or_ne hr) (od_ne (bw := true) rfl) (e_callB call_len (cd_len (bw := true) rfl) nb.len PySem.boot_len (a_cons (e_varS 0) a_nil)) (e_callB call_len (cd_len (bw := true) rfl) nb.len PySem.boot_len (a_cons (e_varS 1) a_nil))) (s_one (s_ret e_bl)) s_nil) (s_cons (fl1 := [.s, .s, .s]) (s_for (passes_of rfl) (i_range1 nb.range (a_cons (e_callB call_len (cd_len (bw := true) rfl) nb.len PySem.boot_len (a_cons (e_varS 1) a_nil)) a_nil)) (g_name 2 sc_law_same.nd) (s_one (s_if (t_not (t_val (e_call crec hr (takes_of rfl rfl rfl rfl) (a_cons (e_ix (e_varS 0) (e_varS 2)) (a_cons (e_ix (e_varS 1) (e_varS 2)) a_nil))))) (s_one (s_ret e_bl)) s_nil))) (s_one (s_ret e_bl))))))))))
theorem sc_law_due : FnScope ["rules", "k"] ["rules"] (defScope st_law_due) := ⟨rfl, rfl, rfl, by decide +kernel, rfl, by decide +kernel, by decide +kernel⟩
theorem ok_law_due {f : Addr} {fd : FuncData} (F : Fun K "_law_due" "_law_due" st_law_due f fd) (nb : Nb mg) (c_law_wrong : Cal P w K mg base ⟨K, ca, T⟩ "_law_wrong" 2 .s 2 m_law_wrong) :
    FnOk P w K mg base (L2.CX P w) 3 f fd ["rules"] (spD ⟨K, ca, T⟩ .s 1 m_law_due) := by
  refine fnD F sc_law_due rfl (fl := [.s, .s]) (fl' := [.s, .s]) (rest := [.s]) false rfl rfl (fun h => nomatch h) fun cdv A outer s H E hr => ?_
  exact (s_cons (fl1 := [.s, .s]) (s_if (t_cmp (or_eq hr) (od_eq (bw := true) rfl) (e_callB call_len (cd_len (bw := true) rfl) nb.len PySem.boot_len (a_cons (e_varS 0) a_nil)) e_int) (s_one (s_ret (e_tup (a_cons (e_str zbf713652) (a_cons e_int (a_cons e_bl a_nil)))))) s_nil) (s_cons (fl1 := [.s, .s]) (s_if (t_cmp or_gt (od_cmp (bw := true)) (e_callB call_len (cd_len (bw := true) rfl) nb.len PySem.boot_len (a_cons (e_varS 0) a_nil)) e_int) (s_one (s_ret (e_tup (a_cons (e_str z046afc1d) (a_cons e_int (a_cons e_bl a_nil)))))) s_nil) (s_cons (fl1 := [.s, .s]) (s_for (passes_of rfl) (i_range1 nb.range (a_cons (e_callB call_len (cd_len (bw := true) rfl) nb.len PySem.boot_len (a_cons (e_varS 0) a_nil)) a_nil)) (g_name 1 sc_law_due.nd) (s_one (s_if (t_val (e_call c_law_wrong hr (takes_of rfl rfl rfl rfl) (a_cons (e_ix (e_varS 0) (e_varS 1)) (a_cons (e_callB call_len (cd_len (bw := true) rfl) nb.len PySem.boot_len (a_cons (e_varS 0) a_nil)) a_nil)))) (s_one (s_ret (e_tup (a_cons (e_str zbf713652) (a_cons (e_varS 1) (a_cons e_bl a_nil)))))) s_nil))) (s_one (s_ret e_non)))))
theorem sc_used_names : FnScope ["rules", "used", "waiting", "name", "_"] ["rules"] (defScope st_used_names) := ⟨rfl, rfl, rfl, by decide +kernel, rfl, by decide +kernel, by decide +kernel⟩
theorem ok_used_names {f : Addr} {fd : FuncData} (F : Fun K "used_names" "used_names" st_used_names f fd) (nb : Nb mg) (c_parts_of : Cal P w K mg base ⟨K, ca, T⟩ "parts_of" 1 (.l .s) 1 m_parts_of) :
    FnOk P w K mg base (L2.CX P w) 2 f fd ["rules"] (spD ⟨K, ca, T⟩ (.l .s) 1 m_used_names) := by
  refine fnD F sc_used_names rfl (fl := [.s, .l .s, .l .s, .s, .s]) (fl' := [.s, .l .s, .l .s, .s, .s]) (rest := [(.l .s), (.l .s), .s, .s]) false rfl rfl (fun h => nomatch h) fun cdv A outer s H E hr => ?_
  exact (s_cons (fl1 := [.s, .l .s, .l .s, .s, .s]) (s_set 1 sc_used_names.nd (e_lc [("_", 4)] sc_used_names.nd (i_seq (e_varS 0) gSq_ok) (by show blkC ["rules", "used", "waiting", "name", "_"] (defScope st_used_names) _ _ = true; decide +kernel) (fun _ _ _ _ _ => by exact (g_name 4 sc_used_names.nd)) (fun _ _ _ _ _ => by exact ts_nil) (fun _ _ _ _ _ => by exact e_bl))) (s_cons (fl1 := [.s, .l .s, .l .s, .s, .s]) (s_set 2 sc_used_names.nd (e_lst (a_cons (e_op2 op_sub (od_sub (bw := true)) (e_callB call_len (cd_len (bw := true) rfl) nb.len PySem.boot_len (a_cons (e_varS 0) a_nil)) e_int) a_nil))) (s_cons (fl1 := [.s, .l .s, .l .s, .s, .s]) (s_while (passes_of rfl) (t_tru (e_var 2)) (s_cons (fl1 := [.s, .l .s, .l .s, .s, .s]) (s_pop 3 2 sc_used_names.nd) (s_one (s_if (t_not (t_tru (e_ixO 1 (e_varS 3)))) (s_cons (fl1 := [.s, .l .s, .l .s, .s, .s]) (s_setix 1 e_bl (e_varS 3)) (s_one (s_extend 2 (e_frz (e_call c_parts_of hr (takes_of rfl rfl rfl rfl) (a_cons (e_ix (e_varS 0) (e_varS 3)) a_nil)))))) s_nil)))) (s_one (s_ret (e_lc [("name", 3)] sc_used_names.nd (i_range1 nb.range (a_cons (e_callB call_len (cd_len (bw := true) rfl) nb.len PySem.boot_len (a_cons (e_varS 0) a_nil)) a_nil)) (by show blkC ["rules", "used", "waiting", "name", "_"] (defScope st_used_names) _ _ = true; decide +kernel) (fun _ _ _ _ _ => by exact (g_name 3 sc_used_names.nd)) (fun _ _ _ _ _ => by exact (ts_one (t_tru (e_ixO 1 (e_varS 3))))) (fun _ _ _ _ _ => by exact (e_varS 3))))))))
theorem sc_Rules_size : FnScope ["self"] ["self"] (defScope st_Rules_size) := ⟨rfl, rfl, rfl, by decide +kernel, rfl, by decide +kernel, by decide +kernel⟩
theorem ok_Rules_size {f : Addr} {fd : FuncData} (F : Fun K "size" "Rules.size" st_Rules_size f fd) (nb : Nb mg) (fd_Rules_rules : FldC K "Rules" "rules") (c_used_names : Cal P w K mg base ⟨K, ca, T⟩ "used_names" 2 (.l .s) 1 m_used_names) :
    FnOk P w K mg base (L2.CX P w) 3 f fd ["self"] (spD ⟨K, ca, T⟩ .s 1 m_Rules_size) := by
  refine fnD F sc_Rules_size rfl (fl := [.s]) (fl' := [.s]) (rest := []) false rfl rfl (fun h => nomatch h) fun cdv A outer s H E hr => ?_
  exact (s_one (s_ret (e_callB call_len (cd_len (bw := true) rfl) nb.len PySem.boot_len (a_cons (e_frz (e_call c_used_names hr (takes_of rfl rfl rfl rfl) (a_cons (e_fld (fld_cons fd_Rules_rules fld_nil) (e_varS 0)) a_nil))) a_nil))))
theorem sc_law_reached : FnScope ["rules", "marks", "turn", "before", "k", "part", "mark"] ["rules"] (defScope st_law_reached) := ⟨rfl, rfl, rfl, by decide +kernel, rfl, by decide +kernel, by decide +kernel⟩
theorem ok_law_reached {f : Addr} {fd : FuncData} (F : Fun K "_law_reached" "_law_reached" st_law_reached f fd) (nb : Nb mg) (c_law_parts : Cal P w K mg base ⟨K, ca, T⟩ "_law_parts" 1 (.l .s) 1 m_law_parts) :
    FnOk P w K mg base (L2.CX P w) 2 f fd ["rules"] (spD ⟨K, ca, T⟩ .s 1 m_law_reached) := by
  refine fnD F sc_law_reached rfl (fl := [.s, .l .s, .s, .s, .s, .s, .s]) (fl' := [.s, .s, .s, .s, .s, .s, .s]) (rest := [(.l .s), .s, .s, .s, .s, .s]) false rfl rfl (fun h => nomatch h) fun cdv A outer s H E hr => ?_
  exact (s_cons (fl1 := [.s, .l .s, .s, .s, .s, .s, .s]) (s_setLc 1 [("k", 4)] sc_law_reached.nd (i_range1 nb.range (a_cons (e_callB call_len (cd_len (bw := true) rfl) nb.len PySem.boot_len (a_cons (e_varS 0) a_nil)) a_nil)) (by show blkC ["rules", "marks", "turn", "before", "k", "part", "mark"] (defScope st_law_reached) _ _ = true; decide +kernel) (fun _ _ _ _ _ => by exact (g_name 4 sc_law_reached.nd)) (fun _ _ _ _ _ => by exact ts_nil) (fun _ _ _ _ _ => by exact (e_cmp (or_eq hr) (od_eq (bw := true) rfl) (e_varS 4) (e_op2 op_sub (od_sub (bw := true)) (e_callB call_len (cd_len (bw := true) rfl) nb.len PySem.boot_len (a_cons (e_varS 0) a_nil)) e_int))) (sw_true rfl rfl rfl (by decide +kernel))) (s_cons (fl1 := [.s, .l .s, .s, .s, .s, .s, .s]) (s_for (passes_of rfl) (i_range1 nb.range (a_cons (e_callB call_len (cd_len (bw := true) rfl) nb.len PySem.boot_len (a_cons (e_varS 0) a_nil)) a_nil)) (g_name 2 sc_law_reached.nd) (s_cons (fl1 := [.s, .l .s, .s, .s, .s, .s, .s]) (s_set 3 sc_law_reached.nd (e_frz (e_brw (fl' := [.s, .s, .s, .s, .s, .s, .s]) (e_callT call_list_of (cd_list rfl) nb.list boot_list (a_cons (e_varS 1) a_nil))))) (s_cons (fl1 := [.s, .l .s, .s, .s, .s, .s, .s]) (s_for (passes_of rfl) (i_range1 nb.range (a_cons (e_callB call_len (cd_len (bw := true) rfl) nb.len PySem.boot_len (a_cons (e_varS 0) a_nil)) a_nil)) (g_name 4 sc_law_reached.nd) (s_one (s_if (t_tru (e_ix (e_varS 3) (e_varS 4))) (s_one (s_for (passes_of rfl) (i_seq (e_frz (e_call c_law_parts hr (takes_of rfl rfl rfl rfl) (a_cons (e_ix (e_varS 0) (e_varS 4)) a_nil))) gSq_ok) (g_name 5 sc_law_reached.nd) (s_one (s_setix 1 e_bl (e_varS 5))))) s_nil))) (s_one (s_if (t_cmp (or_eq hr) (od_eq (bw := true) rfl) (e_var 1) (e_varS 3)) (s_one s_brk) s_nil))))) (ss_frz 1 (s_one (s_ret (e_callB call_len (cd_len (bw := true) rfl) nb.len PySem.boot_len (a_cons (e_frz (e_lc [("mark", 6)] sc_law_reached.nd (i_seq (e_varS 1) gSq_ok) (by show blkC ["rules", "marks", "turn", "before", "k", "part", "mark"] (defScope st_law_reached) _ _ = true; decide +kernel) (fun _ _ _ _ _ => by exact (g_name 6 sc_law_reached.nd)) (fun _ _ _ _ _ => by exact (ts_one (t_tru (e_varS 6)))) (fun _ _ _ _ _ => by exact (e_varS 6)))) a_nil)))))))
theorem sc_law_holds : FnScope ["told", "rules", "due", "press"] ["told", "rules"] (defScope st_law_holds) := ⟨rfl, rfl, rfl, by decide +kernel, rfl, by decide +kernel, by decide +kernel⟩
theorem ok_law_holds {f : Addr} {fd : FuncData} (F : Fun K "_law_holds" "_law_holds" st_law_holds f fd) (nb : Nb mg) (fd_Rules_rules : FldC K "Rules" "rules") (c_law_same : Cal P w K mg base ⟨K, ca, T⟩ "_law_same" 10 .s 2 (m_law_same 8)) (c_law_due : Cal P w K mg base ⟨K, ca, T⟩ "_law_due" 3 .s 1 m_law_due) (c_Rules_size : MCal P w K mg base ⟨K, ca, T⟩ "Rules" "size" 3 .s 0 m_Rules_size) (c_law_reached : Cal P w K mg base ⟨K, ca, T⟩ "_law_reached" 2 .s 1 m_law_reached) :
    FnOk P w K mg base (L2.CX P w) 11 f fd ["told", "rules"] (spD ⟨K, ca, T⟩ .s 2 m_law_holds) := by
  refine fnD F sc_law_holds rfl (fl := [.s, .s, .s, .s]) (fl' := [.s, .s, .s, .s]) (rest := [.s, .s]) false rfl rfl (fun h => nomatch h) fun cdv A outer s H E hr => ?_
  exact (s_cons (fl1 := [.s, .s, .s, .s]) (s_set 2 sc_law_holds.nd (e_call c_law_due hr (takes_of rfl rfl rfl rfl) (a_cons (e_varS 1) a_nil))) (s_cons (fl1 := [.s, .s, .s, .s]) (s_if (t_cmp op_notN (od_notN (bw := true)) (e_varS 2) e_non) (s_one (s_ret (e_call c_law_same hr (takes_of rfl rfl rfl rfl) (a_cons (e_varS 0) (a_cons (e_varS 2) a_nil))))) s_nil) (s_cons (fl1 := [.s, .s, .s, .s]) (s_if (t_cmp (or_ne hr) (od_ne (bw := true) rfl) (e_ix (e_varS 0) e_int) (e_str za336b5d4)) (s_one (s_ret e_bl)) s_nil) (s_cons (fl1 := [.s, .s, .s, .s]) (s_set 3 sc_law_holds.nd (e_ix (e_varS 0) e_int)) (s_one (s_ret (e_and (e_call c_law_same hr (takes_of rfl rfl rfl rfl) (a_cons (e_fld (fld_cons fd_Rules_rules fld_nil) (e_varS 3)) (a_cons (e_callT call_tuple_of (cd_tup rfl) nb.tuple boot_tuple (a_cons (e_varS 1) a_nil)) a_nil))) (e_one (e_call c_law_same hr (takes_of rfl rfl rfl rfl) (a_cons (e_meth0 (k := 3) (rs := .s) (tab_cons c_Rules_size tab_nil) hr (takes_of rfl rfl rfl rfl) (e_varS 3)) (a_cons (e_call c_law_reached hr (takes_of rfl rfl rfl rfl) (a_cons (e_varS 1) a_nil)) a_nil)))))))))))
theorem sc_law : FnScope ["script", "drawn", "rules", "j", "mended", "lists", "handed", "told", "k", "row", "here"] ["script"] (defScope st_law) := ⟨rfl, rfl, rfl, by decide +kernel, rfl, by decide +kernel, by decide +kernel⟩
theorem ok_law {f : Addr} {fd : FuncData} (F : Fun K "law" "law" st_law f fd) (nb : Nb mg) (c_law_draws : Cal P w K mg base ⟨K, ca, T⟩ "_law_draws" 1 .s 2 m_law_draws) (c_law_size : Cal P w K mg base ⟨K, ca, T⟩ "_law_size" 1 .s 3 m_law_size) (c_law_letter : Cal P w K mg base ⟨K, ca, T⟩ "_law_letter" 1 .s 1 m_law_letter) (c_law_rules : Cal P w K mg base ⟨K, ca, T⟩ "_law_rules" 3 .s 2 m_law_rules) (c_law_mended : Cal P w K mg base ⟨K, ca, T⟩ "_law_mended" 3 .s 1 m_law_mended) (c_law_cell : Cal P w K mg base ⟨K, ca, T⟩ "_law_cell" 1 .s 2 m_law_cell) (c_law_each : Cal P w K mg base ⟨K, ca, T⟩ "_law_each" 2 .s 2 m_law_each) (c_law_spoilt : Cal P w K mg base ⟨K, ca, T⟩ "_law_spoilt" 2 .s 2 m_law_spoilt) (c_law_try : Cal P w K mg base ⟨K, ca, T⟩ "_law_try" 6 .s 1 m_law_try) (c_law_same : Cal P w K mg base ⟨K, ca, T⟩ "_law_same" 10 .s 2 (m_law_same 8)) (c_law_holds : Cal P w K mg base ⟨K, ca, T⟩ "_law_holds" 11 .s 2 m_law_holds) :
    FnOk P w K mg base (L2.CX P w) 12 f fd ["script"] (spD ⟨K, ca, T⟩ .s 1 m_law) := by
  refine fnD F sc_law rfl (fl := [.s, .s, .s, .s, .s, .s, .l .s, .s, .s, .s, .s]) (fl' := [.s, .s, .s, .s, .s, .s, .l (.l .s), .s, .s, .s, .s]) (rest := [.s, .s, .s, .s, .s, (.l .s), .s, .s, .s, .s]) false rfl rfl (fun h => nomatch h) fun cdv A outer s H E hr => ?_
  exact (s_cons (fl1 := [.s, .s, .s, .s, .s, .s, .l .s, .s, .s, .s, .s]) (s_set 1 sc_law.nd (e_call c_law_draws hr (takes_of rfl rfl rfl rfl) (a_cons (e_call c_law_cell hr (takes_of rfl rfl rfl rfl) (a_cons (e_varS 0) (a_cons e_int a_nil))) (a_cons (e_frz (e_lst (a_cons e_int (a_cons e_int (a_cons e_int (a_cons e_int (a_cons e_int (a_cons e_int (a_cons e_int a_nil))))))))) a_nil)))) (s_cons (fl1 := [.s, .s, .s, .s, .s, .s, .l .s, .s, .s, .s, .s]) (s_set 2 sc_law.nd (e_call c_law_rules hr (takes_of rfl rfl rfl rfl) (a_cons (e_call c_law_cell hr (takes_of rfl rfl rfl rfl) (a_cons (e_varS 0) (a_cons e_int a_nil))) (a_cons (e_cmp or_gt (od_cmp (bw := true)) (e_ix (e_varS 1) e_int) e_int) a_nil)))) (s_cons (fl1 := [.s, .s, .s, .s, .s, .s, .l .s, .s, .s, .s, .s]) (s_if (t_cmp or_gt (od_cmp (bw := true)) (e_ix (e_varS 1) e_int) e_int) (s_one (s_set 2 sc_law.nd (e_call c_law_each hr (takes_of rfl rfl rfl rfl) (a_cons (e_varS 0) (a_cons (e_call c_law_size hr (takes_of rfl rfl rfl rfl) (a_cons (e_ix (e_varS 1) e_int) (a_cons (e_ix (e_varS 1) e_int) (a_cons e_int a_nil)))) a_nil))))) s_nil) (s_cons (fl1 := [.s, .s, .s, .s, .s, .s, .l .s, .s, .s, .s, .s]) (s_if (t_cmp (or_eq hr) (od_eq (bw := true) rfl) (e_ix (e_varS 1) e_int) e_int) (s_one (s_set 2 sc_law.nd (e_frz (e_lst a_nil)))) s_nil) (s_cons (fl1 := [.s, .s, .s, .s, .s, .s, .l .s, .s, .s, .s, .s]) (s_if (PW.pt (t_or2 (t_cmp (or_eq hr) (od_eq (bw := true) rfl) (e_ix (e_varS 1) e_int) e_int) (t_or1 (t_cmp (or_eq hr) (od_eq (bw := true) rfl) (e_ix (e_varS 1) e_int) e_int)))) (s_one (s_setLcS 2 [("k", 8)] sc_law.nd (i_range1 nb.range (a_cons (e_op2 or_add od_add e_int (e_ix (e_varS 1) e_int)) a_nil)) (by show blkC ["script", "drawn", "rules", "j", "mended", "lists", "handed", "told", "k", "row", "here"] (defScope st_law) _ _ = true; decide +kernel) (fun _ _ _ _ _ => by exact (g_name 8 sc_law.nd)) (fun _ _ _ _ _ => by exact ts_nil) (fun _ _ _ _ _ => by exact (e_tup (a_cons (e_str zf5b75010) (a_cons (e_call c_law_letter hr takes0 (a_cons (e_op2 or_add od_add (e_ix (e_varS 1) e_int) (e_op2 or_mul od_mul (e_varS 8) (e_ix (e_varS 1) e_int))) a_nil)) a_nil)))) (sw_true rfl rfl rfl (by decide +kernel)))) s_nil) (s_cons (fl1 := [.s, .s, .s, .s, .s, .s, .l .s, .s, .s, .s, .s]) (s_for (passes_of rfl) (i_range1 nb.range (a_cons (e_ix (e_varS 1) e_int) a_nil)) (g_name 3 sc_law.nd) (s_one (s_set 2 sc_law.nd (e_call c_law_spoilt hr (takes_of rfl rfl rfl rfl) (a_cons (e_varS 2) (a_cons (e_call c_law_cell hr (takes_of rfl rfl rfl rfl) (a_cons (e_varS 0) (a_cons (e_op2 or_add od_add e_int (e_varS 3)) a_nil))) a_nil)))))) (s_cons (fl1 := [.s, .s, .s, .s, .s, .s, .l .s, .s, .s, .s, .s]) (s_set 4 sc_law.nd (e_call c_law_mended hr (takes_of rfl rfl rfl rfl) (a_cons (e_varS 2) a_nil))) (s_cons (fl1 := [.s, .s, .s, .s, .s, .s, .l .s, .s, .s, .s, .s]) (s_set 5 sc_law.nd (e_frz (e_lst (a_cons (e_varS 2) (a_cons (e_varS 4) (a_cons (e_op2 or_add od_add (e_varS 4) (e_frz (e_lst (a_cons (e_tup (a_cons (e_str zf5b75010) (a_cons (e_str [113]) a_nil))) a_nil)))) (a_cons (e_varS 2) a_nil))))))) (s_cons (fl1 := [.s, .s, .s, .s, .s, .s, .l (.l .s), .s, .s, .s, .s]) (s_setLcO (sh := .l .s) 6 [("here", 10)] sc_law.nd (i_seq (e_varS 5) gSq_ok) (by show blkC ["script", "drawn", "rules", "j", "mended", "lists", "handed", "told", "k", "row", "here"] (defScope st_law) _ _ = true; decide +kernel) (fun _ _ _ _ _ => by exact (g_name 10 sc_law.nd)) (fun _ _ _ _ _ => by exact ts_nil) (fun _ _ _ _ _ => by exact (e_callT call_list_of (cd_list rfl) nb.list boot_list (a_cons (e_varS 10) a_nil))) (sw_true rfl rfl rfl (by decide +kernel))) (s_cons (fl1 := [.s, .s, .s, .s, .s, .s, .l (.l .s), .s, .s, .s, .s]) (s_set 7 sc_law.nd (e_frz (e_brw (fl' := [.s, .s, .s, .s, .s, .s, .s, .s, .s, .s, .s]) (e_lc [("here", 10)] sc_law.nd (i_seq (e_varS 6) gSq_ok) (by show blkC ["script", "drawn", "rules", "j", "mended", "lists", "handed", "told", "k", "row", "here"] (defScope st_law) _ _ = true; decide +kernel) (fun _ _ _ _ _ => by exact (g_name 10 sc_law.nd)) (fun _ _ _ _ _ => by exact ts_nil) (fun _ _ _ _ _ => by exact (e_call c_law_try hr takes0 (a_cons (e_varS 10) a_nil))))))) (s_cons (fl1 := [.s, .s, .s, .s, .s, .s, .l (.l .s), .s, .s, .s, .s]) (s_for (passes_of rfl) (i_range1 nb.range (a_cons e_int a_nil)) (g_name 8 sc_law.nd) (s_one (s_if (t_brw (fl' := [.s, .s, .s, .s, .s, .s, .s, .s, .s, .s, .s]) (PW.pt (t_or2 (t_not (t_val (e_call c_law_same hr (takes_of rfl rfl rfl rfl) (a_cons (e_ix (e_varS 6) (e_varS 8)) (a_cons (e_ix (e_varS 5) (e_varS 8)) a_nil))))) (t_or1 (t_not (t_val (e_call c_law_holds hr (takes_of rfl rfl rfl rfl) (a_cons (e_ix (e_varS 7) (e_varS 8)) (a_cons (e_ix (e_varS 5) (e_varS 8)) a_nil))))))))) (s_one (s_ret e_bl)) s_nil))) (s_cons (fl1 := [.s, .s, .s, .s, .s, .s, .l (.l .s), .s, .s, .s, .s]) (s_for (passes_of rfl) (i_range1 nb.range (a_cons e_int a_nil)) (g_name 8 sc_law.nd) (ss_llRow 6 9 sc_law.nd (by decide) (e_varS 8) (e_tup (a_cons (e_str zf5b75010) (a_cons (e_str [113]) a_nil))) (e_tup (a_cons (e_str z33c9b363) (a_cons e_int (a_cons e_int a_nil)))) s_nil)) (s_one (s_ret (e_cmp (or_eq hr) (od_eq (bw := true) rfl) (e_callB call_len (cd_len (bw := true) rfl) nb.len PySem.boot_len (a_cons (e_frz (e_lc [("k", 8)] sc_law.nd (i_range1 nb.range (a_cons e_int a_nil)) (by show blkC ["script", "drawn", "rules", "j", "mended", "lists", "handed", "told", "k", "row", "here"] (defScope st_law) _ _ = true; decide +kernel) (fun _ _ _ _ _ => by exact (g_name 8 sc_law.nd)) (fun _ _ _ _ _ => by exact (ts_one (t_not (t_val (e_call c_law_holds hr takes0 (a_cons (e_ix (e_varS 7) (e_varS 8)) (a_cons (e_ix (e_varS 5) (e_varS 8)) a_nil))))))) (fun _ _ _ _ _ => by exact (e_varS 8)))) a_nil)) e_int)))))))))))))))
end
theorem at_law {l : PySem.W.OpenLaw} {w : World} {K : PySem.W.Frag} {h : Heap} {mg : Str → Option Value} {fa f0 f1 f2 f3 f4 f5 f6 f7 f8 f9 f10 f11 f12 f13 f14 f15 f16 f17 f18 f19 f20 f21 f22 f23 f24 f25 x0 x1 x2 x3 x4 x5 x6 x7 x8 x9 x10 x11 x12 : Addr} {od0 an0 od1 an1 od2 an2 od3 an3 od4 an4 od5 an5 od6 an6 od7 an7 od8 an8 od9 an9 od10 an10 od11 an11 od12 an12 od13 an13 od14 an14 od15 an15 od16 an16 od17 an17 od18 an18 od19 an19 od20 an20 od21 an21 od22 an22 od23 an23 od24 an24 od25 an25 : Option Addr} {sl0 sl1 sl2 sl3 sl4 sl5 sl6 sl7 sl8 sl9 sl10 sl11 sl12 sl13 sl14 sl15 sl16 sl17 sl18 sl19 sl20 sl21 sl22 sl23 sl24 sl25 : Array (Option Value)} {oc0 kV0 dc0 pm0 ct0 cd0 oc1 kV1 dc1 pm1 ct1 cd1 oc2 kV2 dc2 pm2 ct2 cd2 oc3 kV3 dc3 pm3 ct3 cd3 oc4 kV4 dc4 pm4 ct4 cd4 oc5 kV5 dc5 pm5 ct5 cd5 oc6 kV6 dc6 pm6 ct6 cd6 oc7 kV7 dc7 pm7 ct7 cd7 oc8 kV8 dc8 pm8 ct8 cd8 oc9 kV9 dc9 pm9 ct9 cd9 oc10 kV10 dc10 pm10 ct10 cd10 oc11 kV11 dc11 pm11 ct11 cd11 oc12 kV12 dc12 pm12 ct12 cd12 oc13 kV13 dc13 pm13 ct13 cd13 oc14 kV14 dc14 pm14 ct14 cd14 oc15 kV15 dc15 pm15 ct15 cd15 oc16 kV16 dc16 pm16 ct16 cd16 oc17 kV17 dc17 pm17 ct17 cd17 oc18 kV18 dc18 pm18 ct18 cd18 oc19 kV19 dc19 pm19 ct19 cd19 oc20 kV20 dc20 pm20 ct20 cd20 oc21 kV21 dc21 pm21 ct21 cd21 oc22 kV22 dc22 pm22 ct22 cd22 oc23 kV23 dc23 pm23 ct23 cd23 oc24 kV24 dc24 pm24 ct24 cd24 oc25 kV25 dc25 pm25 ct25 cd25 : Value} {xf4 xcd4 xcc4 : Addr} {xoc4 xkV4 xdc4 xpm4 xct4 xccl4 xcl4 : Value} {xod4 xan4 xcdd4 xcld4 : Option Addr} {xsl4 xccs4 xcsl4 : Array (Option Value)} {xvs4 : Array Value} {xfile4 : Str} {xtf4 : Tok} {tcLETTERS : Tok} {ycLETTERS : Str} {tcMOST_RULES : Tok} {tcMOST_TIMES : Tok} (X : K.In h) (G : h.Ns mainGlobals mg) (hfa : mg "law" = some (.ref fa)) 
    (xa0 : PySem.W.nsIn K mainGlobals "BadCount" = some (some (.ref x0)))
    (xa1 : PySem.W.nsIn K mainGlobals "BadLine" = some (some (.ref x1)))
    (xa2 : PySem.W.nsIn K mainGlobals "BadPaper" = some (some (.ref x2)))
    (xa3 : PySem.W.nsIn K mainGlobals "BadPlaces" = some (some (.ref x3)))
    (xa4 : PySem.W.nsIn K mainGlobals "BadPress" = some (some (.ref x4)))
    (xa5 : PySem.W.nsIn K mainGlobals "BadText" = some (some (.ref x5)))
    (xa6 : PySem.W.nsIn K mainGlobals "DeskError" = some (some (.ref x6)))
    (xa7 : PySem.W.nsIn K mainGlobals "NoText" = some (some (.ref x7)))
    (xa8 : PySem.W.nsIn K mainGlobals "NotARoot" = some (some (.ref x8)))
    (xa9 : PySem.W.nsIn K mainGlobals "PressError" = some (some (.ref x9)))
    (xa10 : PySem.W.nsIn K mainGlobals "Rules" = some (some (.ref x10)))
    (xa11 : PySem.W.nsIn K mainGlobals "TooLong" = some (some (.ref x11)))
    (xa12 : PySem.W.nsIn K mainGlobals "TooShort" = some (some (.ref x12)))
    (a0 : PySem.W.nsIn K mainGlobals "_law_draws" = some (some (.ref f0)))
    (l0 : K.lookup f0 = some ⟨oc0, od0, .func (PySem.W.fnOf "_law_draws" "_law_draws" (defArgs st_law_draws) (defBody st_law_draws) (defScope st_law_draws) .none kV0 dc0 pm0 an0 cd0 ct0), sl0⟩)
    (d0 : PySem.W.codeIn K cd0 "_law_draws" = true)
    (k0 : PySem.W.keepIn K (.ref f0) = true)
    (a1 : PySem.W.nsIn K mainGlobals "_law_size" = some (some (.ref f1)))
    (l1 : K.lookup f1 = some ⟨oc1, od1, .func (PySem.W.fnOf "_law_size" "_law_size" (defArgs st_law_size) (defBody st_law_size) (defScope st_law_size) .none kV1 dc1 pm1 an1 cd1 ct1), sl1⟩)
    (d1 : PySem.W.codeIn K cd1 "_law_size" = true)
    (k1 : PySem.W.keepIn K (.ref f1) = true)
    (a2 : PySem.W.nsIn K mainGlobals "_law_letter" = some (some (.ref f2)))
    (l2 : K.lookup f2 = some ⟨oc2, od2, .func (PySem.W.fnOf "_law_letter" "_law_letter" (defArgs st_law_letter) (defBody st_law_letter) (defScope st_law_letter) .none kV2 dc2 pm2 an2 cd2 ct2), sl2⟩)
    (d2 : PySem.W.codeIn K cd2 "_law_letter" = true)
    (k2 : PySem.W.keepIn K (.ref f2) = true)
    (a3 : PySem.W.nsIn K mainGlobals "_law_parts" = some (some (.ref f3)))
    (l3 : K.lookup f3 = some ⟨oc3, od3, .func (PySem.W.fnOf "_law_parts" "_law_parts" (defArgs st_law_parts) (defBody st_law_parts) (defScope st_law_parts) .none kV3 dc3 pm3 an3 cd3 ct3), sl3⟩)
    (d3 : PySem.W.codeIn K cd3 "_law_parts" = true)
    (k3 : PySem.W.keepIn K (.ref f3) = true)
    (a4 : PySem.W.nsIn K mainGlobals "_law_lengths" = some (some (.ref f4)))
    (l4 : K.lookup f4 = some ⟨oc4, od4, .func (PySem.W.fnOf "_law_lengths" "_law_lengths" (defArgs st_law_lengths) (defBody st_law_lengths) (defScope st_law_lengths) .none kV4 dc4 pm4 an4 cd4 ct4), sl4⟩)
    (d4 : PySem.W.codeIn K cd4 "_law_lengths" = true)
    (k4 : PySem.W.keepIn K (.ref f4) = true)
    (a5 : PySem.W.nsIn K mainGlobals "_law_rules" = some (some (.ref f5)))
    (l5 : K.lookup f5 = some ⟨oc5, od5, .func (PySem.W.fnOf "_law_rules" "_law_rules" (defArgs st_law_rules) (defBody st_law_rules) (defScope st_law_rules) .none kV5 dc5 pm5 an5 cd5 ct5), sl5⟩)
    (d5 : PySem.W.codeIn K cd5 "_law_rules" = true)
    (k5 : PySem.W.keepIn K (.ref f5) = true)
    (a6 : PySem.W.nsIn K mainGlobals "_law_wrong" = some (some (.ref f6)))
    (l6 : K.lookup f6 = some ⟨oc6, od6, .func (PySem.W.fnOf "_law_wrong" "_law_wrong" (defArgs st_law_wrong) (defBody st_law_wrong) (defScope st_law_wrong) .none kV6 dc6 pm6 an6 cd6 ct6), sl6⟩)
    (d6 : PySem.W.codeIn K cd6 "_law_wrong" = true)
    (k6 : PySem.W.keepIn K (.ref f6) = true)
    (a7 : PySem.W.nsIn K mainGlobals "_law_mended" = some (some (.ref f7)))
    (l7 : K.lookup f7 = some ⟨oc7, od7, .func (PySem.W.fnOf "_law_mended" "_law_mended" (defArgs st_law_mended) (defBody st_law_mended) (defScope st_law_mended) .none kV7 dc7 pm7 an7 cd7 ct7), sl7⟩)
    (d7 : PySem.W.codeIn K cd7 "_law_mended" = true)
    (k7 : PySem.W.keepIn K (.ref f7) = true)
    (a8 : PySem.W.nsIn K mainGlobals "_law_cell" = some (some (.ref f8)))
    (l8 : K.lookup f8 = some ⟨oc8, od8, .func (PySem.W.fnOf "_law_cell" "_law_cell" (defArgs st_law_cell) (defBody st_law_cell) (defScope st_law_cell) .none kV8 dc8 pm8 an8 cd8 ct8), sl8⟩)
    (d8 : PySem.W.codeIn K cd8 "_law_cell" = true)
    (k8 : PySem.W.keepIn K (.ref f8) = true)
    (a9 : PySem.W.nsIn K mainGlobals "_law_each" = some (some (.ref f9)))
    (l9 : K.lookup f9 = some ⟨oc9, od9, .func (PySem.W.fnOf "_law_each" "_law_each" (defArgs st_law_each) (defBody st_law_each) (defScope st_law_each) .none kV9 dc9 pm9 an9 cd9 ct9), sl9⟩)
    (d9 : PySem.W.codeIn K cd9 "_law_each" = true)
    (k9 : PySem.W.keepIn K (.ref f9) = true)
    (a10 : PySem.W.nsIn K mainGlobals "_law_sign" = some (some (.ref f10)))
    (l10 : K.lookup f10 = some ⟨oc10, od10, .func (PySem.W.fnOf "_law_sign" "_law_sign" (defArgs st_law_sign) (defBody st_law_sign) (defScope st_law_sign) .none kV10 dc10 pm10 an10 cd10 ct10), sl10⟩)
    (d10 : PySem.W.codeIn K cd10 "_law_sign" = true)
    (k10 : PySem.W.keepIn K (.ref f10) = true)
    (a11 : PySem.W.nsIn K mainGlobals "_law_spoilt" = some (some (.ref f11)))
    (l11 : K.lookup f11 = some ⟨oc11, od11, .func (PySem.W.fnOf "_law_spoilt" "_law_spoilt" (defArgs st_law_spoilt) (defBody st_law_spoilt) (defScope st_law_spoilt) .none kV11 dc11 pm11 an11 cd11 ct11), sl11⟩)
    (d11 : PySem.W.codeIn K cd11 "_law_spoilt" = true)
    (k11 : PySem.W.keepIn K (.ref f11) = true)
    (a12 : PySem.W.nsIn K mainGlobals "parts_of" = some (some (.ref f12)))
    (l12 : K.lookup f12 = some ⟨oc12, od12, .func (PySem.W.fnOf "parts_of" "parts_of" (defArgs st_parts_of) (defBody st_parts_of) (defScope st_parts_of) .none kV12 dc12 pm12 an12 cd12 ct12), sl12⟩)
    (d12 : PySem.W.codeIn K cd12 "parts_of" = true)
    (k12 : PySem.W.keepIn K (.ref f12) = true)
    (a13 : PySem.W.nsIn K mainGlobals "is_letter" = some (some (.ref f13)))
    (l13 : K.lookup f13 = some ⟨oc13, od13, .func (PySem.W.fnOf "is_letter" "is_letter" (defArgs st_is_letter) (defBody st_is_letter) (defScope st_is_letter) .none kV13 dc13 pm13 an13 cd13 ct13), sl13⟩)
    (d13 : PySem.W.codeIn K cd13 "is_letter" = true)
    (k13 : PySem.W.keepIn K (.ref f13) = true)
    (a14 : PySem.W.nsIn K mainGlobals "is_valid_rule" = some (some (.ref f14)))
    (l14 : K.lookup f14 = some ⟨oc14, od14, .func (PySem.W.fnOf "is_valid_rule" "is_valid_rule" (defArgs st_is_valid_rule) (defBody st_is_valid_rule) (defScope st_is_valid_rule) .none kV14 dc14 pm14 an14 cd14 ct14), sl14⟩)
    (d14 : PySem.W.codeIn K cd14 "is_valid_rule" = true)
    (k14 : PySem.W.keepIn K (.ref f14) = true)
    (a15 : PySem.W.nsIn K mainGlobals "check_rules" = some (some (.ref f15)))
    (l15 : K.lookup f15 = some ⟨oc15, od15, .func (PySem.W.fnOf "check_rules" "check_rules" (defArgs st_check_rules) (defBody st_check_rules) (defScope st_check_rules) .none kV15 dc15 pm15 an15 cd15 ct15), sl15⟩)
    (d15 : PySem.W.codeIn K cd15 "check_rules" = true)
    (k15 : PySem.W.keepIn K (.ref f15) = true)
    (a16 : PySem.W.findIn K (.ref x10) "__init__" = some (some (.ref f16)))
    (j16 : PySem.W.isFn K (.ref f16) = true)
    (l16 : K.lookup f16 = some ⟨oc16, od16, .func (PySem.W.fnOf "__init__" "Rules.__init__" (defArgs st_Rules_init) (defBody st_Rules_init) (defScope st_Rules_init) .none kV16 dc16 pm16 an16 cd16 ct16), sl16⟩)
    (d16 : PySem.W.codeIn K cd16 "Rules.__init__" = true)
    (k16 : PySem.W.keepIn K (.ref f16) = true)
    (a17 : PySem.W.nsIn K mainGlobals "_law_try" = some (some (.ref f17)))
    (l17 : K.lookup f17 = some ⟨oc17, od17, .func (PySem.W.fnOf "_law_try" "_law_try" (defArgs st_law_try) (defBody st_law_try) (defScope st_law_try) .none kV17 dc17 pm17 an17 cd17 ct17), sl17⟩)
    (d17 : PySem.W.codeIn K cd17 "_law_try" = true)
    (k17 : PySem.W.keepIn K (.ref f17) = true)
    (a18 : PySem.W.nsIn K mainGlobals "_law_is_int" = some (some (.ref f18)))
    (l18 : K.lookup f18 = some ⟨oc18, od18, .func (PySem.W.fnOf "_law_is_int" "_law_is_int" (defArgs st_law_is_int) (defBody st_law_is_int) (defScope st_law_is_int) .none kV18 dc18 pm18 an18 cd18 ct18), sl18⟩)
    (d18 : PySem.W.codeIn K cd18 "_law_is_int" = true)
    (k18 : PySem.W.keepIn K (.ref f18) = true)
    (a19 : PySem.W.nsIn K mainGlobals "_law_same" = some (some (.ref f19)))
    (l19 : K.lookup f19 = some ⟨oc19, od19, .func (PySem.W.fnOf "_law_same" "_law_same" (defArgs st_law_same) (defBody st_law_same) (defScope st_law_same) .none kV19 dc19 pm19 an19 cd19 ct19), sl19⟩)
    (d19 : PySem.W.codeIn K cd19 "_law_same" = true)
    (k19 : PySem.W.keepIn K (.ref f19) = true)
    (a20 : PySem.W.nsIn K mainGlobals "_law_due" = some (some (.ref f20)))
    (l20 : K.lookup f20 = some ⟨oc20, od20, .func (PySem.W.fnOf "_law_due" "_law_due" (defArgs st_law_due) (defBody st_law_due) (defScope st_law_due) .none kV20 dc20 pm20 an20 cd20 ct20), sl20⟩)
    (d20 : PySem.W.codeIn K cd20 "_law_due" = true)
    (k20 : PySem.W.keepIn K (.ref f20) = true)
    (a21 : PySem.W.nsIn K mainGlobals "used_names" = some (some (.ref f21)))
    (l21 : K.lookup f21 = some ⟨oc21, od21, .func (PySem.W.fnOf "used_names" "used_names" (defArgs st_used_names) (defBody st_used_names) (defScope st_used_names) .none kV21 dc21 pm21 an21 cd21 ct21), sl21⟩)
    (d21 : PySem.W.codeIn K cd21 "used_names" = true)
    (k21 : PySem.W.keepIn K (.ref f21) = true)
    (a22 : PySem.W.findIn K (.ref x10) "size" = some (some (.ref f22)))
    (j22 : PySem.W.isFn K (.ref f22) = true)
    (l22 : K.lookup f22 = some ⟨oc22, od22, .func (PySem.W.fnOf "size" "Rules.size" (defArgs st_Rules_size) (defBody st_Rules_size) (defScope st_Rules_size) .none kV22 dc22 pm22 an22 cd22 ct22), sl22⟩)
    (d22 : PySem.W.codeIn K cd22 "Rules.size" = true)
    (k22 : PySem.W.keepIn K (.ref f22) = true)
    (a23 : PySem.W.nsIn K mainGlobals "_law_reached" = some (some (.ref f23)))
    (l23 : K.lookup f23 = some ⟨oc23, od23, .func (PySem.W.fnOf "_law_reached" "_law_reached" (defArgs st_law_reached) (defBody st_law_reached) (defScope st_law_reached) .none kV23 dc23 pm23 an23 cd23 ct23), sl23⟩)
    (d23 : PySem.W.codeIn K cd23 "_law_reached" = true)
    (k23 : PySem.W.keepIn K (.ref f23) = true)
    (a24 : PySem.W.nsIn K mainGlobals "_law_holds" = some (some (.ref f24)))
    (l24 : K.lookup f24 = some ⟨oc24, od24, .func (PySem.W.fnOf "_law_holds" "_law_holds" (defArgs st_law_holds) (defBody st_law_holds) (defScope st_law_holds) .none kV24 dc24 pm24 an24 cd24 ct24), sl24⟩)
    (d24 : PySem.W.codeIn K cd24 "_law_holds" = true)
    (k24 : PySem.W.keepIn K (.ref f24) = true)
    (a25 : PySem.W.nsIn K mainGlobals "law" = some (some (.ref f25)))
    (l25 : K.lookup f25 = some ⟨oc25, od25, .func (PySem.W.fnOf "law" "law" (defArgs st_law) (defBody st_law) (defScope st_law) .none kV25 dc25 pm25 an25 cd25 ct25), sl25⟩)
    (d25 : PySem.W.codeIn K cd25 "law" = true)
    (k25 : PySem.W.keepIn K (.ref f25) = true)
    (xp10_0 : PySem.W.plainGet K x10 Str.empty = true)
    (xp10_1 : PySem.W.hasDictIn K x10 = true)
    (xp10_2 : PySem.W.plainOver K x10 = true)
    (xp10_3 : PySem.W.findIn K (.ref x10) "__setattr__" = some (some (.builtin "object.__setattr__")))
    (xm10_0 : PySem.W.makesIn K x10 = true)
    (xm10_1 : PySem.W.keepIn K (.ref x10) = true)
    (xb11 : PySem.W.excIn K x11 [.type "ValueError", .type "Exception", .type "BaseException", .type "object"] "ValueError.__new__" = true)
    (xk11 : PySem.W.keepIn K (.ref x11) = true)
    (xd11 : PySem.W.subIn K (.ref x11) (.type "BaseException") = some true)
    (xe11 : PySem.W.typeIn K (.ref x11) = some (.type "type"))
    (xo4_0 : PD.oexcB K x4 = true)
    (xo4_1 : PySem.W.findIn K (.ref x4) "__setattr__" = some (some (.builtin "object.__setattr__")))
    (xo4_2 : PySem.W.subIn K (.ref x4) (.type "BaseException") = some true)
    (xo4_3 : PySem.W.typeIn K (.ref x4) = some (.type "type"))
    (xo4_4 : PySem.W.keepIn K (.ref x4) = true)
    (xo4_5 : PySem.W.findIn K (.ref x4) "__init__" = some (some (.ref xf4)))
    (xo4_6 : PySem.W.typeIn K (.ref xf4) = some (.type "function"))
    (xo4_7 : K.lookup xf4 = some ⟨xoc4, xod4, .func (PySem.W.ksFn "__init__" "BadPress.__init__" (defArgs stx_BadPress) (defBody stx_BadPress) (defScope stx_BadPress) .none xkV4 xdc4 xpm4 xan4 (.ref xcd4) xct4 xcc4), xsl4⟩)
    (xo4_8 : PySem.W.codeIn K (.ref xcd4) "BadPress.__init__" = true)
    (xo4_9 : K.lookup xcd4 = some ⟨xccl4, xcdd4, .fields xvs4, xccs4⟩)
    (xo4_10 : xvs4[2]? = some (.str xfile4 xtf4))
    (xo4_11 : ((l.prog.main.file : Str) == xfile4) = true)
    (xo4_12 : (l.prog.main.scope.names.lookup ("super" : Str)).isSome = false)
    (xo4_13 : K.lookup xcc4 = some ⟨xcl4, xcld4, .cell (some (.ref x4)), xcsl4⟩)
    (xo4_14 : PySem.W.ks_superIn K x4 x4 "__init__" = some (some (.builtin "ValueError.__init__")))
    (xo4_15 : PySem.W.subIn K (.ref x4) (.type "ValueError") = some true)
    (xo4_16 : PySem.W.mroIn K x4 (.ref x4) = some true)
    (xo4_17 : PySem.W.nsIn K cStatics "thirdparty.any" = some none)
    (xo4_18 : PySem.W.findIn K (.ref x4) "index" = some none)
    (xo4_19 : PySem.W.nsIn K mainGlobals "super" = some none)
    (q_fd_Rules_rules : PySem.W.findIn K (.ref x10) "rules" = some none)
    (q_ka0 : PySem.W.kitAny K (.ref (x4)) ([x5, x3, x0, x11, x12, x7, x2, x1, x8, x6].map Value.ref) = some false)
    (q_ka1 : PySem.W.kitAny K (.ref (x11)) ([x5, x3, x0, x12, x7, x4, x2, x1, x8, x6].map Value.ref) = some false)
    (q_kbBadPress_ValueError : PySem.W.kitOne K (.ref (x4)) (.type "ValueError") = some true)
    (q_kbTooLong_ValueError : PySem.W.kitOne K (.ref (x11)) (.type "ValueError") = some true)
    (hm4 : PySem.W.exmOne K (.ref x4) (.ref x4) = some true)
    (he4_0 : PySem.W.findIn K (.ref x4) "__getattribute__" = some (some (.builtin "BaseException.__getattribute__")))
    (he4_1 : PySem.W.findIn K (.ref x4) "__getattr__" = some none)
    (he4_2 : PySem.W.subIn K (.ref x4) (.type "BaseException") = some true)
    (he4_3 : PySem.W.hasDictIn K x4 = true)
    (he4_4 : PySem.W.findIn K (.ref x4) "__class__" = some (some (.builtin "object.__class__")))
    (he4_5 : PySem.W.specialIn K (.builtin "object.__class__") "__get__" = some (some (.builtin "getset_descriptor.__get__")))
    (he4_6 : PySem.W.takesIn K (.builtin "object.__class__") = some true)
    (he4_7 : PySem.W.mroIn K x4 (.type "object") = some true)
    (hm11 : PySem.W.exmOne K (.ref x11) (.ref x11) = some true)
    (he11_0 : PySem.W.findIn K (.ref x11) "__getattribute__" = some (some (.builtin "BaseException.__getattribute__")))
    (he11_1 : PySem.W.findIn K (.ref x11) "__getattr__" = some none)
    (he11_2 : PySem.W.subIn K (.ref x11) (.type "BaseException") = some true)
    (he11_3 : PySem.W.hasDictIn K x11 = true)
    (he11_4 : PySem.W.findIn K (.ref x11) "__class__" = some (some (.builtin "object.__class__")))
    (he11_5 : PySem.W.specialIn K (.builtin "object.__class__") "__get__" = some (some (.builtin "getset_descriptor.__get__")))
    (he11_6 : PySem.W.takesIn K (.builtin "object.__class__") = some true)
    (he11_7 : PySem.W.mroIn K x11 (.type "object") = some true)
    (q_xkBadPress_BadCount : PySem.W.kitOne K (.ref x4) (.ref x0) = some false)
    (q_xkBadPress_BadLine : PySem.W.kitOne K (.ref x4) (.ref x1) = some false)
    (q_xkBadPress_BadPaper : PySem.W.kitOne K (.ref x4) (.ref x2) = some false)
    (q_xkBadPress_BadPlaces : PySem.W.kitOne K (.ref x4) (.ref x3) = some false)
    (q_xkBadPress_BadText : PySem.W.kitOne K (.ref x4) (.ref x5) = some false)
    (q_xkBadPress_DeskError : PySem.W.kitOne K (.ref x4) (.ref x6) = some false)
    (q_xkBadPress_NoText : PySem.W.kitOne K (.ref x4) (.ref x7) = some false)
    (q_xkBadPress_NotARoot : PySem.W.kitOne K (.ref x4) (.ref x8) = some false)
    (q_xkBadPress_PressError : PySem.W.kitOne K (.ref x4) (.ref x9) = some true)
    (q_xkBadPress_TooLong : PySem.W.kitOne K (.ref x4) (.ref x11) = some false)
    (q_xkBadPress_TooShort : PySem.W.kitOne K (.ref x4) (.ref x12) = some false)
    (q_xkTooLong_BadCount : PySem.W.kitOne K (.ref x11) (.ref x0) = some false)
    (q_xkTooLong_BadLine : PySem.W.kitOne K (.ref x11) (.ref x1) = some false)
    (q_xkTooLong_BadPaper : PySem.W.kitOne K (.ref x11) (.ref x2) = some false)
    (q_xkTooLong_BadPlaces : PySem.W.kitOne K (.ref x11) (.ref x3) = some false)
    (q_xkTooLong_BadPress : PySem.W.kitOne K (.ref x11) (.ref x4) = some false)
    (q_xkTooLong_BadText : PySem.W.kitOne K (.ref x11) (.ref x5) = some false)
    (q_xkTooLong_DeskError : PySem.W.kitOne K (.ref x11) (.ref x6) = some false)
    (q_xkTooLong_NoText : PySem.W.kitOne K (.ref x11) (.ref x7) = some false)
    (q_xkTooLong_NotARoot : PySem.W.kitOne K (.ref x11) (.ref x8) = some false)
    (q_xkTooLong_PressError : PySem.W.kitOne K (.ref x11) (.ref x9) = some true)
    (q_xkTooLong_TooShort : PySem.W.kitOne K (.ref x11) (.ref x12) = some false)
    (q_xlBadPress_index : PySem.W.findIn K (.ref x4) "index" = some none)
    (q_xnBadPress_TooLong : PySem.W.exmOne K (.ref (x4)) (.ref (x11)) = some false)
    (q_xnTooLong_BadPress : PySem.W.exmOne K (.ref (x11)) (.ref (x4)) = some false)
    (zValueError : PySem.W.nsIn K mainGlobals "ValueError" = some none)
    (zabs : PySem.W.nsIn K mainGlobals "abs" = some none)
    (zbool : PySem.W.nsIn K mainGlobals "bool" = some none)
    (zcLETTERS : PySem.W.nsIn K mainGlobals "LETTERS" = some (some (.str ycLETTERS tcLETTERS)))
    (ycLETTERS_ : ycLETTERS.cps.toList = zc3fcd3d7)
    (zcMOST_RULES : PySem.W.nsIn K mainGlobals "MOST_RULES" = some (some (.int 256 tcMOST_RULES)))
    (zcMOST_TIMES : PySem.W.nsIn K mainGlobals "MOST_TIMES" = some (some (.int 128 tcMOST_TIMES)))
    (zenumerate : PySem.W.nsIn K mainGlobals "enumerate" = some none)
    (zint : PySem.W.nsIn K mainGlobals "int" = some none)
    (zisinstance : PySem.W.nsIn K mainGlobals "isinstance" = some none)
    (zlen : PySem.W.nsIn K mainGlobals "len" = some none)
    (zlist : PySem.W.nsIn K mainGlobals "list" = some none)
    (zmin : PySem.W.nsIn K mainGlobals "min" = some none)
    (zrange : PySem.W.nsIn K mainGlobals "range" = some none)
    (zstr : PySem.W.nsIn K mainGlobals "str" = some none)
    (ztuple : PySem.W.nsIn K mainGlobals "tuple" = some none)
    (hlaw : ∀ ns : List Int, ns.length ≤ 63 → (∀ z ∈ ns, Builtin.Int.intBits z ≤ 1048576) → m_law [.scr ns] = .ok (.bl true)) :
    LamX.LawAtS l w K (L2.CX l.prog w) 12 63 "script" mg fa h := by
  have e := hfa.symm.trans (PySem.W.mg_of X G a25)
  cases e
  have nb : Nb mg := ⟨PySem.W.mg_none_of X G zValueError, PySem.W.mg_none_of X G zabs, PySem.W.mg_none_of X G zbool, ⟨_, _, PySem.W.mg_of X G zcLETTERS, ycLETTERS_⟩, ⟨_, PySem.W.mg_of X G zcMOST_RULES⟩, ⟨_, PySem.W.mg_of X G zcMOST_TIMES⟩, PySem.W.mg_none_of X G zenumerate, PySem.W.mg_none_of X G zint, PySem.W.mg_none_of X G zisinstance, PySem.W.mg_none_of X G zlen, PySem.W.mg_none_of X G zlist, PySem.W.mg_none_of X G zmin, PySem.W.mg_none_of X G zrange, PySem.W.mg_none_of X G zstr, PySem.W.mg_none_of X G ztuple⟩
  have F0 := fun_mk (st := st_law_draws) l0 d0 k0
  have B0 := F0.binds (ps := ["cell", "sizes"]) fun _ _ _ _ _ _ us hl => match us, hl with | [_, _], _ => rfl
  have F1 := fun_mk (st := st_law_size) l1 d1 k1
  have B1 := F1.binds (ps := ["mode", "number", "most"]) fun _ _ _ _ _ _ us hl => match us, hl with | [_, _, _], _ => rfl
  have F2 := fun_mk (st := st_law_letter) l2 d2 k2
  have B2 := F2.binds (ps := ["number"]) fun _ _ _ _ _ _ us hl => match us, hl with | [_], _ => rfl
  have F3 := fun_mk (st := st_law_parts) l3 d3 k3
  have B3 := F3.binds (ps := ["rule"]) fun _ _ _ _ _ _ us hl => match us, hl with | [_], _ => rfl
  have F4 := fun_mk (st := st_law_lengths) l4 d4 k4
  have B4 := F4.binds (ps := ["rules"]) fun _ _ _ _ _ _ us hl => match us, hl with | [_], _ => rfl
  have F5 := fun_mk (st := st_law_rules) l5 d5 k5
  have B5 := F5.binds (ps := ["cell", "wild"]) fun _ _ _ _ _ _ us hl => match us, hl with | [_, _], _ => rfl
  have F6 := fun_mk (st := st_law_wrong) l6 d6 k6
  have B6 := F6.binds (ps := ["rule", "many"]) fun _ _ _ _ _ _ us hl => match us, hl with | [_, _], _ => rfl
  have F7 := fun_mk (st := st_law_mended) l7 d7 k7
  have B7 := F7.binds (ps := ["rules"]) fun _ _ _ _ _ _ us hl => match us, hl with | [_], _ => rfl
  have F8 := fun_mk (st := st_law_cell) l8 d8 k8
  have B8 := F8.binds (ps := ["script", "k"]) fun _ _ _ _ _ _ us hl => match us, hl with | [_, _], _ => rfl
  have F9 := fun_mk (st := st_law_each) l9 d9 k9
  have B9 := F9.binds (ps := ["script", "many"]) fun _ _ _ _ _ _ us hl => match us, hl with | [_, _], _ => rfl
  have F10 := fun_mk (st := st_law_sign) l10 d10 k10
  have B10 := F10.binds (ps := ["number"]) fun _ _ _ _ _ _ us hl => match us, hl with | [_], _ => rfl
  have F11 := fun_mk (st := st_law_spoilt) l11 d11 k11
  have B11 := F11.binds (ps := ["rules", "cell"]) fun _ _ _ _ _ _ us hl => match us, hl with | [_, _], _ => rfl
  have F12 := fun_mk (st := st_parts_of) l12 d12 k12
  have B12 := F12.binds (ps := ["rule"]) fun _ _ _ _ _ _ us hl => match us, hl with | [_], _ => rfl
  have F13 := fun_mk (st := st_is_letter) l13 d13 k13
  have B13 := F13.binds (ps := ["sign"]) fun _ _ _ _ _ _ us hl => match us, hl with | [_], _ => rfl
  have F14 := fun_mk (st := st_is_valid_rule) l14 d14 k14
  have B14 := F14.binds (ps := ["rule", "count"]) fun _ _ _ _ _ _ us hl => match us, hl with | [_, _], _ => rfl
  have F15 := fun_mk (st := st_check_rules) l15 d15 k15
  have B15 := F15.binds (ps := ["rules"]) fun _ _ _ _ _ _ us hl => match us, hl with | [_], _ => rfl
  have F16 := fun_mk (st := st_Rules_init) l16 d16 k16
  have B16 := F16.binds (ps := ["self", "rules"]) fun _ _ _ _ _ _ us hl => match us, hl with | [_, _], _ => rfl
  have F17 := fun_mk (st := st_law_try) l17 d17 k17
  have B17 := F17.binds (ps := ["rules"]) fun _ _ _ _ _ _ us hl => match us, hl with | [_], _ => rfl
  have F18 := fun_mk (st := st_law_is_int) l18 d18 k18
  have B18 := F18.binds (ps := ["x"]) fun _ _ _ _ _ _ us hl => match us, hl with | [_], _ => rfl
  have F19 := fun_mk (st := st_law_same) l19 d19 k19
  have B19 := F19.binds (ps := ["got", "due"]) fun _ _ _ _ _ _ us hl => match us, hl with | [_, _], _ => rfl
  have F20 := fun_mk (st := st_law_due) l20 d20 k20
  have B20 := F20.binds (ps := ["rules"]) fun _ _ _ _ _ _ us hl => match us, hl with | [_], _ => rfl
  have F21 := fun_mk (st := st_used_names) l21 d21 k21
  have B21 := F21.binds (ps := ["rules"]) fun _ _ _ _ _ _ us hl => match us, hl with | [_], _ => rfl
  have F22 := fun_mk (st := st_Rules_size) l22 d22 k22
  have B22 := F22.binds (ps := ["self"]) fun _ _ _ _ _ _ us hl => match us, hl with | [_], _ => rfl
  have F23 := fun_mk (st := st_law_reached) l23 d23 k23
  have B23 := F23.binds (ps := ["rules"]) fun _ _ _ _ _ _ us hl => match us, hl with | [_], _ => rfl
  have F24 := fun_mk (st := st_law_holds) l24 d24 k24
  have B24 := F24.binds (ps := ["told", "rules"]) fun _ _ _ _ _ _ us hl => match us, hl with | [_, _], _ => rfl
  have F25 := fun_mk (st := st_law) l25 d25 k25
  let ca : Str → Addr := fun n => if n = "BadCount" then x0 else if n = "BadLine" then x1 else if n = "BadPaper" then x2 else if n = "BadPlaces" then x3 else if n = "BadPress" then x4 else if n = "BadText" then x5 else if n = "DeskError" then x6 else if n = "NoText" then x7 else if n = "NotARoot" then x8 else if n = "PressError" then x9 else if n = "Rules" then x10 else if n = "TooLong" then x11 else if n = "TooShort" then x12 else 0
  have ca0 : ca "BadCount" = x0 := by first | rfl | (show (if _ then _ else _) = _; simp) | decide
  have ca1 : ca "BadLine" = x1 := by first | rfl | (show (if _ then _ else _) = _; simp) | decide
  have ca2 : ca "BadPaper" = x2 := by first | rfl | (show (if _ then _ else _) = _; simp) | decide
  have ca3 : ca "BadPlaces" = x3 := by first | rfl | (show (if _ then _ else _) = _; simp) | decide
  have ca4 : ca "BadPress" = x4 := by first | rfl | (show (if _ then _ else _) = _; simp) | decide
  have ca5 : ca "BadText" = x5 := by first | rfl | (show (if _ then _ else _) = _; simp) | decide
  have ca6 : ca "DeskError" = x6 := by first | rfl | (show (if _ then _ else _) = _; simp) | decide
  have ca7 : ca "NoText" = x7 := by first | rfl | (show (if _ then _ else _) = _; simp) | decide
  have ca8 : ca "NotARoot" = x8 := by first | rfl | (show (if _ then _ else _) = _; simp) | decide
  have ca9 : ca "PressError" = x9 := by first | rfl | (show (if _ then _ else _) = _; simp) | decide
  have ca10 : ca "Rules" = x10 := by first | rfl | (show (if _ then _ else _) = _; simp) | decide
  have ca11 : ca "TooLong" = x11 := by first | rfl | (show (if _ then _ else _) = _; simp) | decide
  have ca12 : ca "TooShort" = x12 := by first | rfl | (show (if _ then _ else _) = _; simp) | decide
  refine law_at (fd := PySem.W.fnOf "law" "law" (defArgs st_law) (defBody st_law) (defScope st_law) .none kV25 dc25 pm25 an25 cd25 ct25) [] ca m_law ?T (fun s u => .of_eq rfl) hlaw ?W
  case T =>
    exact fun p hp => nomatch hp
  case W =>
    intro base kb nbs tb
    have xcTooLong : Xcl K mg ⟨K, ca, []⟩ "TooLong" := xcl_mk ca11 (PySem.W.mg_of X G xa11) xb11 xk11 xd11 xe11
    have xT4 := oexc_mk xo4_0 xo4_1 xo4_2 xo4_3 xo4_4
    have xrBadPress : XcF l.prog w K mg base ⟨K, ca, []⟩ 1 "BadPress" "index" := xcF_mk ca4 (PySem.W.mg_of X G xa4) xT4 xo4_5 xo4_6 (okx_BadPress xo4_7 xo4_8 xo4_9 xo4_10 xo4_11 xo4_12 xo4_13 xT4 xo4_14 xo4_15 xo4_16 xo4_17 xo4_18 (PySem.W.mg_none_of X G xo4_19)) (L2.Binds.all fun us hl => match us, hl with | [_, _], _ => rfl)
    have fd_Rules_rules : FldC K "Rules" "rules" := fldC_mk xa10 xp10_0 xp10_1 xp10_2 xp10_3 q_fd_Rules_rules
    have ka0 : PySem.W.kitAny K (.ref (ca "BadPress")) ([ca "BadText", ca "BadPlaces", ca "BadCount", ca "TooLong", ca "TooShort", ca "NoText", ca "BadPaper", ca "BadLine", ca "NotARoot", ca "DeskError"].map Value.ref) = some false := by simp only [ca0, ca1, ca2, ca3, ca4, ca5, ca6, ca7, ca8, ca9, ca10, ca11, ca12]; exact q_ka0
    have ka1 : PySem.W.kitAny K (.ref (ca "TooLong")) ([ca "BadText", ca "BadPlaces", ca "BadCount", ca "TooShort", ca "NoText", ca "BadPress", ca "BadPaper", ca "BadLine", ca "NotARoot", ca "DeskError"].map Value.ref) = some false := by simp only [ca0, ca1, ca2, ca3, ca4, ca5, ca6, ca7, ca8, ca9, ca10, ca11, ca12]; exact q_ka1
    have kbBadPress_ValueError : PySem.W.kitOne K (.ref (ca "BadPress")) (.type "ValueError") = some true := kb_mk ca4 q_kbBadPress_ValueError
    have kbTooLong_ValueError : PySem.W.kitOne K (.ref (ca "TooLong")) (.type "ValueError") = some true := kb_mk ca11 q_kbTooLong_ValueError
    have xhBadPress : XH K mg ⟨K, ca, []⟩ "BadPress" := xh_mk ca4 (PySem.W.mg_of X G xa4) hm4 ⟨he4_0, he4_1, he4_2, he4_3, he4_4, he4_5, he4_6, he4_7⟩
    have xhTooLong : XH K mg ⟨K, ca, []⟩ "TooLong" := xh_mk ca11 (PySem.W.mg_of X G xa11) hm11 ⟨he11_0, he11_1, he11_2, he11_3, he11_4, he11_5, he11_6, he11_7⟩
    have xkBadPress_BadCount : XK K mg ⟨K, ca, []⟩ "BadPress" "BadCount" false := xk_mk ca4 ca0 (PySem.W.mg_of X G xa0) q_xkBadPress_BadCount
    have xkBadPress_BadLine : XK K mg ⟨K, ca, []⟩ "BadPress" "BadLine" false := xk_mk ca4 ca1 (PySem.W.mg_of X G xa1) q_xkBadPress_BadLine
    have xkBadPress_BadPaper : XK K mg ⟨K, ca, []⟩ "BadPress" "BadPaper" false := xk_mk ca4 ca2 (PySem.W.mg_of X G xa2) q_xkBadPress_BadPaper
    have xkBadPress_BadPlaces : XK K mg ⟨K, ca, []⟩ "BadPress" "BadPlaces" false := xk_mk ca4 ca3 (PySem.W.mg_of X G xa3) q_xkBadPress_BadPlaces
    have xkBadPress_BadText : XK K mg ⟨K, ca, []⟩ "BadPress" "BadText" false := xk_mk ca4 ca5 (PySem.W.mg_of X G xa5) q_xkBadPress_BadText
    have xkBadPress_DeskError : XK K mg ⟨K, ca, []⟩ "BadPress" "DeskError" false := xk_mk ca4 ca6 (PySem.W.mg_of X G xa6) q_xkBadPress_DeskError
    have xkBadPress_NoText : XK K mg ⟨K, ca, []⟩ "BadPress" "NoText" false := xk_mk ca4 ca7 (PySem.W.mg_of X G xa7) q_xkBadPress_NoText
    have xkBadPress_NotARoot : XK K mg ⟨K, ca, []⟩ "BadPress" "NotARoot" false := xk_mk ca4 ca8 (PySem.W.mg_of X G xa8) q_xkBadPress_NotARoot
    have xkBadPress_PressError : XK K mg ⟨K, ca, []⟩ "BadPress" "PressError" true := xk_mk ca4 ca9 (PySem.W.mg_of X G xa9) q_xkBadPress_PressError
    have xkBadPress_TooLong : XK K mg ⟨K, ca, []⟩ "BadPress" "TooLong" false := xk_mk ca4 ca11 (PySem.W.mg_of X G xa11) q_xkBadPress_TooLong
    have xkBadPress_TooShort : XK K mg ⟨K, ca, []⟩ "BadPress" "TooShort" false := xk_mk ca4 ca12 (PySem.W.mg_of X G xa12) q_xkBadPress_TooShort
    have xkTooLong_BadCount : XK K mg ⟨K, ca, []⟩ "TooLong" "BadCount" false := xk_mk ca11 ca0 (PySem.W.mg_of X G xa0) q_xkTooLong_BadCount
    have xkTooLong_BadLine : XK K mg ⟨K, ca, []⟩ "TooLong" "BadLine" false := xk_mk ca11 ca1 (PySem.W.mg_of X G xa1) q_xkTooLong_BadLine
    have xkTooLong_BadPaper : XK K mg ⟨K, ca, []⟩ "TooLong" "BadPaper" false := xk_mk ca11 ca2 (PySem.W.mg_of X G xa2) q_xkTooLong_BadPaper
    have xkTooLong_BadPlaces : XK K mg ⟨K, ca, []⟩ "TooLong" "BadPlaces" false := xk_mk ca11 ca3 (PySem.W.mg_of X G xa3) q_xkTooLong_BadPlaces
    have xkTooLong_BadPress : XK K mg ⟨K, ca, []⟩ "TooLong" "BadPress" false := xk_mk ca11 ca4 (PySem.W.mg_of X G xa4) q_xkTooLong_BadPress
    have xkTooLong_BadText : XK K mg ⟨K, ca, []⟩ "TooLong" "BadText" false := xk_mk ca11 ca5 (PySem.W.mg_of X G xa5) q_xkTooLong_BadText
    have xkTooLong_DeskError : XK K mg ⟨K, ca, []⟩ "TooLong" "DeskError" false := xk_mk ca11 ca6 (PySem.W.mg_of X G xa6) q_xkTooLong_DeskError
    have xkTooLong_NoText : XK K mg ⟨K, ca, []⟩ "TooLong" "NoText" false := xk_mk ca11 ca7 (PySem.W.mg_of X G xa7) q_xkTooLong_NoText
    have xkTooLong_NotARoot : XK K mg ⟨K, ca, []⟩ "TooLong" "NotARoot" false := xk_mk ca11 ca8 (PySem.W.mg_of X G xa8) q_xkTooLong_NotARoot
    have xkTooLong_PressError : XK K mg ⟨K, ca, []⟩ "TooLong" "PressError" true := xk_mk ca11 ca9 (PySem.W.mg_of X G xa9) q_xkTooLong_PressError
    have xkTooLong_TooShort : XK K mg ⟨K, ca, []⟩ "TooLong" "TooShort" false := xk_mk ca11 ca12 (PySem.W.mg_of X G xa12) q_xkTooLong_TooShort
    have xlBadPress_index : XfL K ⟨K, ca, []⟩ "BadPress" "index" := xfL_mk ca4 ⟨he4_0, he4_1, he4_2, he4_3⟩ q_xlBadPress_index
    have xnBadPress_TooLong : PySem.W.exmOne K (.ref (ca "BadPress")) (.ref (ca "TooLong")) = some false := by simp only [ca0, ca1, ca2, ca3, ca4, ca5, ca6, ca7, ca8, ca9, ca10, ca11, ca12]; exact q_xnBadPress_TooLong
    have xnTooLong_BadPress : PySem.W.exmOne K (.ref (ca "TooLong")) (.ref (ca "BadPress")) = some false := by simp only [ca0, ca1, ca2, ca3, ca4, ca5, ca6, ca7, ca8, ca9, ca10, ca11, ca12]; exact q_xnTooLong_BadPress
    have c_law_draws : Cal l.prog w K mg base ⟨K, ca, []⟩ "_law_draws" 1 .s 2 m_law_draws := cal_of (ok_law_draws F0 nb) F0 B0 (PySem.W.mg_of X G a0)
    have c_law_size : Cal l.prog w K mg base ⟨K, ca, []⟩ "_law_size" 1 .s 3 m_law_size := cal_of (ok_law_size F1 nb) F1 B1 (PySem.W.mg_of X G a1)
    have c_law_letter : Cal l.prog w K mg base ⟨K, ca, []⟩ "_law_letter" 1 .s 1 m_law_letter := cal_of (ok_law_letter F2 nb) F2 B2 (PySem.W.mg_of X G a2)
    have c_law_parts : Cal l.prog w K mg base ⟨K, ca, []⟩ "_law_parts" 1 (.l .s) 1 m_law_parts := cal_of (ok_law_parts F3 ) F3 B3 (PySem.W.mg_of X G a3)
    have c_law_lengths : Cal l.prog w K mg base ⟨K, ca, []⟩ "_law_lengths" 2 (.l .s) 1 m_law_lengths := cal_of (ok_law_lengths F4 nb c_law_parts) F4 B4 (PySem.W.mg_of X G a4)
    have c_law_rules : Cal l.prog w K mg base ⟨K, ca, []⟩ "_law_rules" 3 .s 2 m_law_rules := cal_of (ok_law_rules F5 nb c_law_draws c_law_size c_law_letter c_law_lengths) F5 B5 (PySem.W.mg_of X G a5)
    have c_law_wrong : Cal l.prog w K mg base ⟨K, ca, []⟩ "_law_wrong" 2 .s 2 m_law_wrong := cal_of (ok_law_wrong F6 nb c_law_parts) F6 B6 (PySem.W.mg_of X G a6)
    have c_law_mended : Cal l.prog w K mg base ⟨K, ca, []⟩ "_law_mended" 3 .s 1 m_law_mended := cal_of (ok_law_mended F7 nb c_law_wrong) F7 B7 (PySem.W.mg_of X G a7)
    have c_law_cell : Cal l.prog w K mg base ⟨K, ca, []⟩ "_law_cell" 1 .s 2 m_law_cell := cal_of (ok_law_cell F8 nb) F8 B8 (PySem.W.mg_of X G a8)
    have c_law_each : Cal l.prog w K mg base ⟨K, ca, []⟩ "_law_each" 2 .s 2 m_law_each := cal_of (ok_law_each F9 nb c_law_draws c_law_letter c_law_cell) F9 B9 (PySem.W.mg_of X G a9)
    have c_law_sign : Cal l.prog w K mg base ⟨K, ca, []⟩ "_law_sign" 1 .s 1 m_law_sign := cal_of (ok_law_sign F10 nb) F10 B10 (PySem.W.mg_of X G a10)
    have c_law_spoilt : Cal l.prog w K mg base ⟨K, ca, []⟩ "_law_spoilt" 2 .s 2 m_law_spoilt := cal_of (ok_law_spoilt F11 nb c_law_draws c_law_letter c_law_sign) F11 B11 (PySem.W.mg_of X G a11)
    have c_parts_of : Cal l.prog w K mg base ⟨K, ca, []⟩ "parts_of" 1 (.l .s) 1 m_parts_of := cal_of (ok_parts_of F12 ) F12 B12 (PySem.W.mg_of X G a12)
    have c_is_letter : Cal l.prog w K mg base ⟨K, ca, []⟩ "is_letter" 1 .s 1 m_is_letter := cal_of (ok_is_letter F13 nb) F13 B13 (PySem.W.mg_of X G a13)
    have c_is_valid_rule : Cal l.prog w K mg base ⟨K, ca, []⟩ "is_valid_rule" 2 .s 2 m_is_valid_rule := cal_of (ok_is_valid_rule F14 nb c_parts_of c_is_letter) F14 B14 (PySem.W.mg_of X G a14)
    have c_check_rules : Cal l.prog w K mg base ⟨K, ca, []⟩ "check_rules" 3 .s 1 m_check_rules := cal_of (ok_check_rules F15 nb xcTooLong xrBadPress c_is_valid_rule) F15 B15 (PySem.W.mg_of X G a15)
    have mk_Rules : MkC l.prog w K mg base ⟨K, ca, []⟩ "Rules" 4 ["rules"] 1 m_Rules_init := mkC_mk xa10 (PySem.W.mg_of X G xa10) xm10_0 a16 j16 xm10_1 (ok_Rules_init F16 nb fd_Rules_rules c_check_rules) B16
    have c_law_try : Cal l.prog w K mg base ⟨K, ca, []⟩ "_law_try" 6 .s 1 m_law_try := cal_of (ok_law_try F17 nb ka0 ka1 kbBadPress_ValueError kbTooLong_ValueError xhBadPress xhTooLong xkBadPress_BadCount xkBadPress_BadLine xkBadPress_BadPaper xkBadPress_BadPlaces xkBadPress_BadText xkBadPress_DeskError xkBadPress_NoText xkBadPress_NotARoot xkBadPress_PressError xkBadPress_TooLong xkBadPress_TooShort xkTooLong_BadCount xkTooLong_BadLine xkTooLong_BadPaper xkTooLong_BadPlaces xkTooLong_BadPress xkTooLong_BadText xkTooLong_DeskError xkTooLong_NoText xkTooLong_NotARoot xkTooLong_PressError xkTooLong_TooShort xlBadPress_index xnBadPress_TooLong xnTooLong_BadPress mk_Rules) F17 B17 (PySem.W.mg_of X G a17)
    have c_law_is_int : Cal l.prog w K mg base ⟨K, ca, []⟩ "_law_is_int" 1 .s 1 m_law_is_int := cal_of (ok_law_is_int F18 nb) F18 B18 (PySem.W.mg_of X G a18)
    have c_law_same : Cal l.prog w K mg base ⟨K, ca, []⟩ "_law_same" 10 .s 2 (m_law_same 8) := cal_of (ok_law_same F19 B19 (PySem.W.mg_of X G a19) nb c_law_is_int 8) F19 B19 (PySem.W.mg_of X G a19)
    have c_law_due : Cal l.prog w K mg base ⟨K, ca, []⟩ "_law_due" 3 .s 1 m_law_due := cal_of (ok_law_due F20 nb c_law_wrong) F20 B20 (PySem.W.mg_of X G a20)
    have c_used_names : Cal l.prog w K mg base ⟨K, ca, []⟩ "used_names" 2 (.l .s) 1 m_used_names := cal_of (ok_used_names F21 nb c_parts_of) F21 B21 (PySem.W.mg_of X G a21)
    have c_Rules_size : MCal l.prog w K mg base ⟨K, ca, []⟩ "Rules" "size" 3 .s 0 m_Rules_size := mcal_mk xa10 xp10_0 xp10_1 xp10_2 xp10_3 a22 j22 k22 (ok_Rules_size F22 nb fd_Rules_rules c_used_names) B22
    have c_law_reached : Cal l.prog w K mg base ⟨K, ca, []⟩ "_law_reached" 2 .s 1 m_law_reached := cal_of (ok_law_reached F23 nb c_law_parts) F23 B23 (PySem.W.mg_of X G a23)
    have c_law_holds : Cal l.prog w K mg base ⟨K, ca, []⟩ "_law_holds" 11 .s 2 m_law_holds := cal_of (ok_law_holds F24 nb fd_Rules_rules c_law_same c_law_due c_Rules_size c_law_reached) F24 B24 (PySem.W.mg_of X G a24)
    exact ok_law F25 nb c_law_draws c_law_size c_law_letter c_law_rules c_law_mended c_law_cell c_law_each c_law_spoilt c_law_try c_law_same c_law_holds
end K18
set_option linter.all false
/-! # the graph of sources: chains and rings, in plain Lean -/
namespace PK
noncomputable abbrev S := List (Option Nat)
noncomputable def nxt (s : S) (p : Nat) : Option Nat := s[p]?.join
noncomputable def Good (s : S) : Prop := ∀ p q, nxt s p = some q → q < s.length
/-- the chain from p, at most k items -/
noncomputable def chainF (s : S) : Nat → Nat → Option (List Nat)
  | 0, _ => none
  | k + 1, p => match nxt s p with
    | none => some [p]
    | some q => (chainF s k q).map (p :: ·)
theorem chainF_some {s : S} {k p q : Nat} (h : nxt s p = some q) : chainF s (k + 1) p = (chainF s k q).map (p :: ·) := by
  show (match nxt s p with | none => some [p] | some q => (chainF s k q).map (p :: ·)) = _
  rw [h]
theorem chainF_none {s : S} {k p : Nat} (h : nxt s p = none) : chainF s (k + 1) p = some [p] := by
  show (match nxt s p with | none => some [p] | some q => (chainF s k q).map (p :: ·)) = _
  rw [h]
theorem chainF_mono {s : S} : ∀ {k p : Nat} {c : List Nat} {j : Nat}, chainF s k p = some c → k ≤ j → chainF s j p = some c
  | 0, _, _, _, h, _ => by simp [chainF] at h
  | k + 1, p, c, 0, h, l => by omega
  | k + 1, p, c, j + 1, h, l => by
    cases q : nxt s p with
    | none => rw [chainF_none q] at h ⊢; exact h
    | some x =>
      rw [chainF_some q] at h ⊢
      cases r : chainF s k x with
      | none => rw [r] at h; cases h
      | some c' => rw [chainF_mono (j := j) r (by omega)]; rw [r] at h; exact h
theorem chainF_det {s : S} {k j p : Nat} {c d : List Nat} (h : chainF s k p = some c) (g : chainF s j p = some d) : c = d := by
  rcases Nat.le_total k j with l | l
  · have := chainF_mono h l; rw [this] at g; exact Option.some.inj g
  · have := chainF_mono g l; rw [this] at h; exact (Option.some.inj h).symm
theorem chainF_len {s : S} : ∀ {k p : Nat} {c : List Nat}, chainF s k p = some c → chainF s c.length p = some c ∧ c.head? = some p ∧ 1 ≤ c.length
  | 0, _, _, h => by simp [chainF] at h
  | k + 1, p, c, h => by
    cases q : nxt s p with
    | none => rw [chainF_none q] at h; cases h; exact ⟨chainF_none q, rfl, Nat.le_refl _⟩
    | some x =>
      rw [chainF_some q] at h
      cases r : chainF s k x with
      | none => rw [r] at h; cases h
      | some c' =>
        rw [r] at h; cases h
        obtain ⟨a, b, e⟩ := chainF_len r
        refine ⟨?_, rfl, by simp⟩
        show chainF s (c'.length + 1) p = _
        rw [chainF_some q, a]; rfl
/-- each item of a chain has the rest of it as its chain -/
theorem chainF_mem {s : S} : ∀ {k p : Nat} {c : List Nat} {x : Nat}, chainF s k p = some c → x ∈ c → ∃ d, chainF s d.length x = some d ∧ d.length ≤ c.length ∧ (x ≠ p → d.length < c.length)
  | 0, _, _, _, h, _ => by simp [chainF] at h
  | k + 1, p, c, x, h, m => by
    cases q : nxt s p with
    | none =>
      rw [chainF_none q] at h; cases h
      obtain rfl : x = p := by simpa using m
      exact ⟨[x], chainF_none q, Nat.le_refl _, fun n => absurd rfl n⟩
    | some y =>
      have h0 := h
      rw [chainF_some q] at h
      cases r : chainF s k y with
      | none => rw [r] at h; cases h
      | some c' =>
        rw [r] at h; cases h
        rcases List.mem_cons.mp m with e | m
        · subst e
          exact ⟨_, (chainF_len h0).1, Nat.le_refl _, fun n => absurd rfl n⟩
        · obtain ⟨d, a, b, _⟩ := chainF_mem r m
          exact ⟨d, a, by simp; omega, fun _ => by simp; omega⟩
theorem chainF_nodup {s : S} : ∀ {k p : Nat} {c : List Nat}, chainF s k p = some c → c.Nodup
  | 0, _, _, h => by simp [chainF] at h
  | k + 1, p, c, h => by
    cases q : nxt s p with
    | none => rw [chainF_none q] at h; cases h; simp
    | some y =>
      have h0 := h
      rw [chainF_some q] at h
      cases r : chainF s k y with
      | none => rw [r] at h; cases h
      | some c' =>
        rw [r] at h; cases h
        refine List.nodup_cons.mpr ⟨fun m => ?_, chainF_nodup r⟩
        obtain ⟨d, a, b, _⟩ := chainF_mem r m
        have e := chainF_det a h0
        rw [e] at b
        simp at b
        omega
theorem nodup_le : ∀ (n : Nat) (l : List Nat), l.Nodup → (∀ x ∈ l, x < n) → l.length ≤ n
  | 0, [], _, _ => Nat.le_refl _
  | 0, x :: l, _, h => by have := h x List.mem_cons_self; omega
  | n + 1, l, nd, h => by
    have h1 := nodup_le n (l.erase n) (nd.erase n) (fun x m => by
      have hx := List.mem_of_mem_erase m
      have ne : x ≠ n := fun e => by
        subst e
        exact (List.Nodup.not_mem_erase nd) m
      have := h x hx
      omega)
    have h2 : l.length ≤ (l.erase n).length + 1 := by
      by_cases m : n ∈ l
      · rw [List.length_erase_of_mem m]; omega
      · rw [List.erase_of_not_mem m]; omega
    omega
theorem chainF_lt {s : S} (g : Good s) : ∀ {k p : Nat} {c : List Nat}, p < s.length → chainF s k p = some c → ∀ x ∈ c, x < s.length
  | 0, _, _, _, h => by simp [chainF] at h
  | k + 1, p, c, hp, h => by
    cases q : nxt s p with
    | none => rw [chainF_none q] at h; cases h; intro x m; have e : x = p := by simpa using m
              rw [e]; exact hp
    | some y =>
      rw [chainF_some q] at h
      cases r : chainF s k y with
      | none => rw [r] at h; cases h
      | some c' =>
        rw [r] at h; cases h
        intro x m
        rcases List.mem_cons.mp m with e | m
        · subst e; exact hp
        · exact chainF_lt g (g _ _ q) r x m
/-- a chain that ends has at most as many items as there are positions -/
theorem chainF_fit {s : S} (g : Good s) {k p : Nat} {c : List Nat} (hp : p < s.length) (h : chainF s k p = some c) : chainF s s.length p = some c ∧ c.length ≤ s.length := by
  have l := nodup_le s.length c (chainF_nodup h) (chainF_lt g hp h)
  exact ⟨chainF_mono (chainF_len h).1 l, l⟩
/-- the chain, if there is one -/
noncomputable def Ends (s : S) (p : Nat) (c : List Nat) : Prop := ∃ k, chainF s k p = some c
theorem Ends.fuel {s : S} (g : Good s) {p : Nat} {c : List Nat} (hp : p < s.length) (h : Ends s p c) {k : Nat} (hk : s.length ≤ k) : chainF s k p = some c := by
  obtain ⟨j, a⟩ := h
  exact chainF_mono (chainF_fit g hp a).1 hk
theorem Ends.stop {s : S} {p : Nat} (h : nxt s p = none) : Ends s p [p] := ⟨1, chainF_none h⟩
theorem Ends.step {s : S} {p q : Nat} {c : List Nat} (h : nxt s p = some q) : Ends s q c → Ends s p (p :: c)
  | ⟨k, a⟩ => ⟨k + 1, by rw [chainF_some h, a]; rfl⟩
/-- induction along a chain -/
theorem Ends.ind {s : S} {P : Nat → List Nat → Prop} (h0 : ∀ p, nxt s p = none → P p [p]) (h1 : ∀ p q c, nxt s p = some q → Ends s q c → P q c → P p (p :: c)) : ∀ {p : Nat} {c : List Nat}, Ends s p c → P p c := by
  have key : ∀ (k : Nat) (p : Nat) (c : List Nat), chainF s k p = some c → P p c := by
    intro k
    induction k with
    | zero => intro p c h; simp [chainF] at h
    | succ k ih =>
      intro p c h
      cases q : nxt s p with
      | none => rw [chainF_none q] at h; cases h; exact h0 p q
      | some y =>
        rw [chainF_some q] at h
        cases r : chainF s k y with
        | none => rw [r] at h; cases h
        | some d => rw [r] at h; cases h; exact h1 p y d q ⟨k, r⟩ (ih y d r)
  intro p c ⟨k, h⟩
  exact key k p c h

/-! ## rings -/
/-- a walk over items from f on, till there is none or one below f -/
inductive Path (s : S) (f : Nat) : Option Nat → List Nat → Option Nat → Prop
  | none : Path s f none [] none
  | low {x : Nat} : x < f → Path s f (some x) [] (some x)
  | step {x : Nat} {l : List Nat} {e : Option Nat} : f ≤ x → Path s f (nxt s x) l e → Path s f (some x) (x :: l) e
theorem Path.app {s : S} {f : Nat} {a e e' : Option Nat} {l l' : List Nat} (h : Path s (f + 1) a l e) (hf : e = some f) (g : Path s (f + 1) (nxt s f) l' e') (n : e' ≠ some f) : Path s f a (l ++ f :: l') e' := by
  have up : ∀ {a e : Option Nat} {l : List Nat}, Path s (f + 1) a l e → e ≠ some f → Path s f a l e := by
    intro a e l h
    induction h with
    | none => intro _; exact .none
    | @low x h => intro n; exact .low (by have : x ≠ f := fun z => n (by rw [z]); omega)
    | step h _ ih => intro n; exact .step (by omega) (ih n)
  induction h with
  | none => cases hf
  | low h => cases hf; exact .step (Nat.le_refl _) (up g n)
  | step h _ ih => exact .step (by omega) (ih hf)
/-! ### the program's walk, and the law's -/
/-- items above f, at most k of them; what comes next -/
noncomputable def wkP (s : S) (f : Nat) : Nat → Option Nat → List Nat × Option Nat
  | 0, a => ([], a)
  | _ + 1, none => ([], none)
  | k + 1, some x => if f < x then ((x :: (wkP s f k (nxt s x)).1), (wkP s f k (nxt s x)).2) else ([], some x)
/-- the ring from f on that the program tells, or nothing -/
noncomputable def ringP (s : S) (f : Nat) : List Nat := if (wkP s f (s.length - 1) (nxt s f)).2 = some f then f :: (wkP s f (s.length - 1) (nxt s f)).1 else []
/-- all rings, in order -/
noncomputable def rings (s : S) : List (List Nat) := ((List.range s.length).map (ringP s)).filter (fun l => !l.isEmpty)
end PK
set_option linter.all false
set_option maxRecDepth 100000
set_option maxHeartbeats 1000000
/-! # lists of rules, in plain terms -/
namespace RU
inductive Rl where
  | let_ (c : Nat) | pair (l r : Nat) | pow (p t : Nat)
deriving DecidableEq
noncomputable def Rl.parts : Rl → List Nat
  | .let_ _ => []
  | .pair l r => [l, r]
  | .pow p _ => [p]
noncomputable abbrev RS := List Rl
noncomputable def allS {α : Type} : List (Option α) → Option (List α)
  | [] => some []
  | none :: _ => none
  | some x :: l => (allS l).map (x :: ·)
theorem allS_some {α : Type} : ∀ {l : List (Option α)} {xs : List α}, allS l = some xs → l = xs.map some
  | [], xs, h => by cases h; rfl
  | none :: _, _, h => by cases h
  | some x :: l, xs, h => by
    have h : (allS l).map (x :: ·) = some xs := h
    cases q : allS l with
    | none => rw [q] at h; cases h
    | some ys =>
      rw [q] at h
      cases h
      rw [allS_some q]; rfl
section
variable {α : Type} {g : Rl → List α → α} {S : RS}
/-- what a name comes to, within f steps -/
noncomputable def evF (g : Rl → List α → α) (S : RS) : Nat → Nat → Option α
  | 0, _ => none
  | f + 1, k => match S[k]? with
    | none => none
    | some r => (allS (r.parts.map (evF g S f))).map (g r)
theorem allS_mono {f h : Nat → Option α} (hm : ∀ p v, f p = some v → h p = some v) : ∀ {ps : List Nat} {xs : List α}, allS (ps.map f) = some xs → allS (ps.map h) = some xs
  | [], xs, e => e
  | p :: ps, xs, e => by
    rw [List.map_cons] at e ⊢
    cases q : f p with
    | none => rw [q] at e; cases e
    | some v =>
      rw [q] at e
      rw [hm p v q]
      have e : (allS (ps.map f)).map (v :: ·) = some xs := e
      show (allS (ps.map h)).map (v :: ·) = some xs
      cases q2 : allS (ps.map f) with
      | none => rw [q2] at e; cases e
      | some ys => rw [q2] at e; rw [allS_mono hm q2]; exact e
theorem ev_mono : ∀ {f k : Nat} {v : α} {j : Nat}, evF g S f k = some v → f ≤ j → evF g S j k = some v
  | 0, _, _, _, h, _ => by cases h
  | f + 1, k, v, 0, h, hj => by omega
  | f + 1, k, v, j + 1, h, hj => by
    unfold evF at h ⊢
    cases q : S[k]? with
    | none => rw [q] at h; cases h
    | some r =>
      rw [q] at h
      dsimp only at h ⊢
      cases q2 : allS (r.parts.map (evF g S f)) with
      | none => rw [q2] at h; cases h
      | some xs =>
        rw [q2] at h
        rw [allS_mono (fun p v e => ev_mono e (by omega)) q2]
        exact h
/-- a growing family of sets of numbers below n stands still from n on -/
theorem stable {n : Nat} {p : Nat → Nat → Bool} (mono : ∀ t k, p t k = true → p (t + 1) k = true) (step : ∀ t, (∀ k, k < n → p t k = p (t + 1) k) → ∀ k, k < n → p (t + 1) k = p (t + 2) k) {f k : Nat} (hk : k < n) (h : p f k = true) : p n k = true := by
  have up : ∀ t d k, p t k = true → p (t + d) k = true := fun t d => by
    induction d with
    | zero => exact fun k h => h
    | succ d ih => exact fun k h => mono _ _ (ih k h)
  by_cases c : f ≤ n
  · have := up f (n - f) k h
    rwa [show f + (n - f) = n by omega] at this
  -- some step below n + 1 changes nothing
  have cnt : ∀ t, (∀ s, s < t → ∃ k, k < n ∧ p s k ≠ p (s + 1) k) → t ≤ ((List.range n).filter (p t)).length := fun t => by
    induction t with
    | zero => exact fun _ => Nat.zero_le _
    | succ t ih =>
      intro hs
      have h1 := ih fun s l => hs s (by omega)
      obtain ⟨k, hk, hne⟩ := hs t (by omega)
      have h0 : p t k = false := by
        cases q : p t k with
        | false => rfl
        | true => rw [q, mono t k q] at hne; exact absurd rfl hne
      have h2 : p (t + 1) k = true := by
        cases q : p (t + 1) k with
        | true => rfl
        | false => rw [h0, q] at hne; exact absurd rfl hne
      have key : ∀ l : List Nat, k ∈ l → (l.filter (p t)).length + 1 ≤ (l.filter (p (t + 1))).length := by
        intro l
        have le : ∀ l : List Nat, (l.filter (p t)).length ≤ (l.filter (p (t + 1))).length := fun l => by
          induction l with
          | nil => exact Nat.le_refl _
          | cons x l ih =>
            rw [List.filter_cons, List.filter_cons]
            cases q : p t x with
            | true => rw [mono t x q]; simp only [if_true, List.length_cons]; omega
            | false =>
              simp only [Bool.false_eq_true, if_false]
              split
              · rw [List.length_cons]; omega
              · exact ih
        induction l with
        | nil => exact fun m => nomatch m
        | cons x l ih =>
          intro m
          rw [List.filter_cons, List.filter_cons]
          rcases List.mem_cons.mp m with e | m
          · subst e
            rw [h0, h2]
            simp only [Bool.false_eq_true, if_false, if_true, List.length_cons]
            have := le l
            omega
          · have := ih m
            cases q : p t x with
            | true => rw [mono t x q]; simp only [if_true, List.length_cons]; omega
            | false =>
              simp only [Bool.false_eq_true, if_false]
              split
              · rw [List.length_cons]; omega
              · exact this
      have := key (List.range n) (List.mem_range.mpr hk)
      omega
  have ex : ∃ t, t ≤ n ∧ ∀ k, k < n → p t k = p (t + 1) k := by
    apply Classical.byContradiction
    intro no
    have all : ∀ s, s < n + 1 → ∃ k, k < n ∧ p s k ≠ p (s + 1) k := fun s l => by
      apply Classical.byContradiction
      intro no2
      exact no ⟨s, by omega, fun k hk => Classical.byContradiction fun z => no2 ⟨k, hk, z⟩⟩
    have h1 := cnt (n + 1) all
    have h2 := List.length_filter_le (p (n + 1)) (List.range n)
    rw [List.length_range] at h2
    omega
  obtain ⟨t, ht, hs⟩ := ex
  have still : ∀ d k, k < n → p t k = p (t + d) k := fun d => by
    have nx : ∀ d, ∀ k, k < n → p (t + d) k = p (t + d + 1) k := fun d => by
      induction d with
      | zero => exact hs
      | succ d ih => exact step _ ih
    induction d with
    | zero => exact fun k _ => rfl
    | succ d ih => exact fun k hk => (ih k hk).trans (nx d k hk)
  have e := still (f - t) k hk
  rw [show t + (f - t) = f by omega, h] at e
  have := up t (n - t) k e
  rwa [show t + (n - t) = n by omega] at this
theorem isSome_iff {β : Type} {o o' : Option β} (h : o.isSome = o'.isSome) (hm : ∀ v, o = some v → o' = some v) : o = o' := by
  cases q : o with
  | none =>
    rw [q] at h
    cases q' : o' with
    | none => rfl
    | some v => rw [q'] at h; cases h
  | some v => exact (hm v q).symm
theorem ev_lt {f k : Nat} {v : α} (h : evF g S f k = some v) : k < S.length := by
  cases f with
  | zero => cases h
  | succ f =>
    unfold evF at h
    cases q : S[k]? with
    | none => rw [q] at h; cases h
    | some r => exact (List.getElem?_eq_some_iff.mp q).1
theorem ev_stable {f k : Nat} {v : α} (h : evF g S f k = some v) : evF g S S.length k = some v := by
  have hk := ev_lt h
  have s := stable (n := S.length) (p := fun t k => (evF g S t k).isSome) (fun t k h => by
    obtain ⟨v, e⟩ := Option.isSome_iff_exists.mp h
    rw [ev_mono e (Nat.le_succ t)]; rfl) (fun t hs k hk => by
    have same : ∀ p, evF g S t p = evF g S (t + 1) p := fun p => by
      by_cases c : p < S.length
      · exact isSome_iff (hs p c) fun v e => ev_mono e (Nat.le_succ t)
      · cases q : evF g S t p with
        | some v => exact absurd (ev_lt q) c
        | none => cases q2 : evF g S (t + 1) p with
          | some v => exact absurd (ev_lt q2) c
          | none => rfl
    have e : evF g S t = evF g S (t + 1) := funext same
    show (evF g S (t + 1) k).isSome = (evF g S (t + 2) k).isSome
    have : evF g S (t + 1) k = evF g S (t + 2) k := by
      show (match S[k]? with | none => none | some r => (allS (r.parts.map (evF g S t))).map (g r)) = (match S[k]? with | none => none | some r => (allS (r.parts.map (evF g S (t + 1)))).map (g r))
      rw [e]
    rw [this]) hk (show (evF g S f k).isSome = true by rw [h]; rfl)
  obtain ⟨w, e⟩ := Option.isSome_iff_exists.mp s
  have e1 := ev_mono (j := max f S.length) h (Nat.le_max_left _ _)
  have e2 := ev_mono (j := max f S.length) e (Nat.le_max_right _ _)
  rw [e1] at e2
  cases e2
  exact e
/-- what a name comes to -/
noncomputable def ev (g : Rl → List α → α) (S : RS) (k : Nat) : Option α := evF g S S.length k
theorem ev_up {k : Nat} {r : Rl} {xs : List α} (hr : S[k]? = some r) (h : allS (r.parts.map (ev g S)) = some xs) : ev g S k = some (g r xs) := by
  refine ev_stable (f := S.length + 1) ?_
  unfold evF
  rw [hr]
  show (allS (r.parts.map (evF g S S.length))).map (g r) = _
  have h : allS (r.parts.map (evF g S S.length)) = some xs := h
  rw [h]; rfl
theorem ev_down {f k : Nat} {v : α} (h : evF g S (f + 1) k = some v) : ∃ r xs, S[k]? = some r ∧ allS (r.parts.map (evF g S f)) = some xs ∧ v = g r xs := by
  unfold evF at h
  cases q : S[k]? with
  | none => rw [q] at h; cases h
  | some r =>
    rw [q] at h
    dsimp only at h
    cases q2 : allS (r.parts.map (evF g S f)) with
    | none => rw [q2] at h; cases h
    | some xs => rw [q2] at h; cases h; exact ⟨r, xs, rfl, q2, rfl⟩
end
/-! ### names that end: the order in which they are found -/
/-- a list of names, each behind its parts, and closed -/
structure Ord (S : RS) (E : List Nat) : Prop where
  nd : E.Nodup
  up : ∀ (i k : Nat), E[i]? = some k → ∃ r, S[k]? = some r ∧ ∀ p ∈ r.parts, p ∈ E.take i
  cl : ∀ (k : Nat) (r : Rl), S[k]? = some r → (∀ p ∈ r.parts, p ∈ E) → k ∈ E
section
variable {α : Type} {g : Rl → List α → α} {S : RS} {E : List Nat}
theorem allS_ex {f : Nat → Option α} : ∀ {ps : List Nat}, (∀ p ∈ ps, ∃ v, f p = some v) → ∃ xs, allS (ps.map f) = some xs
  | [], _ => ⟨[], rfl⟩
  | p :: ps, h => by
    obtain ⟨v, e⟩ := h p List.mem_cons_self
    obtain ⟨xs, e2⟩ := allS_ex (ps := ps) fun q m => h q (List.mem_cons_of_mem _ m)
    exact ⟨v :: xs, by rw [List.map_cons, e]; show (allS (ps.map f)).map _ = _; rw [e2]; rfl⟩
theorem allS_at {f : Nat → Option α} : ∀ {ps : List Nat} {xs : List α}, allS (ps.map f) = some xs → ∀ p ∈ ps, ∃ v, f p = some v
  | [], _, _, _, m => nomatch m
  | q :: ps, xs, h, p, m => by
    rw [List.map_cons] at h
    cases e : f q with
    | none => rw [e] at h; cases h
    | some v =>
      rw [e] at h
      have h : (allS (ps.map f)).map (v :: ·) = some xs := h
      rcases List.mem_cons.mp m with rfl | m
      · exact ⟨v, e⟩
      · cases e2 : allS (ps.map f) with
        | none => rw [e2] at h; cases h
        | some ys => exact allS_at e2 p m
theorem Ord.ok (o : Ord S E) : ∀ (i k : Nat), E[i]? = some k → ∃ v, ev g S k = some v := by
  intro i
  induction i using Nat.strongRecOn with
  | ind i ih =>
    intro k hk
    obtain ⟨r, hr, hp⟩ := o.up i k hk
    obtain ⟨xs, e⟩ := allS_ex (f := ev g S) (ps := r.parts) fun p m => by
      obtain ⟨j, hj⟩ := List.getElem?_of_mem (hp p m)
      rw [List.getElem?_take] at hj
      split at hj
      · rename_i l
        exact ih j l p hj
      · cases hj
    exact ⟨_, ev_up hr e⟩
theorem Ord.mem (o : Ord S E) {k : Nat} : k ∈ E ↔ ∃ v, ev g S k = some v := by
  constructor
  · intro m
    obtain ⟨i, hi⟩ := List.getElem?_of_mem m
    exact o.ok i k hi
  · rintro ⟨v, h⟩
    have key : ∀ f k v, evF g S f k = some v → k ∈ E := fun f => by
      induction f with
      | zero => intro k v h; cases h
      | succ f ih =>
        intro k v h
        obtain ⟨r, xs, h1, h2, _⟩ := ev_down h
        exact o.cl k r h1 fun p m => by
          obtain ⟨w, e⟩ := allS_at h2 p m
          exact ih p w e
    exact key _ _ _ h
theorem Ord.lt (o : Ord S E) : ∀ k ∈ E, k < S.length := fun k m => by
  obtain ⟨i, hi⟩ := List.getElem?_of_mem m
  obtain ⟨r, hr, _⟩ := o.up i k hi
  exact (List.getElem?_eq_some_iff.mp hr).1
theorem Ord.len (o : Ord S E) : E.length ≤ S.length := PK.nodup_le _ _ o.nd o.lt
end
/-! ### the way in which they are found -/
noncomputable def cntP (r : Rl) (D : List Nat) : Nat := (r.parts.filter fun p => !decide (p ∈ D)).length
noncomputable def cntS (S : RS) (D : List Nat) (k : Nat) : Nat := match S[k]? with
  | some r => cntP r D
  | none => 0
/-- the names that refer to q, as often as they do -/
noncomputable def usr (S : RS) (q : Nat) : List Nat := ((List.range S.length).map fun k => match S[k]? with
  | some r => (r.parts.filter (· == q)).map fun _ => k
  | none => []).flatten
noncomputable def stepK (x : List Nat × List Nat) (k : Nat) : List Nat × List Nat := (x.1.set k (x.1.getD k 0 - 1), if x.1.getD k 0 - 1 = 0 then x.2 ++ [k] else x.2)
noncomputable def inK (x : List Nat × List Nat) (U : List Nat) : List Nat × List Nat := U.foldl stepK x
/-- before the s-th name is settled -/
structure KI (S : RS) (s : Nat) (Z E : List Nat) : Prop where
  zl : Z.length = S.length
  zv : ∀ k, k < S.length → Z.getD k 0 = cntS S (E.take s) k
  nd : E.Nodup
  mem : ∀ k, k ∈ E ↔ k < S.length ∧ cntS S (E.take s) k = 0
  up : ∀ (i k : Nat), E[i]? = some k → ∃ r, S[k]? = some r ∧ ∀ p ∈ r.parts, p ∈ E.take i
  sl : s ≤ E.length
section
variable {S : RS} {s : Nat} {Z E : List Nat}
theorem KI.lt (h : KI S s Z E) : ∀ k ∈ E, k < S.length := fun k m => ((h.mem k).mp m).1
theorem KI.len (h : KI S s Z E) : E.length ≤ S.length := PK.nodup_le _ _ h.nd h.lt
theorem cnt_zero {r : Rl} {D : List Nat} : cntP r D = 0 ↔ ∀ p ∈ r.parts, p ∈ D := by
  unfold cntP
  rw [List.length_eq_zero_iff, List.filter_eq_nil_iff]
  constructor
  · intro h p m
    have := h p m
    simpa using this
  · intro h p m
    simpa using h p m
theorem KI.done (h : KI S s Z E) (hs : s = E.length) : Ord S E := by
  refine ⟨h.nd, h.up, fun k r hr hp => ?_⟩
  rw [h.mem]
  refine ⟨(List.getElem?_eq_some_iff.mp hr).1, ?_⟩
  unfold cntS
  rw [hr]
  rw [hs, List.take_length]
  exact cnt_zero.mpr hp
theorem usr_count {q k : Nat} : (usr S q).count k = match S[k]? with
  | some r => r.parts.count q
  | none => 0 := by
  unfold usr
  have key : ∀ n, n ≤ S.length → (((List.range n).map fun k => match S[k]? with
      | some r => (r.parts.filter (· == q)).map fun _ => k
      | none => []).flatten).count k = if k < n then (match S[k]? with | some r => r.parts.count q | none => 0) else 0 := by
    intro n
    induction n with
    | zero => intro _; rfl
    | succ n ih =>
      intro hn
      rw [List.range_succ, List.map_append, List.flatten_append, List.count_append, ih (by omega)]
      have one : (([n].map fun k => match S[k]? with
        | some r => (r.parts.filter (· == q)).map fun _ => k
        | none => []).flatten).count k = if k = n then (match S[k]? with | some r => r.parts.count q | none => 0) else 0 := by
        rw [List.map_cons, List.map_nil, List.flatten_cons, List.flatten_nil, List.append_nil]
        by_cases e : k = n
        · subst e
          rw [if_pos rfl]
          cases S[k]? with
          | none => rfl
          | some r =>
            dsimp only
            have : (r.parts.filter (· == q)).map (fun _ => k) = List.replicate (r.parts.filter (· == q)).length k := by
              generalize r.parts.filter (· == q) = l
              induction l with
              | nil => rfl
              | cons x l ih => rw [List.map_cons, ih]; rfl
            rw [this, List.count_replicate_self, List.count_eq_length_filter]
        · rw [if_neg e]
          rw [List.count_eq_zero]
          cases S[n]? with
          | none => exact fun m => nomatch m
          | some r =>
            intro m
            obtain ⟨_, _, z⟩ := List.mem_map.mp m
            exact e z.symm
      rw [one]
      by_cases c1 : k < n
      · rw [if_pos c1, if_neg (show ¬ k = n by omega), if_pos (show k < n + 1 by omega)]; rfl
      · by_cases c2 : k = n
        · rw [if_neg c1, if_pos c2, if_pos (show k < n + 1 by omega), Nat.zero_add]
        · rw [if_neg c1, if_neg c2, if_neg (show ¬ k < n + 1 by omega)]
  rw [key _ (Nat.le_refl _)]
  by_cases c : k < S.length
  · rw [if_pos c]
  · rw [if_neg c, List.getElem?_eq_none (by omega)]
theorem cnt_add {r : Rl} {D : List Nat} {q : Nat} (hq : q ∉ D) : cntP r (D ++ [q]) + r.parts.count q = cntP r D := by
  unfold cntP
  generalize r.parts = l
  induction l with
  | nil => rfl
  | cons p l ih =>
    rw [List.filter_cons, List.filter_cons, List.count_cons]
    by_cases c : p = q
    · subst c
      have a : (!decide (p ∈ D ++ [p])) = false := by simp
      have b : (!decide (p ∈ D)) = true := by simpa using hq
      rw [a, b]
      simp only [Bool.false_eq_true, if_false, if_true, List.length_cons, beq_self_eq_true]
      omega
    · have a : (!decide (p ∈ D ++ [q])) = !decide (p ∈ D) := by
        simp [c]
      have b : (p == q) = false := beq_eq_false_iff_ne.mpr c
      rw [a, b]
      simp only [Bool.false_eq_true, if_false]
      split
      · rw [List.length_cons, List.length_cons]; omega
      · omega
/-- one name settled -/
theorem KI.next (h : KI S s Z E) {q : Nat} (hq : E[s]? = some q) : KI S (s + 1) (inK (Z, E) (usr S q)).1 (inK (Z, E) (usr S q)).2 := by
  have qE : q ∈ E := List.mem_of_getElem? hq
  have sl : s < E.length := (List.getElem?_eq_some_iff.mp hq).1
  have tk : E.take (s + 1) = E.take s ++ [q] := by
    rw [List.take_succ, hq]; rfl
  have qD : q ∉ E.take s := fun m => by
    have nd := h.nd
    rw [← List.take_append_drop (s + 1) E, tk, List.append_assoc] at nd
    have := (List.nodup_append.mp nd).2.2 q m q (by simp)
    exact this rfl
  -- along a prefix of the users
  have key : ∀ (U P : List Nat), usr S q = P ++ U → ∀ (Z' E' : List Nat), Z'.length = S.length → (∀ k, k < S.length → Z'.getD k 0 + P.count k = cntS S (E.take s) k) → E'.Nodup → (∃ N, E' = E ++ N ∧ ∀ k ∈ N, k ∈ P) → (∀ k, k ∈ E' ↔ k < S.length ∧ (cntS S (E.take s) k = 0 ∨ k ∈ P ∧ cntS S (E.take s) k = P.count k)) →
      ∃ Z2 E2, inK (Z', E') U = (Z2, E2) ∧ Z2.length = S.length ∧ (∀ k, k < S.length → Z2.getD k 0 + (usr S q).count k = cntS S (E.take s) k) ∧ E2.Nodup ∧ (∃ N, E2 = E ++ N ∧ ∀ k ∈ N, k ∈ usr S q) ∧ (∀ k, k ∈ E2 ↔ k < S.length ∧ (cntS S (E.take s) k = 0 ∨ k ∈ usr S q ∧ cntS S (E.take s) k = (usr S q).count k)) := by
    intro U
    induction U with
    | nil =>
      intro P e Z' E' h1 h2 h3 h4 h5
      rw [List.append_nil] at e
      rw [e]
      exact ⟨Z', E', rfl, h1, h2, h3, h4, h5⟩
    | cons k U ih =>
      intro P e Z' E' h1 h2 h3 h4 h5
      have e2 : usr S q = (P ++ [k]) ++ U := by rw [e, List.append_assoc]; rfl
      have hc := usr_count (S := S) (q := q) (k := k)
      have pos : P.count k + 1 ≤ (usr S q).count k := by rw [e, List.count_append, List.count_cons_self]; omega
      have kl : k < S.length := by
        by_cases c : k < S.length
        · exact c
        · rw [List.getElem?_eq_none (by omega)] at hc
          dsimp only at hc
          omega
      obtain ⟨r, hr⟩ : ∃ r, S[k]? = some r := ⟨_, List.getElem?_eq_getElem kl⟩
      rw [hr] at hc
      have hb : (usr S q).count k ≤ cntS S (E.take s) k := by
        rw [hc]
        unfold cntS
        rw [hr]
        have := cnt_add (r := r) qD
        dsimp only
        omega
      have hz := h2 k kl
      have hzp : 1 ≤ Z'.getD k 0 := by omega
      show ∃ Z2 E2, inK (stepK (Z', E') k) U = (Z2, E2) ∧ _
      unfold stepK
      dsimp only
      have cc : ∀ j, (P ++ [k]).count j = P.count j + if j = k then 1 else 0 := fun j => by
        rw [List.count_append, List.count_singleton]
        by_cases c : j = k
        · rw [if_pos c, if_pos (by simp [c])]
        · rw [if_neg c, if_neg (by simpa using fun z => c z.symm)]
      refine ih (P ++ [k]) e2 _ _ (by rw [List.length_set]; exact h1) (fun j hj => ?_) ?_ ?_ (fun j => ?_)
      · rw [cc j]
        by_cases c : j = k
        · subst c
          rw [if_pos rfl, List.getD_eq_getElem?_getD, List.getElem?_set_self (by omega)]
          show Z'.getD j 0 - 1 + _ = _
          omega
        · rw [if_neg c, List.getD_eq_getElem?_getD, List.getElem?_set_ne (Ne.symm c), ← List.getD_eq_getElem?_getD]
          exact h2 j hj
      · split
        · rename_i z
          refine List.nodup_append.mpr ⟨h3, by simp, fun a m b mb z2 => ?_⟩
          rw [List.mem_singleton.mp mb] at z2
          rw [z2] at m
          rcases ((h5 k).mp m).2 with w | ⟨_, w⟩ <;> omega
        · exact h3
      · obtain ⟨N, eN, hN⟩ := h4
        split
        · refine ⟨N ++ [k], by rw [eN, List.append_assoc], fun j m => ?_⟩
          rcases List.mem_append.mp m with m | m
          · exact List.mem_append_left _ (hN j m)
          · exact List.mem_append_right _ m
        · exact ⟨N, eN, fun j m => List.mem_append_left _ (hN j m)⟩
      · rw [cc j]
        have base := h5 j
        by_cases c : j = k
        · subst c
          rw [if_pos rfl]
          split
          · rename_i z
            constructor
            · intro _
              exact ⟨kl, .inr ⟨List.mem_append_right _ (by simp), by omega⟩⟩
            · intro _
              exact List.mem_append_right _ (by simp)
          · rename_i z
            constructor
            · intro m
              rcases (base.mp m).2 with w | ⟨_, w⟩ <;> omega
            · rintro ⟨_, w | ⟨_, w⟩⟩ <;> omega
        · rw [if_neg c, Nat.add_zero]
          have mm : j ∈ P ++ [k] ↔ j ∈ P := by
            rw [List.mem_append, List.mem_singleton]
            exact ⟨fun w => w.elim id fun z => absurd z c, .inl⟩
          rw [mm]
          split
          · rw [List.mem_append, List.mem_singleton]
            exact ⟨fun w => base.mp (w.elim id fun z => absurd z c), fun w => .inl (base.mpr w)⟩
          · exact base
  obtain ⟨Z2, E2, e, k1, k2, k3, ⟨N, eN, hN⟩, k5⟩ := key (usr S q) [] rfl Z E h.zl (fun k hk => by rw [h.zv k hk]; rfl) h.nd ⟨[], by rw [List.append_nil], fun k m => nomatch m⟩ (fun k => by
    rw [h.mem k]
    exact ⟨fun w => ⟨w.1, .inl w.2⟩, fun w => ⟨w.1, w.2.elim id fun z => nomatch z.1⟩⟩)
  rw [e]
  have tk2 : E2.take (s + 1) = E.take s ++ [q] := by
    rw [eN, List.take_append_of_le_length (by omega), tk]
  have cs : ∀ k, k < S.length → cntS S (E2.take (s + 1)) k + (usr S q).count k = cntS S (E.take s) k := fun k hk => by
    obtain ⟨r, hr⟩ : ∃ r, S[k]? = some r := ⟨_, List.getElem?_eq_getElem hk⟩
    rw [usr_count, tk2]
    unfold cntS
    rw [hr]
    exact cnt_add qD
  have mem2 : ∀ k, k ∈ E2 ↔ k < S.length ∧ cntS S (E2.take (s + 1)) k = 0 := fun k => by
    rw [k5 k]
    refine ⟨fun ⟨a, b⟩ => ⟨a, ?_⟩, fun ⟨a, b⟩ => ⟨a, ?_⟩⟩
    · have := cs k a
      rcases b with b | ⟨_, b⟩ <;> omega
    · have := cs k a
      by_cases c : (usr S q).count k = 0
      · left; omega
      · right
        exact ⟨List.count_pos_iff.mp (by omega), by omega⟩
  refine ⟨k1, fun k hk => ?_, k3, mem2, fun i k hk => ?_, ?_⟩
  · have c1 := cs k hk
    have c2 := k2 k hk
    show Z2.getD k 0 = cntS S (E2.take (s + 1)) k
    omega
  · dsimp only at hk
    rw [eN] at hk
    by_cases c : i < E.length
    · rw [List.getElem?_append_left c] at hk
      obtain ⟨r, h1, h2⟩ := h.up i k hk
      refine ⟨r, h1, fun p m => ?_⟩
      show p ∈ E2.take i
      rw [eN, List.take_append_of_le_length (by omega)]
      exact h2 p m
    · have kE2 : k ∈ E2 := by rw [eN]; exact List.mem_of_getElem? hk
      obtain ⟨a, b⟩ := (mem2 k).mp kE2
      obtain ⟨r, hr⟩ : ∃ r, S[k]? = some r := ⟨_, List.getElem?_eq_getElem a⟩
      refine ⟨r, hr, fun p m => ?_⟩
      unfold cntS at b
      rw [hr] at b
      have := cnt_zero.mp b p m
      show p ∈ E2.take i
      have le : s + 1 ≤ i := by omega
      exact (List.take_subset_take_left E2 le) this
  · show s + 1 ≤ E2.length
    rw [eN, List.length_append]
    omega
/-- the beginning -/
theorem KI.start : KI S 0 (S.map fun r => r.parts.length) ((List.range S.length).filter fun k => decide ((S.map fun r => r.parts.length).getD k 0 = 0)) := by
  have c0 : ∀ k, k < S.length → (S.map fun r => r.parts.length).getD k 0 = cntS S [] k := fun k hk => by
    rw [List.getD_eq_getElem?_getD, List.getElem?_map]
    unfold cntS
    rw [List.getElem?_eq_getElem hk]
    show (S[k]).parts.length = cntP S[k] []
    unfold cntP
    rw [List.filter_eq_self.mpr (fun p _ => by simp)]
  have mem : ∀ k, k ∈ ((List.range S.length).filter fun k => decide ((S.map fun r => r.parts.length).getD k 0 = 0)) ↔ k < S.length ∧ cntS S [] k = 0 := fun k => by
    rw [List.mem_filter, List.mem_range]
    refine ⟨fun ⟨a, b⟩ => ⟨a, ?_⟩, fun ⟨a, b⟩ => ⟨a, ?_⟩⟩
    · rw [← c0 k a]; exact of_decide_eq_true b
    · rw [c0 k a]; exact decide_eq_true b
  refine ⟨by rw [List.length_map], fun k hk => by rw [List.take_zero]; exact c0 k hk, (List.nodup_range).filter _, fun k => by rw [List.take_zero]; exact mem k, fun i k hk => ?_, Nat.zero_le _⟩
  obtain ⟨a, b⟩ := (mem k).mp (List.mem_of_getElem? hk)
  obtain ⟨r, hr⟩ : ∃ r, S[k]? = some r := ⟨_, List.getElem?_eq_getElem a⟩
  refine ⟨r, hr, fun p m => ?_⟩
  unfold cntS at b
  rw [hr] at b
  exact nomatch cnt_zero.mp b p m
end
end RU
set_option linter.all false
set_option maxRecDepth 100000
set_option maxHeartbeats 1000000
/-! # lists of rules: rounds over all names, names in order, names reached -/
namespace RU
noncomputable abbrev OV := List (Option Nat)
section
variable {g : Rl → List Nat → Nat} {S : RS} {X : OV} {t j k : Nat}
noncomputable def at_ (X : OV) (p : Nat) : Option Nat := X.getD p none
theorem at_set {v : Option Nat} {p : Nat} (hk : k < X.length) : at_ (X.set k v) p = if p = k then v else at_ X p := by
  unfold at_
  rw [List.getD_eq_getElem?_getD, List.getD_eq_getElem?_getD]
  by_cases c : p = k
  · subst c
    rw [if_pos rfl, List.getElem?_set_self hk]; rfl
  · rw [if_neg c, List.getElem?_set_ne (Ne.symm c)]
theorem at_rep {n p : Nat} : at_ (List.replicate n none) p = none := by
  unfold at_
  rw [List.getD_eq_getElem?_getD, List.getElem?_replicate]
  split <;> rfl
theorem at_ext {n : Nat} {f : Nat → Option Nat} (hl : X.length = n) (h : ∀ k, k < n → at_ X k = f k) : X = (List.range n).map f := by
  apply List.ext_getElem?
  intro i
  rw [List.getElem?_map]
  by_cases c : i < n
  · have := h i c
    unfold at_ at this
    rw [List.getD_eq_getElem?_getD, List.getElem?_eq_getElem (by omega)] at this
    rw [List.getElem?_range c, List.getElem?_eq_getElem (by omega)]
    exact congrArg some this
  · rw [List.getElem?_eq_none (by omega), List.getElem?_eq_none (by rw [List.length_range]; omega)]; rfl
noncomputable def updK (g : Rl → List Nat → Nat) (S : RS) (X : OV) (k : Nat) : OV := match S[k]? with
  | some r => match allS (r.parts.map (at_ X)) with
    | some xs => X.set k (some (g r xs))
    | none => X
  | none => X
theorem upd_len : (updK g S X k).length = X.length := by
  unfold updK
  split
  · split
    · rw [List.length_set]
    · rfl
  · rfl
noncomputable def SD (g : Rl → List Nat → Nat) (S : RS) (X : OV) : Prop := ∀ k v, at_ X k = some v → ev g S k = some v
theorem upd_sound (hl : X.length = S.length) (h : SD g S X) : SD g S (updK g S X k) := by
  intro p v hp
  unfold updK at hp
  split at hp
  · rename_i r hr
    have hk : k < X.length := by rw [hl]; exact (List.getElem?_eq_some_iff.mp hr).1
    split at hp
    · rename_i xs hx
      rw [at_set hk] at hp
      split at hp
      · rename_i e
        subst e
        cases hp
        exact ev_up hr (allS_mono (fun p v e => h p v e) hx)
      · exact h p v hp
    · exact h p v hp
  · exact h p v hp
theorem upd_lev (hl : X.length = S.length) (hs : SD g S X) (h : ∀ k v, evF g S t k = some v → at_ X k = some v) {v : Nat} (hv : evF g S (t + 1) j = some v) : at_ (updK g S X j) j = some v := by
  obtain ⟨r, xs, hr, hx, e⟩ := ev_down hv
  have hk : j < X.length := by rw [hl]; exact (List.getElem?_eq_some_iff.mp hr).1
  have hx' := allS_mono (fun p v e => h p v e) hx
  unfold updK
  rw [hr]
  dsimp only
  rw [hx']
  dsimp only
  rw [at_set hk, if_pos rfl, e]
theorem upd_keep (hl : X.length = S.length) (hs : SD g S X) {p v : Nat} (h : at_ X p = some v) : at_ (updK g S X k) p = some v := by
  have s2 := upd_sound (k := k) hl hs
  by_cases c : p = k
  · subst c
    unfold updK
    cases hr : S[p]? with
    | none => exact h
    | some r =>
      dsimp only
      cases hx : allS (r.parts.map (at_ X)) with
      | none => exact h
      | some xs =>
        dsimp only
        have hk : p < X.length := by rw [hl]; exact (List.getElem?_eq_some_iff.mp hr).1
        rw [at_set hk, if_pos rfl]
        have e1 := hs p v h
        have e2 := ev_up hr (allS_mono (fun p v e => hs p v e) hx)
        rw [e1] at e2
        exact e2.symm
  · unfold updK
    split
    · rename_i r hr
      split
      · have hk : k < X.length := by rw [hl]; exact (List.getElem?_eq_some_iff.mp hr).1
        rw [at_set hk, if_neg c]; exact h
      · exact h
    · exact h
/-- j updates of a round -/
noncomputable def rnd (g : Rl → List Nat → Nat) (S : RS) (X : OV) (j : Nat) : OV := (List.range j).foldl (updK g S) X
theorem rnd_s : rnd g S X (j + 1) = updK g S (rnd g S X j) j := by
  unfold rnd
  rw [List.range_succ, List.foldl_append]; rfl
theorem rnd_len : (rnd g S X j).length = X.length := by
  induction j with
  | zero => rfl
  | succ j ih => rw [rnd_s, upd_len, ih]
theorem rnd_ok (hl : X.length = S.length) (hs : SD g S X) (h : ∀ k v, evF g S t k = some v → at_ X k = some v) :
    SD g S (rnd g S X j) ∧ (∀ k v, evF g S t k = some v → at_ (rnd g S X j) k = some v) ∧ ∀ k v, k < j → evF g S (t + 1) k = some v → at_ (rnd g S X j) k = some v := by
  induction j with
  | zero => exact ⟨hs, h, fun k v l => absurd l (Nat.not_lt_zero _)⟩
  | succ j ih =>
    obtain ⟨i1, i2, i3⟩ := ih
    have l : (rnd g S X j).length = S.length := by rw [rnd_len, hl]
    rw [rnd_s]
    refine ⟨upd_sound l i1, fun k v e => upd_keep l i1 (i2 k v e), fun k v lk e => ?_⟩
    by_cases c : k = j
    · subst c
      exact upd_lev l i1 i2 e
    · exact upd_keep l i1 (i3 k v (by omega) e)
/-- t rounds -/
noncomputable def rnds (g : Rl → List Nat → Nat) (S : RS) : Nat → OV
  | 0 => List.replicate S.length none
  | t + 1 => rnd g S (rnds g S t) S.length
theorem rnds_len : (rnds g S t).length = S.length := by
  induction t with
  | zero => exact List.length_replicate
  | succ t ih => show (rnd g S (rnds g S t) S.length).length = _; rw [rnd_len, ih]
theorem rnds_ok : SD g S (rnds g S t) ∧ ∀ k v, evF g S t k = some v → at_ (rnds g S t) k = some v := by
  induction t with
  | zero =>
    refine ⟨fun k v h => ?_, fun k v h => nomatch h⟩
    have h : at_ (List.replicate S.length none) k = some v := h
    rw [at_rep] at h; cases h
  | succ t ih =>
    obtain ⟨a, b, c⟩ := rnd_ok (j := S.length) rnds_len ih.1 ih.2
    exact ⟨a, fun k v e => c k v (ev_lt e) e⟩
noncomputable def tab (g : Rl → List Nat → Nat) (S : RS) : OV := (List.range S.length).map (ev g S)
theorem rnds_end : rnds g S S.length = tab g S := by
  obtain ⟨a, b⟩ := rnds_ok (g := g) (S := S) (t := S.length)
  refine at_ext rnds_len fun k hk => ?_
  cases q : ev g S k with
  | some v => exact b k v q
  | none =>
    cases q2 : at_ (rnds g S S.length) k with
    | none => rfl
    | some v => rw [a k v q2] at q; cases q
/-! ### names in order -/
end
/-! ### names reached -/
section
variable {S : RS} {k j p t : Nat}
noncomputable def pts (S : RS) (j : Nat) : List Nat := match S[j]? with
  | some r => r.parts
  | none => []
noncomputable def PV (S : RS) : Prop := ∀ j, ∀ p ∈ pts S j, p < S.length
noncomputable def rF (S : RS) : Nat → Nat → Bool
  | 0, k => k + 1 == S.length
  | t + 1, k => rF S t k || (List.range S.length).any fun j => rF S t j && (pts S j).contains k
noncomputable def reach (S : RS) (k : Nat) : Bool := rF S S.length k
theorem rF_mono {n : Nat} (h : rF S t k = true) : rF S (t + n) k = true := by
  induction n with
  | zero => exact h
  | succ n ih =>
    show (rF S (t + n) k || _) = true
    rw [ih]; rfl
theorem rF_lt (v : PV S) : ∀ {t k : Nat}, rF S t k = true → k < S.length
  | 0, k, h => by
    have : k + 1 = S.length := by simpa [rF] using h
    omega
  | t + 1, k, h => by
    unfold rF at h
    rw [Bool.or_eq_true] at h
    rcases h with h | h
    · exact rF_lt v h
    · obtain ⟨j, _, hj⟩ := List.any_eq_true.mp h
      rw [Bool.and_eq_true] at hj
      exact v j k (by simpa using hj.2)
theorem reach_last (h : S ≠ []) : reach S (S.length - 1) = true := by
  have l : 0 < S.length := List.length_pos_iff.mpr h
  have : rF S 0 (S.length - 1) = true := by
    show (S.length - 1 + 1 == S.length) = true
    rw [show S.length - 1 + 1 = S.length by omega]
    exact beq_self_eq_true _
  have := rF_mono (n := S.length) this
  rwa [Nat.zero_add] at this
theorem reach_stab (v : PV S) (h : rF S t k = true) : reach S k = true := by
  refine stable (n := S.length) (p := rF S) (fun t k h => rF_mono (n := 1) h) (fun t hs k hk => ?_) (rF_lt v h) h
  show (rF S t k || _) = (rF S (t + 1) k || _)
  rw [hs k hk]
  congr 1
  rw [Bool.eq_iff_iff, List.any_eq_true, List.any_eq_true]
  constructor
  · rintro ⟨j, m, hj⟩
    refine ⟨j, m, ?_⟩
    rw [← hs j (List.mem_range.mp m)]; exact hj
  · rintro ⟨j, m, hj⟩
    refine ⟨j, m, ?_⟩
    rw [hs j (List.mem_range.mp m)]; exact hj
theorem reach_cl (v : PV S) (h : reach S j = true) (m : p ∈ pts S j) : reach S p = true := by
  refine reach_stab (t := S.length + 1) v ?_
  show (rF S S.length p || _) = true
  rw [Bool.or_eq_true]
  right
  rw [List.any_eq_true]
  refine ⟨j, List.mem_range.mpr (rF_lt v h), ?_⟩
  rw [Bool.and_eq_true]
  exact ⟨h, by simpa using m⟩
theorem reach_min {P : Nat → Prop} (h0 : ∀ k, k + 1 = S.length → P k) (h1 : ∀ j p, P j → p ∈ pts S j → P p) : ∀ {t k : Nat}, rF S t k = true → P k
  | 0, k, h => h0 k (by simpa [rF] using h)
  | t + 1, k, h => by
    unfold rF at h
    rw [Bool.or_eq_true] at h
    rcases h with h | h
    · exact reach_min h0 h1 h
    · obtain ⟨j, _, hj⟩ := List.any_eq_true.mp h
      rw [Bool.and_eq_true] at hj
      exact h1 j k (reach_min h0 h1 hj.1) (by simpa using hj.2)
/-! marks -/
noncomputable def mk_ (M : List Bool) (p : Nat) : Bool := M.getD p false
theorem mk_set {M : List Bool} {b : Bool} (hk : k < M.length) : mk_ (M.set k b) p = if p = k then b else mk_ M p := by
  unfold mk_
  rw [List.getD_eq_getElem?_getD, List.getD_eq_getElem?_getD]
  by_cases c : p = k
  · subst c
    rw [if_pos rfl, List.getElem?_set_self hk]; rfl
  · rw [if_neg c, List.getElem?_set_ne (Ne.symm c)]
theorem mk_rep {n : Nat} : mk_ (List.replicate n false) p = false := by
  unfold mk_
  rw [List.getD_eq_getElem?_getD, List.getElem?_replicate]
  split <;> rfl
noncomputable def setAll (M : List Bool) (ps : List Nat) : List Bool := ps.foldl (fun M p => M.set p true) M
theorem setAll_len : ∀ {ps : List Nat} {M : List Bool}, (setAll M ps).length = M.length
  | [], _ => rfl
  | p :: ps, M => by
    show (setAll (M.set p true) ps).length = _
    rw [setAll_len, List.length_set]
theorem setAll_mk : ∀ {ps : List Nat} {M : List Bool}, (∀ p ∈ ps, p < M.length) → (mk_ (setAll M ps) k = true ↔ mk_ M k = true ∨ k ∈ ps)
  | [], _, _ => by
    show mk_ _ k = true ↔ _
    simp [setAll]
  | p :: ps, M, h => by
    show mk_ (setAll (M.set p true) ps) k = true ↔ _
    rw [setAll_mk (fun q m => by rw [List.length_set]; exact h q (List.mem_cons_of_mem _ m)), mk_set (h p List.mem_cons_self), List.mem_cons]
    by_cases c : k = p
    · subst c; simp
    · rw [if_neg c]; simp [c]
theorem mk_ext {M : List Bool} {f : Nat → Bool} (hl : M.length = S.length) (h : ∀ k, k < S.length → mk_ M k = f k) : M = (List.range S.length).map f := by
  apply List.ext_getElem?
  intro i
  rw [List.getElem?_map]
  by_cases c : i < S.length
  · have := h i c
    unfold mk_ at this
    rw [List.getD_eq_getElem?_getD, List.getElem?_eq_getElem (by omega)] at this
    rw [List.getElem?_range c, List.getElem?_eq_getElem (by omega)]
    exact congrArg some this
  · rw [List.getElem?_eq_none (by omega), List.getElem?_eq_none (by rw [List.length_range]; omega)]; rfl
noncomputable def rtab (S : RS) : List Bool := (List.range S.length).map (reach S)
/-! a heap of names waiting -/
structure UI (S : RS) (M : List Bool) (W : List Nat) : Prop where
  ml : M.length = S.length
  wl : ∀ k ∈ W, k < S.length ∧ reach S k = true
  sd : ∀ k, mk_ M k = true → reach S k = true
  cl : ∀ k, mk_ M k = true → ∀ p ∈ pts S k, mk_ M p = true ∨ p ∈ W
  la : ∀ k, k + 1 = S.length → mk_ M k = true ∨ k ∈ W
theorem UI.start (ne : S ≠ []) : UI S (List.replicate S.length false) [S.length - 1] := by
  have l : 0 < S.length := List.length_pos_iff.mpr ne
  refine ⟨List.length_replicate, fun k m => ?_, fun k h => ?_, fun k h => ?_, fun k h => .inr ?_⟩
  · rw [List.mem_singleton.mp m]; exact ⟨by omega, reach_last ne⟩
  · rw [mk_rep] at h; cases h
  · rw [mk_rep] at h; cases h
  · rw [List.mem_singleton]; omega
theorem UI.skip {M : List Bool} {W : List Nat} (h : UI S M (W ++ [k])) (hm : mk_ M k = true) : UI S M W where
  ml := h.ml
  wl := fun q m => h.wl q (List.mem_append_left _ m)
  sd := h.sd
  cl := fun q hq p m => by
    rcases h.cl q hq p m with z | z
    · exact .inl z
    · rcases List.mem_append.mp z with z | z
      · exact .inr z
      · rw [List.mem_singleton.mp z]; exact .inl hm
  la := fun q hq => by
    rcases h.la q hq with z | z
    · exact .inl z
    · rcases List.mem_append.mp z with z | z
      · exact .inr z
      · rw [List.mem_singleton.mp z]; exact .inl hm
theorem UI.take (v : PV S) {M : List Bool} {W : List Nat} (h : UI S M (W ++ [k])) : UI S (M.set k true) (W ++ pts S k) := by
  obtain ⟨kl, kr⟩ := h.wl k (List.mem_append_right _ (by simp))
  have ml := h.ml
  have ms : ∀ q, mk_ (M.set k true) q = if q = k then true else mk_ M q := fun q => mk_set (by omega)
  have up : ∀ q, mk_ M q = true ∨ q ∈ W ++ [k] → mk_ (M.set k true) q = true ∨ q ∈ W ++ pts S k := fun q z => by
    rw [ms]
    by_cases c : q = k
    · rw [if_pos c]; exact .inl rfl
    · rw [if_neg c]
      rcases z with z | z
      · exact .inl z
      · rcases List.mem_append.mp z with z | z
        · exact .inr (List.mem_append_left _ z)
        · exact absurd (List.mem_singleton.mp z) c
  refine ⟨by rw [List.length_set, ml], fun q m => ?_, fun q hq => ?_, fun q hq p m => ?_, fun q hq => up q (h.la q hq)⟩
  · rcases List.mem_append.mp m with m | m
    · exact h.wl q (List.mem_append_left _ m)
    · exact ⟨v k q m, reach_cl v kr m⟩
  · rw [ms] at hq
    by_cases c : q = k
    · rw [c]; exact kr
    · rw [if_neg c] at hq; exact h.sd q hq
  · rw [ms] at hq
    by_cases c : q = k
    · subst c
      exact .inr (List.mem_append_right _ m)
    · rw [if_neg c] at hq
      exact up p (h.cl q hq p m)
theorem UI.done {M : List Bool} (h : UI S M []) : M = rtab S := by
  refine mk_ext h.ml fun k hk => ?_
  rw [Bool.eq_iff_iff]
  refine ⟨h.sd k, fun r => ?_⟩
  refine reach_min (P := fun k => mk_ M k = true) (fun k e => ?_) (fun j p hj m => ?_) r
  · rcases h.la k e with z | z
    · exact z
    · cases z
  · rcases h.cl j hj p m with z | z
    · exact z
    · cases z
noncomputable def falses (M : List Bool) : Nat := (M.filter fun b => !b).length
theorem falses_set {M : List Bool} (hk : k < M.length) (h : mk_ M k = false) : falses (M.set k true) + 1 = falses M := by
  induction M generalizing k with
  | nil => exact absurd hk (Nat.not_lt_zero _)
  | cons b M ih =>
    cases k with
    | zero =>
      have hb : b = false := h
      subst hb
      rfl
    | succ k =>
      have := ih (k := k) (by simpa using hk) h
      show ((b :: M.set k true).filter _).length + 1 = _
      unfold falses at this ⊢
      cases b
      · rw [List.filter_cons, List.filter_cons]
        simp only [Bool.not_false, if_true, List.length_cons]
        omega
      · rw [List.filter_cons, List.filter_cons]
        simp only [Bool.not_true, Bool.false_eq_true, if_false]
        omega
end
end RU
set_option linter.all false
set_option maxRecDepth 100000
set_option maxHeartbeats 2000000
namespace PO
open PD PM PN PK
noncomputable abbrev nD (n : Nat) : D := .int (n : Nat)
theorem rngL_cons {i : Int} {n : Nat} : rngL i (n + 1) = .int i :: rngL (i + 1) n := by
  unfold rngL
  rw [List.range_succ_eq_map, List.map_cons, List.map_map]
  refine congr (congrArg _ ?_) (List.map_congr_left fun k _ => ?_)
  · show D.int (i + ((0 : Nat) : Int)) = _
    rw [Int.natCast_zero, Int.add_zero]
  · show D.int (i + ((k + 1 : Nat) : Int)) = D.int (i + 1 + (k : Int))
    rw [show i + ((k + 1 : Nat) : Int) = i + 1 + (k : Int) by omega]
/-! ### rings -/
end PO
set_option linter.all false
set_option maxRecDepth 100000
set_option maxHeartbeats 2000000
namespace PO
open PD PM PN PK
/-! ### spans -/
noncomputable def spD (x : Nat × Nat) : D := .tup [.int (x.1 : Nat), .int (x.2 : Nat)]
theorem tot_app {ps qs : List Ph} : tot (ps ++ qs) = tot ps + tot qs := by simp [tot]
theorem tot_cons {p : Ph} {ps : List Ph} : tot (p :: ps) = p.len + tot ps := by simp [tot]
/-! ### the letters' dict -/
section
variable {κ : Type} [DecidableEq κ]
end
/-- the letters of the puts so far, by their positions -/
structure DictOk (n : Nat) (ls : List (List Nat)) (ks : List DKey) (vs : List D) : Prop where
  len : ks.length = vs.length
  few : ks.length ≤ n
  get : ∀ (z c : Nat), ls[z]? = some [c] → dgetV ks vs (.i (z : Nat)) = some (.str [c])
end PO
set_option linter.all false
set_option maxRecDepth 100000
set_option maxHeartbeats 2000000
namespace PH
open PD PM PN
/-! ### ways to letters -/
noncomputable def nxt (S : List (Option Nat)) (p : Nat) : Option Nat := (S[p]?).join
noncomputable def way (S : List (Option Nat)) : Nat → Nat → Option Nat
  | 0, _ => none
  | f + 1, p => match nxt S p with
    | none => some p
    | some q => way S f q
theorem rngL_cons {i : Int} {n : Nat} : rngL i (n + 1) = .int i :: rngL (i + 1) n := by
  unfold rngL
  rw [List.range_succ_eq_map, List.map_cons, List.map_map]
  refine congr (congrArg _ ?_) (List.map_congr_left fun k _ => ?_)
  · show D.int (i + ((0 : Nat) : Int)) = _
    rw [Int.natCast_zero, Int.add_zero]
  · show D.int (i + ((k + 1 : Nat) : Int)) = D.int (i + 1 + (k : Int))
    rw [show i + ((k + 1 : Nat) : Int) = i + 1 + (k : Int) by omega]
end PH
set_option linter.all false
set_option maxRecDepth 100000
set_option maxHeartbeats 2000000
namespace PH
open PD PM PN
/-! ### rings taken out -/
noncomputable def cps : List Ph → Nat
  | [] => 0
  | .put _ :: ps => cps ps
  | .copy _ _ :: ps => cps ps + 1
noncomputable def hit (ps : List Ph) (bad : Nat) : Nat := match (srcs ps)[bad]? with
  | some (some _) => 1
  | _ => 0
end PH
set_option linter.all false
set_option maxRecDepth 100000
set_option maxHeartbeats 2000000
namespace PH
open PD PM PN
/-- phrases of which every position has a way to a letter -/
structure Good (ps : List Ph) (z : Nat) : Prop where
  tt : tot ps = z
  ok : ∀ p ∈ ps, PhOk z p
  wy : ∀ p, p < z → way (srcs ps) (z + 1) p ≠ none
end PH
set_option linter.all false
set_option maxRecDepth 100000
set_option maxHeartbeats 4000000
namespace PH
open PD PM PN
/-! ### lists of positions -/
/-- ascending positions below n -/
structure Asc (n : Nat) (L : List Nat) : Prop where
  up : L.Pairwise (· < ·)
  lt : ∀ x ∈ L, x < n
theorem Asc.sub {n : Nat} {L M : List Nat} (h : Asc n L) (s : M.Sublist L) : Asc n M := ⟨h.up.sublist s, fun x m => h.lt x (s.subset m)⟩
/-! ### how many are below -/
end PH
set_option linter.all false
set_option maxRecDepth 100000
namespace K23
open PD PM PO PU PV
open _root_.PN hiding i1_check_phrases i2_check_phrases l1_check_phrases i3_check_phrases i4_check_phrases l2_check_phrases b_check_phrases m_check_phrases b_Copies_init m_Copies_init

noncomputable def za336b5d4 : List Nat := [116, 111, 108, 100]
noncomputable def z046afc1d : List Nat := [84, 111, 111, 76, 111, 110, 103]
noncomputable def z42e67caf : List Nat := [66, 97, 100, 67, 111, 117, 110, 116]
noncomputable def i1_mirrored : Env → R Fl := (sIf (mB (m2 dEq (m2 dIx (mV 3) (mC (.int 0))) (mC (.str z12cba3ee)))) (sApp 2 (mN dTup (mCons (mC (.str z12cba3ee)) (mCons (m2 dSub (m2 dSub (mV 1) (m2 dIx (mV 3) (mC (.int 1)))) (m2 dIx (mV 3) (mC (.int 2)))) (mCons (m2 dIx (mV 3) (mC (.int 2))) mNil))))) (sApp 2 (mV 3)))
noncomputable def l1_mirrored : Env → R Fl := i1_mirrored
noncomputable def b_mirrored : Env → R Fl := (sSeq (sSet 1 (mCall 1 m_total_length (mCons (mV 0) mNil))) (sSeq (sSet 2 (mN dLst mNil)) (sSeq (sFor (iOf gSq (m1 dRevS (mV 0))) (gSet 3) l1_mirrored) (sRet (mV 2)))))
noncomputable def m_mirrored : List D → R D := mFn 4 false b_mirrored
noncomputable def b_Copies_neg : Env → R Fl := (sRet (mMake "Copies" ["phrases"] 1 m_Copies_init (mCons (mCall 1 m_mirrored (mCons (m1 (dFld ["Copies"] "phrases") (mV 0)) mNil)) mNil)))
noncomputable def m_Copies_neg : List D → R D := mFn 1 false b_Copies_neg
noncomputable def i1_exchanged : Env → R Fl := (sIf (mB (m2 dEq (m2 dIx (mV 2) (mC (.int 0))) (mC (.str z33c9b363)))) (sApp 1 (mN dTup (mCons (mC (.str z33c9b363)) (mCons (m2 dIx (mV 2) (mC (.int 2))) (mCons (m2 dIx (mV 2) (mC (.int 1))) mNil))))) (sApp 1 (mV 2)))
noncomputable def l1_exchanged : Env → R Fl := i1_exchanged
noncomputable def b_exchanged : Env → R Fl := (sSeq (sSet 1 (mN dLst mNil)) (sSeq (sFor (iOf gSq (mV 0)) (gSet 2) l1_exchanged) (sRet (mV 1))))
noncomputable def m_exchanged : List D → R D := mFn 3 false b_exchanged
noncomputable def b_Rules_neg : Env → R Fl := (sRet (mMake "Rules" ["rules"] 1 m_Rules_init (mCons (mCall 1 m_exchanged (mCons (m1 (dFld ["Rules"] "rules") (mV 0)) mNil)) mNil)))
noncomputable def m_Rules_neg : List D → R D := mFn 1 false b_Rules_neg
noncomputable def i1_law_each : Env → R Fl := (sIf (mB (m2 dGt (m2 dIx (mV 5) (mC (.int 0))) (mC (.int 1)))) (sSet 6 (mN dTup (mCons (mC (.str z33c9b363)) (mCons (m2 dIx (mV 5) (mC (.int 2))) (mCons (m2 dIx (mV 5) (mC (.int 3))) mNil))))) sNx)
noncomputable def i2_law_each : Env → R Fl := (sIf (mB (m2 dEq (m2 dIx (mV 5) (mC (.int 0))) (mC (.int 4)))) (sSet 6 (mN dTup (mCons (mC (.str z62cd2759)) (mCons (m2 dIx (mV 5) (mC (.int 2))) (mCons (m2 dAdd (mC (.int 2)) (m2 dMod (mN dInt1 (mCons (m2 dIx (mV 5) (mC (.int 5))) mNil)) (m2 dIx (mN dLst (mCons (mC (.int 127)) (mCons (mC (.int 2)) (mCons (mC (.int 3)) mNil)))) (m2 dIx (mV 5) (mC (.int 4)))))) mNil))))) sNx)
noncomputable def l1_law_each : Env → R Fl := (sSeq (sSet 5 (mCall 2 m_law_draws (mCons (m2 dAdd (mCall 2 m_law_cell (mCons (mV 0) (mCons (m2 dAdd (mV 1) (m2 dMul (mC (.int 2)) (mV 4))) mNil))) (mV 4)) (mCons (mN dLst (mCons (mC (.int 5)) (mCons (mC (.int 26)) (mCons (mV 2) (mCons (mV 2) (mCons (mC (.int 3)) (mCons (mC (.int 127)) mNil))))))) mNil)))) (sSeq (sSet 6 (mN dTup (mCons (mC (.str zf5b75010)) (mCons (mCall 1 m_law_letter (mCons (m2 dIx (mV 5) (mC (.int 1))) mNil)) mNil)))) (sSeq i1_law_each (sSeq i2_law_each (sApp 3 (mV 6))))))
noncomputable def b_law_each : Env → R Fl := (sSeq (sSet 3 (mN dLst mNil)) (sSeq (sFor (iArgs gR1 (mCons (mV 2) mNil)) (gSet 4) l1_law_each) (sRet (mV 3))))
noncomputable def m_law_each : List D → R D := mFn 7 false b_law_each
noncomputable def c1_law_drawn : Env → R D := (mLc (iArgs gR1 (mCons (mV 3) mNil)) [4] (gSet 4) mYes (mN dTup (mCons (mC (.str zf5b75010)) (mCons (mCall 1 m_law_letter (mCons (m2 dAdd (m2 dIx (mV 2) (mC (.int 1))) (m2 dMul (mV 4) (m2 dIx (mV 2) (mC (.int 2))))) mNil)) mNil))))
noncomputable def i1_law_drawn : Env → R Fl := (sIf (mB (m2 dEq (m2 dIx (mV 2) (mC (.int 0))) (mC (.int 7)))) (sSeq (sSet 3 (m2 dIx (mN dLst (mCons (mC (.int 127)) (mCons (mC (.int 128)) (mCons (mC (.int 254)) (mCons (mC (.int 255)) (mCons (mC (.int 256)) mNil)))))) (m2 dIx (mV 2) (mC (.int 3))))) (sRet c1_law_drawn)) sNx)
noncomputable def i2_law_drawn : Env → R Fl := (sIf (mB (m2 dGt (m2 dIx (mV 2) (mC (.int 0))) (mC (.int 4)))) (sRet (mCall 3 m_law_each (mCons (mV 0) (mCons (m2 dAdd (mV 1) (mC (.int 3))) (mCons (mCall 3 m_law_size (mCons (m2 dIx (mV 2) (mC (.int 1))) (mCons (m2 dIx (mV 2) (mC (.int 2))) (mCons (mC (.int 24)) mNil)))) mNil))))) sNx)
noncomputable def i3_law_drawn : Env → R Fl := (sIf (mB (m2 dEq (m2 dIx (mV 2) (mC (.int 0))) (mC (.int 4)))) (sRet (mCall 1 m_law_near (mCons (mCall 2 m_law_cell (mCons (mV 0) (mCons (mV 1) mNil))) mNil))) sNx)
noncomputable def b_law_drawn : Env → R Fl := (sSeq i1_law_drawn (sSeq i2_law_drawn (sSeq i3_law_drawn (sRet (mCall 2 m_law_rules (mCons (mCall 2 m_law_cell (mCons (mV 0) (mCons (mV 1) mNil))) (mCons (m2 dEq (m2 dIx (mV 2) (mC (.int 0))) (mC (.int 3))) mNil)))))))
noncomputable def m_law_drawn : List D → R D := mFn 5 false b_law_drawn
noncomputable def c1_law_sizes : Env → R D := (mLc (iOf gSq (mV 0)) [5] (gSet 5) mYes (mC .non))
noncomputable def c2_law_sizes : Env → R D := (mLc (iOf gSq (mCall 1 m_law_parts (mCons (m2 dIx (mV 0) (mV 4)) mNil))) [7] (gSet 7) mYes (m2 dIx (mV 1) (mV 7)))
noncomputable def i1_law_sizes : Env → R Fl := (sIf (mB (m2 dEq (m2 dIx (m2 dIx (mV 0) (mV 4)) (mC (.int 0))) (mC (.str z33c9b363)))) (sSetIx 1 (m2 dAdd (m2 dIx (mV 6) (mC (.int 0))) (m2 dIx (mV 6) (mC (.int 1)))) (mV 4)) sNx)
noncomputable def i2_law_sizes : Env → R Fl := (sIf (mB (m2 dEq (m2 dIx (m2 dIx (mV 0) (mV 4)) (mC (.int 0))) (mC (.str z62cd2759)))) (sSetIx 1 (m2 dMul (m2 dIx (mV 6) (mC (.int 0))) (m2 dIx (m2 dIx (mV 0) (mV 4)) (mC (.int 2)))) (mV 4)) sNx)
noncomputable def i3_law_sizes : Env → R Fl := (sIf (mAnd (mB (m2 dIsN (m2 dIx (mV 1) (mV 4)) (mC .non))) (mB (m2 dNotIn (mC .non) (mV 6)))) (sSeq (sSetIx 1 (mC (.int 1)) (mV 4)) (sSeq i1_law_sizes i2_law_sizes)) sNx)
noncomputable def l1_law_sizes : Env → R Fl := (sSeq (sSet 6 c2_law_sizes) i3_law_sizes)
noncomputable def i4_law_sizes : Env → R Fl := (sIf (mB (m2 dEq (mV 1) (mV 3))) sBk sNx)
noncomputable def l2_law_sizes : Env → R Fl := (sSeq (sSet 3 (mNLL (mN dListOf (mCons (mV 1) mNil)))) (sSeq (sFor (iArgs gR1 (mCons (mN dLen (mCons (mV 0) mNil)) mNil)) (gSet 4) l1_law_sizes) i4_law_sizes))
noncomputable def b_law_sizes : Env → R Fl := (sSeq (sSet 1 c1_law_sizes) (sSeq (sFor (iArgs gR1 (mCons (mN dLen (mCons (mV 0) mNil)) mNil)) (gSet 2) l2_law_sizes) (sRet (mV 1))))
noncomputable def m_law_sizes : List D → R D := mFn 8 false b_law_sizes
noncomputable def c1_law_spelled : Env → R D := (mLc (iOf gSq (mV 0)) [5] (gSet 5) mYes (mC .non))
noncomputable def i1_law_spelled : Env → R Fl := (sIf (mB (m2 dNotN (m2 dIx (mV 2) (m2 dSub (mN dLen (mCons (mV 0) mNil)) (mC (.int 1)))) (mC .non))) sBk sNx)
noncomputable def c2_law_spelled : Env → R D := (mLc (iOf gSq (mCall 1 m_law_parts (mCons (m2 dIx (mV 0) (mV 4)) mNil))) [7] (gSet 7) mYes (m2 dIx (mV 2) (mV 7)))
noncomputable def i2_law_spelled : Env → R Fl := (sIf (mB (m2 dNotIn (mC .non) (mV 6))) (sSetIx 2 (m2 dMul (m2 dIx (mV 6) (mC (.int 0))) (m2 dIx (m2 dIx (mV 0) (mV 4)) (mC (.int 2)))) (mV 4)) sNx)
noncomputable def i3_law_spelled : Env → R Fl := (sIf (mAnd (mB (m2 dNotIn (mC .non) (mV 6))) (mB (m2 dEq (m2 dIx (m2 dIx (mV 0) (mV 4)) (mC (.int 0))) (mC (.str z33c9b363))))) (sSetIx 2 (m2 dAdd (m2 dIx (mV 6) (mC (.int 0))) (m2 dIx (mV 6) (mC (.int 1)))) (mV 4)) i2_law_spelled)
noncomputable def i4_law_spelled : Env → R Fl := (sIf (mB (m2 dEq (m2 dIx (m2 dIx (mV 0) (mV 4)) (mC (.int 0))) (mC (.str zf5b75010)))) (sSetIx 2 (m2 dIx (m2 dIx (mV 0) (mV 4)) (mC (.int 1))) (mV 4)) i3_law_spelled)
noncomputable def i5_law_spelled : Env → R Fl := (sIf (mAnd (mB (m2 dIsN (m2 dIx (mV 2) (mV 4)) (mC .non))) (mAnd (mB (m2 dNotN (m2 dIx (mV 1) (mV 4)) (mC .non))) (mB (m2 dLe (m2 dIx (mV 1) (mV 4)) (mC (.int 128)))))) (sSeq (sSet 6 c2_law_spelled) i4_law_spelled) sNx)
noncomputable def l1_law_spelled : Env → R Fl := i5_law_spelled
noncomputable def l2_law_spelled : Env → R Fl := (sSeq i1_law_spelled (sFor (iArgs gR1 (mCons (mN dLen (mCons (mV 0) mNil)) mNil)) (gSet 4) l1_law_spelled))
noncomputable def b_law_spelled : Env → R Fl := (sSeq (sSet 2 c1_law_spelled) (sSeq (sFor (iArgs gR1 (mCons (mN dLen (mCons (mV 0) mNil)) mNil)) (gSet 3) l2_law_spelled) (sRet (m2 dIx (mV 2) (m2 dSub (mN dLen (mCons (mV 0) mNil)) (mC (.int 1)))))))
noncomputable def m_law_spelled : List D → R D := mFn 8 false b_law_spelled
noncomputable def c1_law_ring : Env → R D := (mLc (iOf gSq (mCall 1 m_law_parts (mCons (m2 dIx (mV 0) (m2 dIx (mV 2) (m1 dNeg (mC (.int 1))))) mNil))) [5] (gSet 5) (mB (m2 dIsN (m2 dIx (mV 1) (mV 5)) (mC .non))) (mV 5))
noncomputable def i1_law_ring : Env → R Fl := (sIf (mB (m2 dIn (m2 dIx (mV 4) (mC (.int 0))) (mV 2))) (sRet (mNLL (mSl dSlL (mV 2) (mSo (mMl dIndex (mV 2) (mCons (m2 dIx (mV 4) (mC (.int 0))) mNil))) mNo))) sNx)
noncomputable def l1_law_ring : Env → R Fl := (sSeq (sSet 4 c1_law_ring) (sSeq i1_law_ring (sApp 2 (m2 dIx (mV 4) (mC (.int 0))))))
noncomputable def b_law_ring : Env → R Fl := (sSeq (sSet 2 (mN dLst (mCons (m2 dSub (mN dLen (mCons (mV 0) mNil)) (mC (.int 1))) mNil))) (sSeq (sFor (iArgs gR1 (mCons (mN dLen (mCons (mV 0) mNil)) mNil)) (gSet 3) l1_law_ring) (sRet (mN dLst mNil))))
noncomputable def m_law_ring : List D → R D := mFn 6 false b_law_ring
noncomputable def i1_law_verdict : Env → R Fl := (sIf (mB (m2 dIsN (mV 2) (mC .non))) (sRet (mN dTup (mCons (mC (.str z1a5df958)) (mCons (mCall 2 m_law_ring (mCons (mV 0) (mCons (mV 1) mNil))) mNil)))) sNx)
noncomputable def i2_law_verdict : Env → R Fl := (sIf (mB (m2 dGt (mV 2) (mC (.int 128)))) (sRet (mN dTup (mCons (mC (.str z0f526403)) (mCons (mV 2) mNil)))) sNx)
noncomputable def b_law_verdict : Env → R Fl := (sSeq (sSet 1 (mCall 1 m_law_sizes (mCons (mV 0) mNil))) (sSeq (sSet 2 (m2 dIx (mV 1) (m2 dSub (mN dLen (mCons (mV 0) mNil)) (mC (.int 1))))) (sSeq i1_law_verdict (sSeq i2_law_verdict (sRet (mN dTup (mCons (mC (.str z1cb251ec)) (mCons (mCall 2 m_law_spelled (mCons (mV 0) (mCons (mV 1) mNil))) mNil))))))))
noncomputable def m_law_verdict : List D → R D := mFn 3 false b_law_verdict
noncomputable def i1_law_exchanged : Env → R Fl := (sIf (mB (m2 dEq (m2 dIx (mV 2) (mC (.int 0))) (mC (.str z33c9b363)))) (sApp 1 (mN dTup (mCons (mC (.str z33c9b363)) (mCons (m2 dIx (mV 2) (mC (.int 2))) (mCons (m2 dIx (mV 2) (mC (.int 1))) mNil))))) (sApp 1 (mV 2)))
noncomputable def l1_law_exchanged : Env → R Fl := i1_law_exchanged
noncomputable def b_law_exchanged : Env → R Fl := (sSeq (sSet 1 (mN dLst mNil)) (sSeq (sFor (iOf gSq (mV 0)) (gSet 2) l1_law_exchanged) (sRet (mV 1))))
noncomputable def m_law_exchanged : List D → R D := mFn 3 false b_law_exchanged
noncomputable def i1_shifted : Env → R Fl := (sIf (mB (m2 dEq (m2 dIx (mV 3) (mC (.int 0))) (mC (.str z12cba3ee)))) (sApp 2 (mN dTup (mCons (mC (.str z12cba3ee)) (mCons (m2 dAdd (m2 dIx (mV 3) (mC (.int 1))) (mV 1)) (mCons (m2 dIx (mV 3) (mC (.int 2))) mNil))))) (sApp 2 (mV 3)))
noncomputable def l1_shifted : Env → R Fl := i1_shifted
noncomputable def b_shifted : Env → R Fl := (sSeq (sSet 2 (mN dLst mNil)) (sSeq (sFor (iOf gSq (mV 0)) (gSet 3) l1_shifted) (sRet (mV 2))))
noncomputable def m_shifted : List D → R D := mFn 4 false b_shifted
noncomputable def b_Copies_add : Env → R Fl := (sRet (mMake "Copies" ["phrases"] 1 m_Copies_init (mCons (m2 dAdd (mN dListOf (mCons (m1 (dFld ["Copies"] "phrases") (mV 0)) mNil)) (mCall 2 m_shifted (mCons (m1 (dFld ["Copies"] "phrases") (mV 1)) (mCons (mCall 1 m_total_length (mCons (m1 (dFld ["Copies"] "phrases") (mV 0)) mNil)) mNil)))) mNil)))
noncomputable def m_Copies_add : List D → R D := mFn 2 false b_Copies_add
noncomputable def i1_renamed : Env → R Fl := (sIf (mB (m2 dEq (m2 dIx (mV 3) (mC (.int 0))) (mC (.str z33c9b363)))) (sApp 2 (mN dTup (mCons (mC (.str z33c9b363)) (mCons (m2 dAdd (m2 dIx (mV 3) (mC (.int 1))) (mV 1)) (mCons (m2 dAdd (m2 dIx (mV 3) (mC (.int 2))) (mV 1)) mNil))))) (sApp 2 (mN dTup (mCons (mC (.str z62cd2759)) (mCons (m2 dAdd (m2 dIx (mV 3) (mC (.int 1))) (mV 1)) (mCons (m2 dIx (mV 3) (mC (.int 2))) mNil))))))
noncomputable def i2_renamed : Env → R Fl := (sIf (mB (m2 dEq (m2 dIx (mV 3) (mC (.int 0))) (mC (.str zf5b75010)))) (sApp 2 (mV 3)) i1_renamed)
noncomputable def l1_renamed : Env → R Fl := i2_renamed
noncomputable def b_renamed : Env → R Fl := (sSeq (sSet 2 (mN dLst mNil)) (sSeq (sFor (iOf gSq (mV 0)) (gSet 3) l1_renamed) (sRet (mV 2))))
noncomputable def m_renamed : List D → R D := mFn 4 false b_renamed
noncomputable def b_Rules_add : Env → R Fl := (sSeq (sSet 2 (mN dLen (mCons (m1 (dFld ["Rules"] "rules") (mV 0)) mNil))) (sSeq (sSet 3 (mN dTup (mCons (mC (.str z33c9b363)) (mCons (m2 dSub (mV 2) (mC (.int 1))) (mCons (m2 dSub (m2 dAdd (mV 2) (mN dLen (mCons (m1 (dFld ["Rules"] "rules") (mV 1)) mNil))) (mC (.int 1))) mNil))))) (sRet (mMake "Rules" ["rules"] 1 m_Rules_init (mCons (m2 dAdd (m2 dAdd (mN dListOf (mCons (m1 (dFld ["Rules"] "rules") (mV 0)) mNil)) (mCall 2 m_renamed (mCons (m1 (dFld ["Rules"] "rules") (mV 1)) (mCons (mV 2) mNil)))) (mN dLst (mCons (mV 3) mNil))) mNil)))))
noncomputable def m_Rules_add : List D → R D := mFn 4 false b_Rules_add
noncomputable def e1_law_try_join : Env → R Fl := (sRet (mN dTup (mCons (mC (.str z046afc1d)) (mCons (mAndV (mC (.bl true)) (mAndV (mC (.bl true)) (m1 dNot (mC (.bl false))))) mNil))))
noncomputable def b_law_try_join : Env → R Fl := (sTryN [⟨tblL "TooLong" [], (some 2), e1_law_try_join⟩] (sRet (mN dTup (mCons (mC (.str za336b5d4)) (mCons (mOwnB [("Copies", m_Copies_add), ("Rules", m_Rules_add)] (fun c y => (List.lookup c [("Copies", m_Copies_add), ("Rules", m_Rules_add)]).isSome && okSame c y) (mV 0) (mV 1)) mNil)))))
noncomputable def m_law_try_join : List D → R D := mFn 3 false b_law_try_join
noncomputable def i1_law_many : Env → R Fl := (sIf (mB (m2 dEq (m2 dIx (mV 0) (mC (.int 0))) (mC (.str z1cb251ec)))) (sRet (mN dLen (mCons (m2 dIx (mV 0) (mC (.int 1))) mNil))) sNx)
noncomputable def b_law_many : Env → R Fl := (sSeq i1_law_many (sRet (m2 dIx (mV 0) (mC (.int 1)))))
noncomputable def m_law_many : List D → R D := mFn 1 false b_law_many
noncomputable def i1_law_joined : Env → R Fl := (sIf (mB (m2 dEq (m2 dIx (mV 0) (mC (.int 0))) (mC (.str z1a5df958)))) (sRet (mV 0)) sNx)
noncomputable def c1_law_joined : Env → R D := (mLc (iOf gSq (m2 dIx (mV 1) (mC (.int 1)))) [3] (gSet 3) mYes (m2 dAdd (mV 3) (mV 2)))
noncomputable def i2_law_joined : Env → R Fl := (sIf (mB (m2 dEq (m2 dIx (mV 1) (mC (.int 0))) (mC (.str z1a5df958)))) (sRet (mN dTup (mCons (mC (.str z1a5df958)) (mCons c1_law_joined mNil)))) sNx)
noncomputable def i3_law_joined : Env → R Fl := (sIf (mB (m2 dGt (m2 dAdd (mCall 1 m_law_many (mCons (mV 0) mNil)) (mCall 1 m_law_many (mCons (mV 1) mNil))) (mC (.int 128)))) (sRet (mN dTup (mCons (mC (.str z0f526403)) (mCons (m2 dAdd (mCall 1 m_law_many (mCons (mV 0) mNil)) (mCall 1 m_law_many (mCons (mV 1) mNil))) mNil)))) sNx)
noncomputable def b_law_joined : Env → R Fl := (sSeq i1_law_joined (sSeq i2_law_joined (sSeq i3_law_joined (sRet (mN dTup (mCons (mC (.str z1cb251ec)) (mCons (m2 dAdd (m2 dIx (mV 0) (mC (.int 1))) (m2 dIx (mV 1) (mC (.int 1)))) mNil)))))))
noncomputable def m_law_joined : List D → R D := mFn 4 false b_law_joined
noncomputable def i1_law_is : Env → R Fl := (sIf (mOr (mNot (mB (m1 (dIsC "Rules") (mV 0)))) (mNot (mB (mCall 2 (m_law_same 8) (mCons (mMeth0 [("Rules", m_Rules_lengths)] "lengths" (mV 0)) (mCons (mCall 1 m_law_sizes (mCons (mV 1) mNil)) mNil)))))) (sRet (mC (.bl false))) sNx)
noncomputable def b_law_is : Env → R Fl := (sSeq i1_law_is (sRet (mCall 2 (m_law_same 8) (mCons (mN dTup (mCons (m1 (dFld ["Rules"] "rules") (mV 0)) (mCons (mMeth0 [("Rules", m_Rules_verdict)] "verdict" (mV 0)) (mCons (mMeth0 [("Rules", m_Rules_size)] "size" (mV 0)) mNil)))) (mCons (mN dTup (mCons (mN dTupOf (mCons (mV 1) mNil)) (mCons (mV 2) (mCons (mV 3) mNil)))) mNil)))))
noncomputable def m_law_is : List D → R D := mFn 4 false b_law_is
noncomputable def i1_law_reversed : Env → R Fl := (sIf (mB (m2 dEq (m2 dIx (mV 0) (mC (.int 0))) (mC (.str z0f526403)))) (sRet (mV 0)) sNx)
noncomputable def i2_law_reversed : Env → R Fl := (sIf (mB (m2 dEq (m2 dIx (mV 0) (mC (.int 0))) (mC (.str z1cb251ec)))) (sRet (mN dTup (mCons (mC (.str z1cb251ec)) (mCons (m1 dRevS (m2 dIx (mV 0) (mC (.int 1)))) mNil)))) sNx)
noncomputable def b_law_reversed : Env → R Fl := (sSeq i1_law_reversed (sSeq i2_law_reversed (sRet (mN dTup (mCons (mC (.str z1a5df958)) (mCons (mCall 2 m_law_ring (mCons (mV 1) (mCons (mCall 1 m_law_sizes (mCons (mV 1) mNil)) mNil))) mNil))))))
noncomputable def m_law_reversed : List D → R D := mFn 2 false b_law_reversed
noncomputable def i1_law_raised : Env → R Fl := (sIf (mB (m2 dEq (m2 dIx (mV 3) (mC (.int 0))) (mC (.str z62cd2759)))) (sApp 2 (mN dTup (mCons (mC (.str z62cd2759)) (mCons (m2 dAdd (m2 dIx (mV 3) (mC (.int 1))) (mV 1)) (mCons (m2 dIx (mV 3) (mC (.int 2))) mNil))))) (sApp 2 (mV 3)))
noncomputable def i2_law_raised : Env → R Fl := (sIf (mB (m2 dEq (m2 dIx (mV 3) (mC (.int 0))) (mC (.str z33c9b363)))) (sApp 2 (mN dTup (mCons (mC (.str z33c9b363)) (mCons (m2 dAdd (m2 dIx (mV 3) (mC (.int 1))) (mV 1)) (mCons (m2 dAdd (m2 dIx (mV 3) (mC (.int 2))) (mV 1)) mNil))))) i1_law_raised)
noncomputable def l1_law_raised : Env → R Fl := i2_law_raised
noncomputable def b_law_raised : Env → R Fl := (sSeq (sSet 2 (mN dLst mNil)) (sSeq (sFor (iOf gSq (mV 0)) (gSet 3) l1_law_raised) (sRet (mV 2))))
noncomputable def m_law_raised : List D → R D := mFn 4 false b_law_raised
noncomputable def c1_law_reached : Env → R D := (mLc (iArgs gR1 (mCons (mN dLen (mCons (mV 0) mNil)) mNil)) [4] (gSet 4) mYes (m2 dEq (mV 4) (m2 dSub (mN dLen (mCons (mV 0) mNil)) (mC (.int 1)))))
noncomputable def l1_law_reached : Env → R Fl := (sSetIx 1 (mC (.bl true)) (mV 5))
noncomputable def i1_law_reached : Env → R Fl := (sIf (mTru (m2 dIx (mV 3) (mV 4))) (sFor (iOf gSq (mCall 1 m_law_parts (mCons (m2 dIx (mV 0) (mV 4)) mNil))) (gSet 5) l1_law_reached) sNx)
noncomputable def l2_law_reached : Env → R Fl := i1_law_reached
noncomputable def i2_law_reached : Env → R Fl := (sIf (mB (m2 dEq (mV 1) (mV 3))) sBk sNx)
noncomputable def l3_law_reached : Env → R Fl := (sSeq (sSet 3 (mNLL (mN dListOf (mCons (mV 1) mNil)))) (sSeq (sFor (iArgs gR1 (mCons (mN dLen (mCons (mV 0) mNil)) mNil)) (gSet 4) l2_law_reached) i2_law_reached))
noncomputable def c2_law_reached : Env → R D := (mLc (iOf gSq (mV 1)) [6] (gSet 6) (mTru (mV 6)) (mV 6))
noncomputable def b_law_reached : Env → R Fl := (sSeq (sSet 1 c1_law_reached) (sSeq (sFor (iArgs gR1 (mCons (mN dLen (mCons (mV 0) mNil)) mNil)) (gSet 2) l3_law_reached) (sRet (mN dLen (mCons c2_law_reached mNil)))))
noncomputable def m_law_reached : List D → R D := mFn 7 false b_law_reached
noncomputable def i1_law_join_holds : Env → R Fl := (sIf (mB (m2 dGt (m2 dAdd (m2 dAdd (mN dLen (mCons (mV 2) mNil)) (mN dLen (mCons (mV 3) mNil))) (mC (.int 1))) (mC (.int 256)))) (sRet (mCall 2 (m_law_same 8) (mCons (mV 6) (mCons (mN dTup (mCons (mC (.str z046afc1d)) (mCons (mC (.bl true)) mNil))) mNil)))) sNx)
noncomputable def i2_law_join_holds : Env → R Fl := (sIf (mOr (mB (m2 dNe (m2 dIx (mV 6) (mC (.int 0))) (mC (.str za336b5d4)))) (mNot (mB (mCall 4 m_law_is (mCons (m2 dIx (mV 6) (mC (.int 1))) (mCons (mV 7) (mCons (mV 8) (mCons (mV 9) mNil)))))))) (sRet (mC (.bl false))) sNx)
noncomputable def b_law_join_holds : Env → R Fl := (sSeq (sSet 6 (mCall 2 m_law_try_join (mCons (mV 0) (mCons (mV 1) mNil)))) (sSeq i1_law_join_holds (sSeq (sSet 7 (m2 dAdd (m2 dAdd (mV 2) (mCall 2 m_law_raised (mCons (mV 3) (mCons (mN dLen (mCons (mV 2) mNil)) mNil)))) (mN dLst (mCons (mN dTup (mCons (mC (.str z33c9b363)) (mCons (m2 dSub (mN dLen (mCons (mV 2) mNil)) (mC (.int 1))) (mCons (m2 dSub (m2 dAdd (mN dLen (mCons (mV 2) mNil)) (mN dLen (mCons (mV 3) mNil))) (mC (.int 1))) mNil)))) mNil)))) (sSeq (sSet 8 (mCall 3 m_law_joined (mCons (mV 4) (mCons (mV 5) (mCons (mN dLen (mCons (mV 2) mNil)) mNil))))) (sSeq (sSet 9 (m2 dAdd (m2 dAdd (mCall 1 m_law_reached (mCons (mV 2) mNil)) (mCall 1 m_law_reached (mCons (mV 3) mNil))) (mC (.int 1)))) (sSeq i2_law_join_holds (sSeq (sSet 10 (mCall 1 m_law_exchanged (mCons (mV 7) mNil))) (sRet (mCall 4 m_law_is (mCons (mMeth0 [("Copies", m_Copies_neg), ("Rules", m_Rules_neg)] "__neg__" (m2 dIx (mV 6) (mC (.int 1)))) (mCons (mV 10) (mCons (mCall 2 m_law_reversed (mCons (mV 8) (mCons (mV 10) mNil))) (mCons (mV 9) mNil)))))))))))))
noncomputable def m_law_join_holds : List D → R D := mFn 11 false b_law_join_holds
noncomputable def i1_Copies_mul : Env → R Fl := (sIf (mB (m2 dLt (mV 1) (mC (.int 1)))) (sRaise "BadCount") sNx)
noncomputable def i2_Copies_mul : Env → R Fl := (sIf (mB (m2 dGt (m2 dMul (mV 2) (mV 1)) (mC (.int 128)))) (sRaise "TooLong") sNx)
noncomputable def i3_Copies_mul : Env → R Fl := (sIf (mB (m2 dEq (mV 1) (mC (.int 1)))) (sRet (mMake "Copies" ["phrases"] 1 m_Copies_init (mCons (mN dListOf (mCons (m1 (dFld ["Copies"] "phrases") (mV 0)) mNil)) mNil))) sNx)
noncomputable def b_Copies_mul : Env → R Fl := (sSeq i1_Copies_mul (sSeq (sSet 2 (mCall 1 m_total_length (mCons (m1 (dFld ["Copies"] "phrases") (mV 0)) mNil))) (sSeq i2_Copies_mul (sSeq i3_Copies_mul (sRet (mMake "Copies" ["phrases"] 1 m_Copies_init (mCons (m2 dAdd (mN dListOf (mCons (m1 (dFld ["Copies"] "phrases") (mV 0)) mNil)) (mN dLst (mCons (mN dTup (mCons (mC (.str z12cba3ee)) (mCons (mC (.int 0)) (mCons (m2 dMul (m2 dSub (mV 1) (mC (.int 1))) (mV 2)) mNil)))) mNil))) mNil)))))))
noncomputable def m_Copies_mul : List D → R D := mFn 3 false b_Copies_mul
noncomputable def i1_Rules_mul : Env → R Fl := (sIf (mB (m2 dLt (mV 1) (mC (.int 1)))) (sRaise "BadCount") sNx)
noncomputable def i2_Rules_mul : Env → R Fl := (sIf (mB (m2 dEq (mV 1) (mC (.int 1)))) (sRet (mMake "Rules" ["rules"] 1 m_Rules_init (mCons (mN dListOf (mCons (m1 (dFld ["Rules"] "rules") (mV 0)) mNil)) mNil))) sNx)
noncomputable def i3_Rules_mul : Env → R Fl := (sIf (mB (m2 dGt (mV 1) (mC (.int 128)))) (sRaise "TooLong") sNx)
noncomputable def b_Rules_mul : Env → R Fl := (sSeq i1_Rules_mul (sSeq i2_Rules_mul (sSeq i3_Rules_mul (sRet (mMake "Rules" ["rules"] 1 m_Rules_init (mCons (m2 dAdd (mN dListOf (mCons (m1 (dFld ["Rules"] "rules") (mV 0)) mNil)) (mN dLst (mCons (mN dTup (mCons (mC (.str z62cd2759)) (mCons (m2 dSub (mN dLen (mCons (m1 (dFld ["Rules"] "rules") (mV 0)) mNil)) (mC (.int 1))) (mCons (mV 1) mNil)))) mNil))) mNil))))))
noncomputable def m_Rules_mul : List D → R D := mFn 2 false b_Rules_mul
noncomputable def e1_law_try_repeat : Env → R Fl := (sRet (mN dTup (mCons (mC (.str z046afc1d)) (mCons (mAndV (mC (.bl true)) (mAndV (mC (.bl true)) (m1 dNot (mC (.bl false))))) mNil))))
noncomputable def e2_law_try_repeat : Env → R Fl := (sRet (mN dTup (mCons (mC (.str z42e67caf)) (mCons (mAndV (mC (.bl true)) (mAndV (mC (.bl true)) (m1 dNot (mC (.bl false))))) mNil))))
noncomputable def b_law_try_repeat : Env → R Fl := (sTryN [⟨tblL "BadCount" ["TooLong"], (some 2), e2_law_try_repeat⟩, ⟨tblL "TooLong" ["BadCount"], (some 2), e1_law_try_repeat⟩] (sRet (mN dTup (mCons (mC (.str za336b5d4)) (mCons (mOwnB [("Copies", m_Copies_mul), ("Rules", m_Rules_mul)] (fun c y => (List.lookup c [("Copies", m_Copies_mul), ("Rules", m_Rules_mul)]).isSome && okInt c y) (mV 0) (mV 1)) mNil)))))
noncomputable def m_law_try_repeat : List D → R D := mFn 3 false b_law_try_repeat
noncomputable def i1_law_repeated : Env → R Fl := (sIf (mB (m2 dEq (m2 dIx (mV 0) (mC (.int 0))) (mC (.str z1a5df958)))) (sRet (mV 0)) sNx)
noncomputable def i2_law_repeated : Env → R Fl := (sIf (mB (m2 dGt (m2 dMul (mCall 1 m_law_many (mCons (mV 0) mNil)) (mV 1)) (mC (.int 128)))) (sRet (mN dTup (mCons (mC (.str z0f526403)) (mCons (m2 dMul (mCall 1 m_law_many (mCons (mV 0) mNil)) (mV 1)) mNil)))) sNx)
noncomputable def b_law_repeated : Env → R Fl := (sSeq i1_law_repeated (sSeq i2_law_repeated (sRet (mN dTup (mCons (mC (.str z1cb251ec)) (mCons (m2 dMul (m2 dIx (mV 0) (mC (.int 1))) (mV 1)) mNil))))))
noncomputable def m_law_repeated : List D → R D := mFn 2 false b_law_repeated
noncomputable def i1_law_repeat_holds : Env → R Fl := (sIf (mB (m2 dLt (mV 3) (mC (.int 1)))) (sRet (mCall 2 (m_law_same 8) (mCons (mV 4) (mCons (mN dTup (mCons (mC (.str z42e67caf)) (mCons (mC (.bl true)) mNil))) mNil)))) sNx)
noncomputable def i2_law_repeat_holds : Env → R Fl := (sIf (mOr (mB (m2 dGt (mV 3) (mC (.int 128)))) (mAnd (mB (m2 dGt (mV 3) (mC (.int 1)))) (mB (m2 dEq (mN dLen (mCons (mV 1) mNil)) (mC (.int 256)))))) (sRet (mCall 2 (m_law_same 8) (mCons (mV 4) (mCons (mN dTup (mCons (mC (.str z046afc1d)) (mCons (mC (.bl true)) mNil))) mNil)))) sNx)
noncomputable def i3_law_repeat_holds : Env → R Fl := (sIf (mB (m2 dNe (m2 dIx (mV 4) (mC (.int 0))) (mC (.str za336b5d4)))) (sRet (mC (.bl false))) sNx)
noncomputable def i4_law_repeat_holds : Env → R Fl := (sIf (mB (m2 dEq (mV 3) (mC (.int 1)))) (sRet (mCall 4 m_law_is (mCons (m2 dIx (mV 4) (mC (.int 1))) (mCons (mV 1) (mCons (mV 2) (mCons (mCall 1 m_law_reached (mCons (mV 1) mNil)) mNil)))))) sNx)
noncomputable def b_law_repeat_holds : Env → R Fl := (sSeq (sSet 4 (mCall 2 m_law_try_repeat (mCons (mV 0) (mCons (mV 3) mNil)))) (sSeq i1_law_repeat_holds (sSeq i2_law_repeat_holds (sSeq i3_law_repeat_holds (sSeq i4_law_repeat_holds (sSeq (sSet 5 (mCall 2 m_law_repeated (mCons (mV 2) (mCons (mV 3) mNil)))) (sRet (mCall 4 m_law_is (mCons (m2 dIx (mV 4) (mC (.int 1))) (mCons (m2 dAdd (mV 1) (mN dLst (mCons (mN dTup (mCons (mC (.str z62cd2759)) (mCons (m2 dSub (mN dLen (mCons (mV 1) mNil)) (mC (.int 1))) (mCons (mV 3) mNil)))) mNil))) (mCons (mV 5) (mCons (m2 dAdd (mCall 1 m_law_reached (mCons (mV 1) mNil)) (mC (.int 1))) mNil))))))))))))
noncomputable def m_law_repeat_holds : List D → R D := mFn 6 false b_law_repeat_holds
noncomputable def i1_law : Env → R Fl := (sIf (mAnd (mB (m2 dEq (m2 dIx (mV 1) (mC (.int 0))) (mC (.int 7)))) (mB (m2 dGt (m2 dIx (mV 3) (mC (.int 0))) (mC (.int 2))))) (sSetIx 3 (mC (.int 7)) (mC (.int 0))) sNx)
noncomputable def i2_law : Env → R Fl := (sIf (mB (m2 dEq (m2 dIx (mV 1) (mC (.int 8))) (mC (.int 0)))) (sSeq (sSet 4 (mV 2)) (sSet 7 (mV 6))) sNx)
noncomputable def i3_law : Env → R Fl := (sIf (mNot (mB (mCall 6 m_law_join_holds (mCons (mV 6) (mCons (mV 7) (mCons (mV 2) (mCons (mV 4) (mCons (mV 8) (mCons (mV 9) mNil))))))))) (sRet (mC (.bl false))) sNx)
noncomputable def i4_law : Env → R Fl := (sIf (mNot (mB (mCall 4 m_law_repeat_holds (mCons (mV 6) (mCons (mV 2) (mCons (mV 8) (mCons (mV 5) mNil))))))) (sRet (mC (.bl false))) sNx)
noncomputable def i5_law : Env → R Fl := (sIf (mNot (mB (mCall 4 m_law_is (mCons (mV 11) (mCons (mV 10) (mCons (mCall 2 m_law_reversed (mCons (mV 8) (mCons (mV 10) mNil))) (mCons (mCall 1 m_law_reached (mCons (mV 2) mNil)) mNil))))))) (sRet (mC (.bl false))) sNx)
noncomputable def i6_law : Env → R Fl := (sIf (mOr (mNot (mB (mCall 4 m_law_is (mCons (mMeth0 [("Copies", m_Copies_neg), ("Rules", m_Rules_neg)] "__neg__" (mV 11)) (mCons (mV 2) (mCons (mV 8) (mCons (mCall 1 m_law_reached (mCons (mV 2) mNil)) mNil))))))) (mNot (mB (mCall 2 (m_law_same 8) (mCons (m1 (dFld ["Rules"] "rules") (mV 11)) (mCons (mN dTupOf (mCons (mV 10) mNil)) mNil)))))) (sRet (mC (.bl false))) sNx)
noncomputable def b_law : Env → R Fl := (sSeq (sSet 1 (mCall 2 m_law_draws (mCons (mCall 2 m_law_cell (mCons (mV 0) (mCons (mC (.int 0)) mNil))) (mCons (mN dLst (mCons (mC (.int 8)) (mCons (mC (.int 10)) (mCons (mC (.int 24)) (mCons (mC (.int 5)) (mCons (mC (.int 8)) (mCons (mC (.int 10)) (mCons (mC (.int 24)) (mCons (mC (.int 5)) (mCons (mC (.int 8)) (mCons (mC (.int 10)) (mCons (mC (.int 1000)) mNil)))))))))))) mNil)))) (sSeq (sSet 2 (mCall 3 m_law_drawn (mCons (mV 0) (mCons (mC (.int 1)) (mCons (mSl dSl (mV 1) mNo (mSo (mC (.int 4)))) mNil))))) (sSeq (sSet 3 (mSl dSlL (mV 1) (mSo (mC (.int 4))) (mSo (mC (.int 8))))) (sSeq i1_law (sSeq (sSet 4 (mCall 3 m_law_drawn (mCons (mV 0) (mCons (mC (.int 2)) (mCons (mV 3) mNil))))) (sSeq (sSet 5 (m2 dIx (mN dLst (mCons (mC (.int 2)) (mCons (mC (.int 3)) (mCons (mC (.int 1)) (mCons (mC (.int 0)) (mCons (mC (.int 128)) (mCons (mC (.int 129)) (mCons (m2 dAdd (mC (.int 2)) (m2 dMod (mN dInt1 (mCons (m2 dIx (mV 1) (mC (.int 10))) mNil)) (mC (.int 127)))) (mCons (m2 dSub (m1 dNeg (mC (.int 1))) (m2 dIx (mV 1) (mC (.int 10)))) (mCons (m2 dPow (mC (.int 10)) (mC (.int 30))) (mCons (mC (.int 4)) mNil))))))))))) (m2 dIx (mV 1) (mC (.int 9))))) (sSeq (sSet 6 (mMake "Rules" ["rules"] 1 m_Rules_init (mCons (mN dListOf (mCons (mV 2) mNil)) mNil))) (sSeq (sSet 7 (mMake "Rules" ["rules"] 1 m_Rules_init (mCons (mN dListOf (mCons (mV 4) mNil)) mNil))) (sSeq i2_law (sSeq (sSet 8 (mCall 1 m_law_verdict (mCons (mV 2) mNil))) (sSeq (sSet 9 (mCall 1 m_law_verdict (mCons (mV 4) mNil))) (sSeq i3_law (sSeq i4_law (sSeq (sSet 10 (mCall 1 m_law_exchanged (mCons (mV 2) mNil))) (sSeq (sSet 11 (mMeth0 [("Copies", m_Copies_neg), ("Rules", m_Rules_neg)] "__neg__" (mV 6))) (sSeq i5_law (sSeq i6_law (sRet (mAndV (mCall 4 m_law_is (mCons (mV 6) (mCons (mV 2) (mCons (mV 8) (mCons (mCall 1 m_law_reached (mCons (mV 2) mNil)) mNil))))) (mCall 4 m_law_is (mCons (mV 7) (mCons (mV 4) (mCons (mV 9) (mCons (mCall 1 m_law_reached (mCons (mV 4) mNil)) mNil))))))))))))))))))))))))
noncomputable def m_law : List D → R D := mFn 12 false b_law
end K23
open PD PM in
local macro_rules
  | `(tactic| exists $es,*) => `(tactic| simp (disch := (first | assumption | omega | (simp only [LNe, LRe, rngL_length, List.length_map, List.length_append, List.length_take, List.length_drop, List.length_range, List.length_range', List.length_cons, List.length_nil, List.length_reverse, List.length_replicate, List.length_set, Int.toNat_natCast, Nat.reduceAdd, Nat.reduceLeDiff]; first | done | omega) | decide)) only [o_nx, o_rt, o_bk, o_ct, o_ex, ot_some, List.map_cons, List.map_nil, List.length_cons, List.length_nil, Nat.reduceAdd, Nat.reduceSub, Nat.reduceMul, Nat.reduceLT, Int.reduceAdd, Int.reduceSub, Int.reduceMul, Int.reduceNeg, Int.reduceToNat, Int.toNat_natCast, Nat.zero_add, List.replicate, List.cons_append, List.nil_append, List.set_cons_zero, List.set_cons_succ, List.getElem?_cons_zero, List.getElem?_cons_succ, Option.map_some, mFn_eq, kCl1, kCl2, kCl3, kCl4, ite_true, ite_false, Bool.not_true, Bool.not_false, reduceIte, isAtom_bl, isAtom_i, isAtom_s, isAtom_n, List.getElem?_nil, Bool.false_eq_true, eq_self, not_true_eq_false, not_false_eq_true, decide_true, decide_false, Bool.true_eq_false, kAtL_ok, reduceCtorEq, oR_some, oR_none, okb, mV_0, mV_s, mC_eq, k1_ok, m1_eq, k2_ok, m2_eq, kN_ok, mN_eq, iArgs_eq, kO_ok, iOf_eq, mB_eq, mTru_eq, mSo_eq, mNo_eq, mNil_eq, kC_ok, mCons_eq, dBool_bl, dInt?_int, kIf_t, kIf_f, mIf_eq, kAnd_t, kAnd_f, mAnd_eq, kOr_t, kOr_f, mOr_eq, kNot_ok, mNot_eq, kAndV_t, kAndV_f, mAndV_eq, kOrV_t, kOrV_f, mOrV_eq, kCh0_ok, kCh_t, kCh_f, mChain_eq, kAt_ok, mAt_eq, kSl_ok, mSl_eq, kM_ok, mM_eq, mCall_eq, noF_ok, noF_err, kClA_ok, mCallA_eq, kG_ok, kG_err, kClL_ok, mCallL_eq, kOb_ok, kOb_err, kMk_ok1, kMk_ok2, mMake_eq, kMkL_ok1, kMkL_ok2, mMakeL_eq, mMeth_eq, mMeth0_eq, gSq_l, gSq_t, gSq_s, gEn_l, dIsC_o, kS_nx, kS_rt, kS_bk, kS_ct, kS_ex, sSeq_eq, sNx_eq, sBk_eq, sCt_eq, sRaise_eq, sRetN_eq, kSet_ok, kSet_err, sSet_eq, kDrop_ok, kDrop_err, sDrop_eq, kRet_ok, kRet_err, sRet_eq, kIfS_t, kIfS_f, sIf_eq, kFor_ok, sFor_eq, getL_0, getL_s, sApp_eq, gSet_eq, kLc_ok, mLc_eq, wipeD_1, mYes_eq, kF_rt, kF_nx, kF_ex, dAdd_i, dSub_i, dNeg_i, dLt_i, dLe_i, dGt_i, dGe_i, dEq_b, dNot_b, dAbs_i, dMin2_i, dMax2_i, dInt1_i, dInt1_b, dLen_l, dLen_t, dLen_c, gL_l, gT_t, gS_s, dSl_l, dSlL_l, dFind_s, dAllS_s, dIsi_non, dIsi_bl, dIsi_int, dIsi_str, dIsi_lst, dIsi_tup, isN_non, isN_int, isN_str, isN_lst, isN_tup, isN_bl, notN_non, notN_int, notN_str, notN_lst, notN_tup, dIx_lit, dIx_litT, isi_1, isi_2, isi_3, isi_4, isi_5, isb_1, isb_2, isb_3, isb_4, isb_5, iss_1, iss_2, iss_3, iss_4, iss_5, isl_1, isl_2, isl_3, isl_4, isl_5, ist_1, ist_2, ist_3, ist_4, ist_5, isn_1, isn_2, isn_3, isn_4, isn_5, kT2_rt, endN_rt, endN_nx, clrI_s, clrI_n, mAtL_eq, kAtL_err, kC_err, kC_err1, kN_err, kCl_err, dListOf_l, dListOf_t, dTupOf_l, dTupOf_t, dRevL_l, r_kIf_p, r_kIf_n, r_kIfS_p, r_kIfS_n, r_kAnd_p, r_kAnd_n, r_kOr_p, r_kOr_n, r_kAndV_p, r_kAndV_n, r_kOrV_p, r_kOrV_n, r_kNot, r_dNot, r_kCh_p, r_kCh_n, r_not_t, r_bnot, r_eq_i, r_ne_i, r_eq_s, r_ne_s, r_mul, r_div, r_ixn, r_ixtn, r_ixsn, r_ixc, r_len_s, r_add_s, r_add_l, r_cat_l, r_lst, r_tup, r_R1, r_R1n, r_R2, r_sl_s, r_app, r_kLn, r_sExt, r_kExt, r_sPop, r_kPop, r_sSI, r_kSI, r_kSIl, r_ixl, r_sAug, r_kAug, r_kOS, r_sPar, r_kPar, r_sAsg, r_kAsg, r_kTo, r_gTup, r_gsNil, r_gsCons, r_kGs, r_tru0, r_truc, r_trus, r_trub, r_trun, r_sFI, r_kFI, r_kInit, r_kInitX, $[$es:term],*])
set_option linter.all false
set_option maxRecDepth 100000
set_option maxHeartbeats 2000000
/-! # rules: parts, validity, the press, names that end -/
namespace RV
open PD PM PU RU
noncomputable abbrev nD (n : Nat) : D := .int (n : Nat)
noncomputable def rD : Rl → D
  | .let_ c => .tup [.str zf5b75010, .str [c]]
  | .pair l r => .tup [.str z33c9b363, .int (l : Nat), .int (r : Nat)]
  | .pow p t => .tup [.str z62cd2759, .int (p : Nat), .int (t : Nat)]
noncomputable def RlOk (z : Nat) : Rl → Prop
  | .let_ c => 97 ≤ c ∧ c ≤ 122
  | .pair l r => l < z ∧ r < z
  | .pow p t => p < z ∧ 2 ≤ t ∧ t ≤ 128
structure Val (S : RS) : Prop where
  ne : S ≠ []
  len : S.length ≤ 256
  ok : ∀ r ∈ S, RlOk S.length r
theorem RlOk.parts {z : Nat} {r : Rl} (h : RlOk z r) : ∀ p ∈ r.parts, p < z := fun p m => by
  cases r with
  | let_ c => cases m
  | pair l r =>
    rcases List.mem_cons.mp m with rfl | m
    · exact h.1
    · rw [List.mem_singleton.mp m]; exact h.2
  | pow q t => rw [List.mem_singleton.mp m]; exact h.1
theorem Val.pv {S : RS} (h : Val S) : PV S := fun j p m => by
  unfold pts at m
  cases q : S[j]? with
  | none => rw [q] at m; cases m
  | some r => rw [q] at m; exact (h.ok r (List.mem_of_getElem? q)).parts p m
theorem lp : (zf5b75010 = z33c9b363) = False := by simp [zf5b75010, z33c9b363]
theorem lw : (zf5b75010 = z62cd2759) = False := by simp [zf5b75010, z62cd2759]
theorem pl : (z33c9b363 = zf5b75010) = False := by simp [zf5b75010, z33c9b363]
theorem pw : (z33c9b363 = z62cd2759) = False := by simp [z62cd2759, z33c9b363]
theorem wl : (z62cd2759 = zf5b75010) = False := by simp [zf5b75010, z62cd2759]
theorem wp : (z62cd2759 = z33c9b363) = False := by simp [z62cd2759, z33c9b363]
theorem parts_ok {r : Rl} : m_parts_of [rD r] = .ok (.lst (r.parts.map nD)) := by
  cases r with
  | let_ c => exists m_parts_of, b_parts_of, i1_parts_of, i2_parts_of, rD, Rl.parts
  | pair l r => exists m_parts_of, b_parts_of, i1_parts_of, i2_parts_of, rD, pl, Rl.parts
  | pow p t => exists m_parts_of, b_parts_of, i1_parts_of, i2_parts_of, rD, wl, wp, Rl.parts
theorem law_parts_ok {r : Rl} : m_law_parts [rD r] = .ok (.lst (r.parts.map nD)) := by
  cases r with
  | let_ c => exists m_law_parts, b_law_parts, i1_law_parts, i2_law_parts, rD, lp, lw, Rl.parts
  | pair l r => exists m_law_parts, b_law_parts, i1_law_parts, i2_law_parts, rD, pl, Rl.parts
  | pow p t => exists m_law_parts, b_law_parts, i1_law_parts, i2_law_parts, rD, wl, wp, Rl.parts
/-! a list or a tuple -/
noncomputable def sq (b : Bool) (xs : List D) : D := cond b (.tup xs) (.lst xs)
section
variable {b : Bool} {xs : List D} {k : Nat}
theorem sq_g : gSq (sq b xs) = some xs := by cases b <;> rfl
theorem sq_l : dLen [sq b xs] = some (.int xs.length) := by cases b <;> rfl
theorem sq_x : dIx (sq b xs) (.int (k : Nat)) = xs[k]? := by
  cases b
  · exact r_ixn
  · exact r_ixtn
end
/-! validity -/
noncomputable def rul (S : RS) : D := .obj "Rules" ["rules"] [.tup (S.map rD)]
theorem fld_ok {S : RS} : dFld ["Rules"] "rules" (rul S) = some (.tup (S.map rD)) := dFld_ok (by simp) rfl
end RV
set_option linter.all false
set_option maxRecDepth 100000
set_option maxHeartbeats 2000000
/-! # names that end, in order -/
namespace RV
open PD PM PU RU
section
variable {ρ : Env} {d x y : D} {i j k : Nat} {xs ds : List D}
end
/-! users -/
theorem two {r : Rl} : r.parts.length ≤ 2 := by cases r <;> (unfold Rl.parts; simp)
/-! the loop that settles names -/
end RV
set_option linter.all false
set_option maxRecDepth 100000
set_option maxHeartbeats 2000000
set_option exponentiation.threshold 3000
/-! # lengths and heights -/
namespace RV
open PD PM PU RU
noncomputable abbrev oD := PN.oD
noncomputable def gLen : Rl → List Nat → Nat
  | .let_ _, _ => 1
  | .pair _ _, xs => xs.getD 0 0 + xs.getD 1 0
  | .pow _ t, xs => xs.getD 0 0 * t
noncomputable def BB : Nat := 128 ^ 256
theorem len_bound {S : RS} (h : Val S) : ∀ {f k v : Nat}, evF gLen S f k = some v → v ≤ 128 ^ f
  | 0, _, _, e => by cases e
  | f + 1, k, v, e => by
    obtain ⟨r, xs, hr, hx, rfl⟩ := ev_down e
    have hx := allS_some hx
    have ok := h.ok r (List.mem_of_getElem? hr)
    have pos : 1 ≤ 128 ^ f := Nat.pow_pos (by omega)
    have pw : 128 ^ (f + 1) = 128 ^ f * 128 := Nat.pow_succ ..
    rw [pw]
    cases r with
    | let_ c => show 1 ≤ _; omega
    | pair l q =>
      cases xs with
      | nil => simp [Rl.parts] at hx
      | cons a xs =>
        cases xs with
        | nil => simp [Rl.parts] at hx
        | cons b xs =>
          have hx : [evF gLen S f l, evF gLen S f q] = some a :: some b :: xs.map some := hx
          obtain ⟨h1, h2⟩ := List.cons.inj hx
          obtain ⟨h2, h3⟩ := List.cons.inj h2
          have b1 := len_bound h h1
          have b2 := len_bound h h2
          show a + b ≤ _
          omega
    | pow p t =>
      cases xs with
      | nil => simp [Rl.parts] at hx
      | cons a xs =>
        have hx : [evF gLen S f p] = some a :: xs.map some := hx
        obtain ⟨h1, h2⟩ := List.cons.inj hx
        have b1 := len_bound h h1
        have t2 : t ≤ 128 := ok.2.2
        show a * t ≤ _
        exact Nat.mul_le_mul b1 t2
theorem len_BB {S : RS} (h : Val S) {k v : Nat} (e : ev gLen S k = some v) : v ≤ BB :=
  Nat.le_trans (len_bound h e) (Nat.pow_le_pow_right (by omega) h.len)
theorem mul_n {a t : Nat} (ha : a ≤ BB) (ht : t ≤ 128) : dMul (nD a) (nD t) = some (nD (a * t)) := by
  have l1 : a.log2 < 2000 := by
    by_cases c : a = 0
    · rw [c]; decide
    · refine (Nat.log2_lt c).mpr ?_
      have : BB < 2 ^ 2000 := by
        unfold BB
        rw [show (128 : Nat) = 2 ^ 7 from rfl, ← Nat.pow_mul]
        exact Nat.pow_lt_pow_right (by omega) (by omega)
      omega
  have l2 : t.log2 < 10 := by
    by_cases c : t = 0
    · rw [c]; decide
    · refine (Nat.log2_lt c).mpr ?_
      have : (128 : Nat) < 2 ^ 10 := by decide
      omega
  have e : dMul (.int (a : Nat)) (.int (t : Nat)) = some (.int ((a : Nat) * (t : Nat))) := dMul_i (by
    rw [Int.natAbs_natCast, Int.natAbs_natCast]
    have : MB = 4000000 := rfl
    omega)
  refine e.trans ?_
  show some (D.int _) = some (D.int _)
  rw [Int.natCast_mul]
theorem ixA {X : OV} {p : Nat} (h : p < X.length) : dIx (.lst (X.map oD)) (.int (p : Nat)) = some (oD (at_ X p)) := by
  refine r_ixn.trans ?_
  unfold at_
  rw [List.getElem?_map, List.getD_eq_getElem?_getD, List.getElem?_eq_getElem h]; rfl
theorem two_of {r : Rl} {f : Nat → Option Nat} {xs : List Nat} (hx : r.parts.map f = xs.map some) : match r with
  | .let_ _ => xs = []
  | .pair l q => ∃ a b, xs = [a, b] ∧ f l = some a ∧ f q = some b
  | .pow p _ => ∃ a, xs = [a] ∧ f p = some a := by
  cases r with
  | let_ c => cases xs with
    | nil => rfl
    | cons _ _ => simp [Rl.parts] at hx
  | pair l q => match xs, hx with
    | [], hx => simp [Rl.parts] at hx
    | [a], hx => simp [Rl.parts] at hx
    | [a, b], hx =>
      have hx : [f l, f q] = [some a, some b] := hx
      obtain ⟨h1, h2⟩ := List.cons.inj hx
      obtain ⟨h2, _⟩ := List.cons.inj h2
      exact ⟨a, b, rfl, h1, h2⟩
    | a :: b :: c :: d, hx => simp [Rl.parts] at hx
  | pow p t => match xs, hx with
    | [], hx => simp [Rl.parts] at hx
    | [a], hx =>
      have hx : [f p] = [some a] := hx
      obtain ⟨h1, _⟩ := List.cons.inj hx
      exact ⟨a, rfl, h1⟩
    | a :: b :: d, hx => simp [Rl.parts] at hx
theorem ix_rule {S : RS} {b : Bool} {k : Nat} {r : Rl} (h : S[k]? = some r) : dIx (sq b (S.map rD)) (.int (k : Nat)) = some (rD r) := by
  rw [sq_x, List.getElem?_map, h]; rfl
theorem nones_ok {S : RS} {b : Bool} {n v : Nat} {ρ : Env} : lcGo (gSet v) mYes (mC .non) ρ (S.map rD) = .ok ((List.replicate S.length (none : Option Nat)).map oD) := by
  have lc := lc_fm (T := gSet v) (ft := mYes) (fe := mC .non) (ρ := ρ) rD (fun _ => true) (fun _ => D.non) (xs := S) fun x m => ⟨_, rfl, rfl, fun _ => rfl⟩
  rw [List.filter_eq_self.mpr (fun _ _ => rfl)] at lc
  rw [lc]
  congr 1
  rw [List.map_replicate]
  clear lc
  induction S with
  | nil => rfl
  | cons x S ih => rw [List.map_cons, ih]; rfl
theorem set_oD {X : OV} {k v : Nat} : (X.map oD).set k (.int (v : Nat)) = (X.set k (some v)).map oD := by
  rw [List.map_set]; rfl
/-! ### lengths -/
end RV
set_option linter.all false
set_option maxRecDepth 100000
set_option maxHeartbeats 2000000
/-! # heights; the law's lengths and heights -/
namespace RV
open PD PM PU RU
/-! ### the law's -/
theorem allAt_oD {os : List (Option Nat)} : allAt (os.map oD) = true := by
  unfold allAt
  rw [List.all_map, List.all_eq_true]
  intro o _
  cases o <;> rfl
theorem notN_all {os : List (Option Nat)} {xs : List Nat} (h : allS os = some xs) : dNotIn .non (.lst (os.map oD)) = some (.bl true) := by
  have e := allS_some h
  unfold dNotIn dInB
  dsimp only
  rw [if_pos ⟨rfl, allAt_oD⟩, e]
  have : ((xs.map some).map oD).any (fun y => eqA y .non) = false := by
    rw [List.map_map, List.any_map, List.any_eq_false]
    intro x _
    show ¬ eqA (.int (x : Nat)) .non = true
    exact Bool.false_ne_true
  rw [this]; rfl
theorem notN_no {os : List (Option Nat)} (h : allS os = none) : dNotIn .non (.lst (os.map oD)) = some (.bl false) := by
  unfold dNotIn dInB
  dsimp only
  rw [if_pos ⟨rfl, allAt_oD⟩]
  have key : ∀ os : List (Option Nat), allS os = none → (os.map oD).any (fun y => eqA y .non) = true := fun os => by
    induction os with
    | nil => exact fun h => nomatch h
    | cons o os ih =>
      intro h
      cases o with
      | none => rfl
      | some x =>
        have h : (allS os).map (x :: ·) = none := h
        rw [List.map_cons, List.any_cons]
        cases q : allS os with
        | none => rw [ih q, Bool.or_true]
        | some ys => rw [q] at h; cases h
  rw [key os h]; rfl
section
variable {S : RS} {b : Bool} {X : OV} {k : Nat} {r : Rl}
theorem known_ok {v w : Nat} {ρ : Env} (hr : S[k]? = some r) (ok : RlOk S.length r) (hX : X.length = S.length) (h1 : ∀ p, ∃ ρ', gSet v (nD p) ρ = some ρ' ∧ mV 1 ρ' = .ok (.lst (X.map oD)) ∧ mV v ρ' = .ok (nD p)) :
    lcGo (gSet v) mYes (m2 dIx (mV 1) (mV v)) ρ (r.parts.map nD) = .ok ((r.parts.map (at_ X)).map oD) := by
  have lc := lc_fm (T := gSet v) (ft := mYes) (fe := m2 dIx (mV 1) (mV v)) (ρ := ρ) nD (fun _ => true) (fun p => oD (at_ X p)) (xs := r.parts) fun p m => by
    obtain ⟨ρ', a, c, d⟩ := h1 p
    refine ⟨ρ', a, rfl, fun _ => ?_⟩
    have ix := ixA (X := X) (p := p) (by rw [hX]; exact ok.parts p m)
    rw [m2_eq, c, d, k2_ok, ix]; rfl
  rw [List.filter_eq_self.mpr (fun _ _ => rfl)] at lc
  rw [lc, List.map_map]; rfl
theorem updK_some {g : Rl → List Nat → Nat} {xs : List Nat} (hr : S[k]? = some r) (hx : allS (r.parts.map (at_ X)) = some xs) : updK g S X k = X.set k (some (g r xs)) := by
  unfold updK
  rw [hr]
  dsimp only
  rw [hx]
theorem updK_none {g : Rl → List Nat → Nat} (hr : S[k]? = some r) (hx : allS (r.parts.map (at_ X)) = none) : updK g S X k = X := by
  unfold updK
  rw [hr]
  dsimp only
  rw [hx]
end
theorem law_len_step {S : RS} {b : Bool} {X : OV} {k : Nat} {o2 o4 o5 : Option D} (h : Val S) (hk : k < S.length) (hX : X.length = S.length) (sd : SD gLen S X) :
    ∃ o5', l1_law_lengths [some (sq b (S.map rD)), some (.lst (X.map oD)), o2, some (nD k), o4, o5, none] = .ok (.nx [some (sq b (S.map rD)), some (.lst ((updK gLen S X k).map oD)), o2, some (nD k), o4, o5', none]) := by
  obtain ⟨r, hr⟩ : ∃ r, S[k]? = some r := ⟨_, List.getElem?_eq_getElem hk⟩
  have ok := h.ok r (List.mem_of_getElem? hr)
  have ir := ix_rule (b := b) hr
  have po := law_parts_ok (r := r)
  have gs : gSq (.lst (r.parts.map nD)) = some (r.parts.map nD) := rfl
  have kn := known_ok (v := 6) (w := 0) (X := X) (ρ := [some (sq b (S.map rD)), some (.lst (X.map oD)), o2, some (nD k), o4, o5, none]) hr ok hX fun p => ⟨_, rfl, rfl, rfl⟩
  have kl := kLn_ok (xs := (r.parts.map (at_ X)).map oD) (by rw [List.length_map, List.length_map, LNe]; have := two (r := r); omega)
  have w1 : wipeD [some (sq b (S.map rD)), some (.lst (X.map oD)), o2, some (nD k), o4, o5, none] [6] = [some (sq b (S.map rD)), some (.lst (X.map oD)), o2, some (nD k), o4, o5, none] := rfl
  have si : k < (X.map oD).length := by rw [List.length_map, hX]; exact hk
  cases hx : allS (r.parts.map (at_ X)) with
  | none =>
    rw [updK_none hr hx]
    have nn := notN_no hx
    generalize sq b (S.map rD) = sd at *
    generalize X.map oD = XD at *
    generalize (r.parts.map (at_ X)).map oD = KD at *
    generalize r.parts.map nD = ps at *
    generalize rD r = rd at *
    refine ⟨some (.lst KD), ?_⟩
    exists l1_law_lengths, c2_law_lengths, ir, po, gs, w1, kn, kl, i3_law_lengths, nn
  | some xs =>
    rw [updK_some hr hx, ← set_oD]
    have nn := notN_all hx
    have hx := allS_some hx
    have t1 := two_of hx
    have s2 : ∀ d, k < ((X.map oD).set k d).length := fun d => by rw [List.length_set]; exact si
    cases r with
    | let_ c =>
      have t1 : xs = [] := t1
      subst t1
      have g1 : ((gLen (.let_ c) [] : Nat) : Int) = 1 := rfl
      rw [g1]
      have rd : rD (.let_ c) = .tup [.str zf5b75010, .str [c]] := rfl
      have kd : ((Rl.let_ c).parts.map (at_ X)).map oD = [] := rfl
      have pd : (Rl.let_ c).parts.map nD = [] := rfl
      rw [rd] at ir po
      rw [kd] at kn kl nn
      rw [pd] at kn po gs
      generalize sq b (S.map rD) = sd at *
      generalize X.map oD = XD at *
      refine ⟨some (.lst []), ?_⟩
      exists l1_law_lengths, c2_law_lengths, ir, po, gs, w1, kn, kl, i3_law_lengths, nn, i1_law_lengths, i2_law_lengths, lp, lw, r_sSI, r_kSI si
    | pair l w =>
      obtain ⟨a, b2, rfl, ha, hb⟩ := t1
      have g1 : ((gLen (.pair l w) [a, b2] : Nat) : Int) = (a : Nat) + (b2 : Nat) := rfl
      rw [g1]
      have rd : rD (.pair l w) = .tup [.str z33c9b363, .int (l : Nat), .int (w : Nat)] := rfl
      have kd : ((Rl.pair l w).parts.map (at_ X)).map oD = [.int (a : Nat), .int (b2 : Nat)] := by rw [hx]; rfl
      have pd : (Rl.pair l w).parts.map nD = [nD l, nD w] := rfl
      rw [rd] at ir po
      rw [kd] at kn kl nn
      rw [pd] at kn po gs
      have ss : ((X.map oD).set k (.int 1)).set k (.int ((a : Nat) + (b2 : Nat))) = (X.map oD).set k (.int ((a : Nat) + (b2 : Nat))) := List.set_set ..
      have s3 := s2 (.int 1)
      generalize (X.map oD).set k (.int ((a : Nat) + (b2 : Nat))) = XF at *
      generalize hXD : (X.map oD) = XD at *
      generalize sq b (S.map rD) = sd at *
      refine ⟨some (.lst [.int (a : Nat), .int (b2 : Nat)]), ?_⟩
      exists l1_law_lengths, c2_law_lengths, ir, po, gs, w1, kn, kl, i3_law_lengths, nn, i1_law_lengths, i2_law_lengths, pl, pw, r_sSI, r_kSI si, r_kSI s3, ss
    | pow p t =>
      obtain ⟨a, rfl, ha⟩ := t1
      have mu := mul_n (len_BB h (sd p a ha)) ok.2.2
      have g1 : D.int (gLen (.pow p t) [a] : Nat) = nD (a * t) := rfl
      rw [g1]
      have rd : rD (.pow p t) = .tup [.str z62cd2759, .int (p : Nat), nD t] := rfl
      have kd : ((Rl.pow p t).parts.map (at_ X)).map oD = [nD a] := by rw [hx]; rfl
      have pd : (Rl.pow p t).parts.map nD = [nD p] := rfl
      rw [rd] at ir po
      rw [kd] at kn kl nn
      rw [pd] at kn po gs
      have ss : ((X.map oD).set k (.int 1)).set k (nD (a * t)) = (X.map oD).set k (nD (a * t)) := List.set_set ..
      have s3 := s2 (.int 1)
      generalize (X.map oD).set k (nD (a * t)) = XF at *
      generalize hXD : (X.map oD) = XD at *
      generalize sq b (S.map rD) = sd at *
      generalize nD a = ad at *
      generalize nD t = td at *
      generalize nD (a * t) = atd at *
      refine ⟨some (.lst [ad]), ?_⟩
      exists l1_law_lengths, c2_law_lengths, ir, po, gs, w1, kn, kl, i3_law_lengths, nn, i1_law_lengths, i2_law_lengths, wp, mu, r_sSI, r_kSI si, r_kSI s3, ss
end RV
set_option linter.all false
set_option maxRecDepth 100000
set_option maxHeartbeats 2000000
/-! # the law's rounds -/
namespace RV
open PD PM PU RU
theorem tab_len {g : Rl → List Nat → Nat} {S : RS} : (tab g S).length = S.length := by unfold tab; rw [List.length_map, List.length_range]
theorem law_lengths_ok {S : RS} {b : Bool} (h : Val S) : m_law_lengths [sq b (S.map rD)] = .ok (.lst ((tab gLen S).map oD)) := by
  have hl := h.len
  have sg := sq_g (b := b) (xs := S.map rD)
  have sl := sq_l (b := b) (xs := S.map rD)
  rw [List.length_map] at sl
  have r1 : gR1 [.int ((S.length : Nat) : Int)] = some (rngL 0 S.length) := r_R1n (by omega)
  have lc1 := nones_ok (S := S) (b := b) (n := 0) (v := 4) (ρ := [some (sq b (S.map rD)), none, none, none, none, none, none])
  have kl1 := kLn_ok (xs := (List.replicate S.length (none : Option Nat)).map oD) (by rw [List.length_map, List.length_replicate, LNe]; omega)
  have e0 : (List.replicate S.length (none : Option Nat)) = rnds gLen S 0 := rfl
  rw [e0] at lc1 kl1
  obtain ⟨ρ1, e1, o2, o3, o5, rfl⟩ := loop_I (T := gSet 2) (b := l2_law_lengths) (fun t ρ => ∃ o2 o3 o5 : Option D, ρ = [some (sq b (S.map rD)), some (.lst ((rnds gLen S t).map oD)), o2, o3, none, o5, none]) (rngL 0 S.length) [some (sq b (S.map rD)), some (.lst ((rnds gLen S 0).map oD)), none, none, none, none, none] ⟨none, none, none, rfl⟩ (by
    rintro t d ρ hd ⟨o2, o3, o5, rfl⟩
    obtain ⟨ht, rfl⟩ := rngL_get hd
    have rk := rnds_ok (g := gLen) (S := S) (t := t)
    have rl : (rnds gLen S t).length = S.length := rnds_len
    obtain ⟨ρ2, e2, p3, p5, rfl⟩ := loop_I (T := gSet 3) (b := l1_law_lengths) (fun j ρ => ∃ o3 o5 : Option D, ρ = [some (sq b (S.map rD)), some (.lst ((rnd gLen S (rnds gLen S t) j).map oD)), some (.int (0 + (t : Nat))), o3, none, o5, none]) (rngL 0 S.length) [some (sq b (S.map rD)), some (.lst ((rnds gLen S t).map oD)), some (.int (0 + (t : Nat))), o3, none, o5, none] ⟨_, _, rfl⟩ (by
      rintro j d ρ hd ⟨o3, o5, rfl⟩
      obtain ⟨hj, rfl⟩ := rngL_get hd
      have z : (0 : Int) + (j : Nat) = (j : Nat) := by omega
      obtain ⟨o5', e⟩ := law_len_step (b := b) (X := rnd gLen S (rnds gLen S t) j) (o2 := some (.int (0 + (t : Nat)))) (o4 := none) (o5 := o5) h hj (by rw [rnd_len, rl]) (rnd_ok rl rk.1 rk.2).1
      rw [← rnd_s] at e
      generalize sq b (S.map rD) = sd at *
      generalize (rnd gLen S (rnds gLen S t) j).map oD = X1 at *
      generalize (rnd gLen S (rnds gLen S t) (j + 1)).map oD = X2 at *
      exists z, e
      exact ⟨_, _, rfl⟩)
    rw [rngL_length] at e2
    have re : rnd gLen S (rnds gLen S t) S.length = rnds gLen S (t + 1) := rfl
    rw [re] at e2
    generalize sq b (S.map rD) = sd at *
    generalize (rnds gLen S t).map oD = X1 at *
    generalize (rnds gLen S (t + 1)).map oD = X2 at *
    generalize rngL 0 S.length = RG at *
    exists l2_law_lengths, sl, r1, e2
    exact ⟨_, _, _, rfl⟩)
  rw [rngL_length, rnds_end] at e1
  have w1 : wipeD [some (sq b (S.map rD)), none, none, none, none, none, none] [4] = [some (sq b (S.map rD)), none, none, none, none, none, none] := rfl
  generalize sq b (S.map rD) = sd at *
  generalize (rnds gLen S 0).map oD = X0 at *
  generalize (tab gLen S).map oD = T0 at *
  generalize rngL 0 S.length = RG at *
  exists m_law_lengths, b_law_lengths, c1_law_lengths, sg, w1, lc1, kl1, sl, r1, e1
/-! ### names reached -/
noncomputable def bD (b : Bool) : D := .bl b
theorem mk_get {M : List Bool} {p : Nat} (h : p < M.length) : dIx (.lst (M.map bD)) (.int (p : Nat)) = some (.bl (mk_ M p)) := by
  refine r_ixn.trans ?_
  unfold mk_
  rw [List.getElem?_map, List.getD_eq_getElem?_getD, List.getElem?_eq_getElem h]; rfl
theorem falses_ok {S : RS} {v : Nat} {ρ : Env} : lcGo (gSet v) mYes (mC (.bl false)) ρ (S.map rD) = .ok ((List.replicate S.length false).map bD) := by
  have lc := lc_fm (T := gSet v) (ft := mYes) (fe := mC (.bl false)) (ρ := ρ) rD (fun _ => true) (fun _ => D.bl false) (xs := S) fun x m => ⟨_, rfl, rfl, fun _ => rfl⟩
  rw [List.filter_eq_self.mpr (fun _ _ => rfl)] at lc
  rw [lc]
  congr 1
  rw [List.map_replicate]
  clear lc
  induction S with
  | nil => rfl
  | cons x S ih => rw [List.map_cons, ih]; rfl
theorem set_bD {M : List Bool} {k : Nat} {c : Bool} : (M.map bD).set k (.bl c) = (M.set k c).map bD := by
  rw [List.map_set]; rfl
/-- the names reached, in order -/
noncomputable def rnames (S : RS) : List Nat := (List.range S.length).filter (reach S)
theorem rtab_get {S : RS} {k : Nat} (h : k < S.length) : mk_ (rtab S) k = reach S k := by
  unfold mk_ rtab
  rw [List.getD_eq_getElem?_getD, List.getElem?_map, List.getElem?_range h]; rfl
theorem names_ok {S : RS} {v : Nat} {ρ : Env} (hv : ∀ k : Nat, ∃ ρ', gSet v (.int (k : Nat)) ρ = some ρ' ∧ mV 1 ρ' = .ok (.lst ((rtab S).map bD)) ∧ mV v ρ' = .ok (nD k)) :
    lcGo (gSet v) (mTru (m2 dIx (mV 1) (mV v))) (mV v) ρ (rngL 0 S.length) = .ok ((rnames S).map nD) := by
  have lc := lc_fm (T := gSet v) (ft := mTru (m2 dIx (mV 1) (mV v))) (fe := mV v) (ρ := ρ) (fun k : Nat => D.int (0 + (k : Nat))) (reach S) (fun k => nD k) (xs := List.range S.length) fun k m => by
    have hk := List.mem_range.mp m
    rw [show (0 : Int) + (k : Nat) = (k : Nat) by omega]
    obtain ⟨ρ', a, c, d⟩ := hv k
    refine ⟨ρ', a, ?_, fun _ => d⟩
    have ix := mk_get (M := rtab S) (p := k) (by unfold rtab; rw [List.length_map, List.length_range]; exact hk)
    rw [rtab_get hk] at ix
    rw [mTru_eq, m2_eq, c, d, k2_ok, ix]
    rfl
  exact lc
end RV
set_option linter.all false
set_option maxRecDepth 100000
set_option maxHeartbeats 2000000
/-! # names reached; the methods -/
namespace RV
open PD PM PU RU
theorem pts_of {S : RS} {k : Nat} {r : Rl} (h : S[k]? = some r) : pts S k = r.parts := by
  unfold pts; rw [h]
theorem used_loop {S : RS} {b : Bool} (h : Val S) : ∀ (f : Nat) (M : List Bool) (W : List Nat) (o3 : Option D), UI S M W → W.length + 3 * falses M < f → W.length + 3 * falses M ≤ 900000 →
    ∃ o3', sWh (mTru (mV 2)) l1_used_names f [some (sq b (S.map rD)), some (.lst (M.map bD)), some (.lst (W.map nD)), o3, none] = .ok (.nx [some (sq b (S.map rD)), some (.lst ((rtab S).map bD)), some (.lst []), o3', none])
  | 0, M, W, o3, u, hf, _ => by omega
  | f + 1, M, W, o3, u, hf, hb => by
    rcases List.eq_nil_or_concat W with rfl | ⟨W', k, rfl⟩
    · rw [u.done]
      refine ⟨o3, wh_f ?_⟩
      generalize sq b (S.map rD) = sd
      generalize (rtab S).map bD = X
      exists r_tru0
    · rw [List.concat_eq_append] at *
      have wl : (W' ++ [k]).length = W'.length + 1 := by rw [List.length_append]; rfl
      rw [wl] at hf hb
      obtain ⟨kn, kr⟩ := u.wl k (by simp)
      obtain ⟨r, hr⟩ : ∃ r, S[k]? = some r := ⟨_, List.getElem?_eq_getElem kn⟩
      have km : k < M.length := by rw [u.ml]; exact kn
      have mg := mk_get km
      have md : (W' ++ [k]).map nD = W'.map nD ++ [.int (k : Nat)] := by rw [List.map_append]; rfl
      rw [md]
      have ct : mTru (mV 2) [some (sq b (S.map rD)), some (.lst (M.map bD)), some (.lst (W'.map nD ++ [.int (k : Nat)])), o3, none] = .ok true := by
        generalize sq b (S.map rD) = sd
        generalize M.map bD = MD
        generalize W'.map nD = WD
        exists r_trus
      cases hm : mk_ M k with
      | true =>
        rw [hm] at mg
        obtain ⟨o3', e⟩ := used_loop (b := b) h f M W' (some (nD k)) (u.skip hm) (by omega) (by omega)
        refine ⟨o3', (wh_t ct ?_).trans e⟩
        generalize sq b (S.map rD) = sd
        generalize M.map bD = MD at *
        generalize W'.map nD = WD
        exists l1_used_names, r_sPop, r_kPop, i1_used_names, mg, r_trub
      | false =>
        rw [hm] at mg
        have fs := falses_set km hm
        have l2 := two (r := r)
        have pe := pts_of hr
        have ul : (W' ++ pts S k).length = W'.length + r.parts.length := by rw [List.length_append, pe]
        obtain ⟨o3', e⟩ := used_loop (b := b) h f (M.set k true) (W' ++ pts S k) (some (nD k)) (u.take h.pv) (by rw [ul]; omega) (by rw [ul]; omega)
        refine ⟨o3', (wh_t ct ?_).trans e⟩
        have ir := ix_rule (b := b) hr
        have po := parts_ok (r := r)
        have si : k < (M.map bD).length := by rw [List.length_map]; exact km
        have ex : (W' ++ pts S k).map nD = W'.map nD ++ r.parts.map nD := by rw [List.map_append, pe]
        rw [ex, ← set_bD]
        have lx : (W'.map nD).length + (r.parts.map nD).length ≤ 1000000 := by rw [List.length_map, List.length_map]; omega
        generalize sq b (S.map rD) = sd at *
        generalize M.map bD = MD at *
        generalize W'.map nD = WD at *
        generalize r.parts.map nD = ps at *
        generalize rD r = rd at *
        exists l1_used_names, r_sPop, r_kPop, i1_used_names, mg, r_trub, r_sSI, r_kSI si, ir, po, r_sExt, r_kExt lx
theorem used_ok {S : RS} {b : Bool} (h : Val S) : m_used_names [sq b (S.map rD)] = .ok (.lst ((rnames S).map nD)) := by
  have hl := h.len
  have n0 : 0 < S.length := List.length_pos_iff.mpr h.ne
  have sg := sq_g (b := b) (xs := S.map rD)
  have sl := sq_l (b := b) (xs := S.map rD)
  rw [List.length_map] at sl
  have r1 : gR1 [.int ((S.length : Nat) : Int)] = some (rngL 0 S.length) := r_R1n (by omega)
  have lc1 := falses_ok (S := S) (v := 4) (ρ := [some (sq b (S.map rD)), none, none, none, none])
  have kl1 := kLn_ok (xs := (List.replicate S.length false).map bD) (by rw [List.length_map, List.length_replicate, LNe]; omega)
  have fl : falses (List.replicate S.length false) ≤ S.length := by
    unfold falses
    refine Nat.le_trans (List.length_filter_le _ _) ?_
    rw [List.length_replicate]; exact Nat.le_refl _
  obtain ⟨o3, e⟩ := used_loop (b := b) h WF _ _ none (UI.start h.ne) (by rw [WFe, List.length_singleton]; omega) (by rw [List.length_singleton]; omega)
  have ms : [S.length - 1].map nD = [.int ((S.length : Nat) - 1)] := by
    show [D.int ((S.length - 1 : Nat) : Int)] = _
    rw [show ((S.length - 1 : Nat) : Int) = (S.length : Nat) - 1 by omega]
  rw [ms] at e
  have nl : ((rnames S).map nD).length ≤ LN := by
    rw [List.length_map, LNe]
    unfold rnames
    have := List.length_filter_le (reach S) (List.range S.length)
    rw [List.length_range] at this
    omega
  have nm := names_ok (S := S) (v := 3) (ρ := [some (sq b (S.map rD)), some (.lst ((rtab S).map bD)), some (.lst []), none, none]) fun k => ⟨_, rfl, rfl, rfl⟩
  have kl2 := kLn_ok nl
  have w1 : wipeD [some (sq b (S.map rD)), none, none, none, none] [4] = [some (sq b (S.map rD)), none, none, none, none] := rfl
  have w2 : wipeD [some (sq b (S.map rD)), some (.lst ((rtab S).map bD)), some (.lst []), o3, none] [3] = [some (sq b (S.map rD)), some (.lst ((rtab S).map bD)), some (.lst []), none, none] := rfl
  generalize sq b (S.map rD) = sd at *
  generalize (List.replicate S.length false).map bD = F0 at *
  generalize (rtab S).map bD = MD at *
  generalize (rnames S).map nD = ND at *
  generalize rngL 0 S.length = RG at *
  generalize S.map rD = SD at *
  exists m_used_names, b_used_names, c1_used_names, sg, w1, lc1, kl1, sl, sWhile_eq, e, c2_used_names, r1, w2, nm, kl2
theorem marks_loop {s : D} {k : Nat} {o2 o4 : Option D} : ∀ (ps : List Nat) (M : List Bool) (o5 : Option D), (∀ p ∈ ps, p < M.length) → ∃ o5', sLoop (gSet 5) l1_law_used (ps.map nD) [some s, some (.lst (M.map bD)), o2, some (nD k), o4, o5] = .ok (.nx [some s, some (.lst ((setAll M ps).map bD)), o2, some (nD k), o4, o5'])
  | [], M, o5, _ => ⟨o5, rfl⟩
  | p :: ps, M, o5, hp => by
    have p1 := hp p List.mem_cons_self
    obtain ⟨o5', e⟩ := marks_loop (s := s) (k := k) (o2 := o2) (o4 := o4) ps (M.set p true) (some (nD p)) fun q m => by
      rw [List.length_set]; exact hp q (List.mem_cons_of_mem _ m)
    refine ⟨o5', (loop_nx (ρ1 := [some s, some (.lst (M.map bD)), o2, some (nD k), o4, some (nD p)]) rfl ?_).trans e⟩
    have si : p < (M.map bD).length := by rw [List.length_map]; exact p1
    rw [← set_bD]
    generalize M.map bD = MD at *
    exists l1_law_used, r_sSI, r_kSI si
/-! ### the methods -/
section
variable {S : RS}
theorem sizeM_ok (h : Val S) : m_Rules_size [rul S] = .ok (nD (rnames S).length) := by
  have e := used_ok (b := true) h
  have e : m_used_names [.tup (S.map rD)] = _ := e
  have f := fld_ok (S := S)
  have l : dLen [.lst ((rnames S).map nD)] = some (nD (rnames S).length) := by rw [dLen_l, List.length_map]
  generalize S.map rD = SD at *
  generalize (rnames S).map nD = TD at *
  generalize rul S = rs at *
  exists m_Rules_size, b_Rules_size, f, e, l
end
end RV
set_option linter.all false
set_option maxRecDepth 100000
set_option maxHeartbeats 2000000
/-! # rules turned round; rules whose parts come before -/
namespace RV
open PD PM PU RU
theorem RlOk.of {z y : Nat} {r : Rl} (h : RlOk z r) (hp : ∀ p ∈ r.parts, p < y) : RlOk y r := by
  cases r with
  | let_ c => exact h
  | pair l q => exact ⟨hp l (by simp [Rl.parts]), hp q (by simp [Rl.parts])⟩
  | pow p t => exact ⟨hp p (by simp [Rl.parts]), h.2⟩
noncomputable def turn (n : Nat) : Rl → Rl
  | .let_ c => .let_ c
  | .pair l r => .pair (n - 1 - l) (n - 1 - r)
  | .pow p t => .pow (n - 1 - p) t
noncomputable def turned (S : RS) : RS := ((List.range S.length).map fun k => turn S.length (S.getD (S.length - 1 - k) (.let_ 97))) ++ [.pow 0 2]
/-! ### parts that come before -/
noncomputable def Dn (S : RS) : Prop := ∀ (k : Nat) (r : Rl), S[k]? = some r → ∀ p ∈ r.parts, p < k
theorem Dn.some_ {α : Type} {g : Rl → List α → α} {S : RS} (h : Dn S) : ∀ k, k < S.length → ∃ v, ev g S k = some v := by
  intro k
  induction k using Nat.strongRecOn with
  | ind k ih =>
    intro hk
    obtain ⟨r, hr⟩ : ∃ r, S[k]? = some r := ⟨_, List.getElem?_eq_getElem hk⟩
    obtain ⟨xs, e⟩ := allS_ex (f := ev g S) (ps := r.parts) fun p m => ih p (h k r hr p m) (by have := h k r hr p m; omega)
    exact ⟨_, ev_up hr e⟩
theorem Dn.app {S : RS} {r : Rl} (h : Dn S) (hp : ∀ p ∈ r.parts, p < S.length) : Dn (S ++ [r]) := fun k r' hr => by
  by_cases c : k < S.length
  · rw [List.getElem?_append_left c] at hr
    exact h k r' hr
  · rw [List.getElem?_append_right (by omega)] at hr
    have : k - S.length = 0 := by
      have := (List.getElem?_eq_some_iff.mp hr).1
      rw [List.length_singleton] at this
      omega
    rw [this] at hr
    cases hr
    intro p m
    have := hp p m
    omega
theorem evF_app {α : Type} {g : Rl → List α → α} {S T : RS} : ∀ {f k : Nat} {v : α}, evF g S f k = some v → evF g (S ++ T) f k = some v
  | 0, _, _, h => by cases h
  | f + 1, k, v, h => by
    obtain ⟨r, xs, hr, hx, e⟩ := ev_down h
    unfold evF
    rw [List.getElem?_append_left (List.getElem?_eq_some_iff.mp hr).1, hr]
    dsimp only
    rw [allS_mono (fun p v e => evF_app e) hx, e]; rfl
theorem ev_app {α : Type} {g : Rl → List α → α} {S T : RS} {k : Nat} {v : α} (h : ev g S k = some v) : ev g (S ++ T) k = some v := ev_stable (evF_app h)
theorem tab_get {g : Rl → List Nat → Nat} {S : RS} {k : Nat} (h : k < S.length) : (tab g S)[k]? = some (ev g S k) := by
  unfold tab
  rw [List.getElem?_map, List.getElem?_range h]; rfl
theorem val_app {S : RS} {z : Nat} {r : Rl} (h : ∀ r ∈ S, RlOk z r) (d : Dn S) (hr : RlOk z r) (hp : ∀ p ∈ r.parts, p < S.length) (hl : S.length < 256) : Val (S ++ [r]) := by
  have d2 := d.app hp
  refine ⟨by simp, by rw [List.length_append, List.length_singleton]; omega, fun q m => ?_⟩
  obtain ⟨i, hi⟩ := List.getElem?_of_mem m
  have il := (List.getElem?_eq_some_iff.mp hi).1
  have q1 : RlOk z q := by
    rcases List.mem_append.mp m with m | m
    · exact h q m
    · rw [List.mem_singleton.mp m]; exact hr
  exact q1.of fun p mp => by
    have := d2 i q hi p mp
    omega
end RV
set_option linter.all false
set_option maxRecDepth 100000
set_option maxHeartbeats 2000000
/-! # rules drawn from one cell -/
namespace RV
open PD PM PU RU
theorem rep5_get {a b c d e : Int} : ∀ {n k : Nat}, k < n → ((List.replicate n [a, b, c, d, e]).flatten.drop (5 * k)).take 5 = [a, b, c, d, e]
  | 0, _, h => absurd h (by omega)
  | n + 1, 0, _ => by
    rw [List.replicate_succ, List.flatten_cons]; rfl
  | n + 1, k + 1, h => by
    have ih := rep5_get (a := a) (b := b) (c := c) (d := d) (e := e) (n := n) (k := k) (by omega)
    rw [List.replicate_succ, List.flatten_cons, show 5 * (k + 1) = 5 * k + 5 by omega]
    exact ih
theorem fits_drop : ∀ {ds ss : List Int} {n : Nat}, Fits ds ss → Fits (ds.drop n) (ss.drop n)
  | ds, ss, 0, h => h
  | [], [], n + 1, h => h
  | d :: ds, s :: ss, n + 1, h => fits_drop (n := n) h.2
  | [], s :: ss, n + 1, h => nomatch h
  | d :: ds, [], n + 1, h => nomatch h
theorem fits_take : ∀ {ds ss : List Int} {n : Nat}, Fits ds ss → Fits (ds.take n) (ss.take n)
  | ds, ss, 0, h => by rw [List.take_zero, List.take_zero]; exact trivial
  | [], [], n + 1, h => h
  | d :: ds, s :: ss, n + 1, h => ⟨h.1, fits_take (n := n) h.2⟩
  | [], s :: ss, n + 1, h => nomatch h
  | d :: ds, [], n + 1, h => nomatch h
theorem fits5 {ds : List Int} {a b c d e : Int} (h : Fits ds [a, b, c, d, e]) : ∃ x0 x1 x2 x3 x4 : Nat, ds = [(x0 : Int), (x1 : Int), (x2 : Int), (x3 : Int), (x4 : Int)] ∧ (x0 : Int) < a ∧ (x1 : Int) < b ∧ (x2 : Int) < c ∧ (x3 : Int) < d ∧ (x4 : Int) < e := by
  match ds, h with
  | [y0, y1, y2, y3, y4], ⟨h0, h1, h2, h3, h4, _⟩ =>
    refine ⟨y0.toNat, y1.toNat, y2.toNat, y3.toNat, y4.toNat, ?_, by omega, by omega, by omega, by omega, by omega⟩
    rw [show ((y0.toNat : Nat) : Int) = y0 by omega, show ((y1.toNat : Nat) : Int) = y1 by omega, show ((y2.toNat : Nat) : Int) = y2 by omega, show ((y3.toNat : Nat) : Int) = y3 by omega, show ((y4.toNat : Nat) : Int) = y4 by omega]
section
variable {n : Int} {w : Bool} {hd pt rl : D} {t0 t1 t2 t3 : Int} {tr : List D} {z k x0 x1 x2 x3 x4 l0 r0 tm : Nat} {o12 : Option D}
noncomputable def rtD (t0 t1 t2 t3 : Int) (tr : List D) : D := .lst (.int t0 :: .int t1 :: .int t2 :: .int t3 :: tr)
noncomputable def oneD (x0 x1 x2 x3 x4 : Nat) : D := .lst [nD x0, nD x1, nD x2, nD x3, nD x4]
theorem back_nat {c k : Nat} (hk : 0 < k) : ∃ l : Nat, ((k : Nat) : Int) - 1 - (c : Nat) % (if (3 : Int) < (k : Nat) then (3 : Int) else ((k : Nat) : Int)) = (l : Nat) ∧ l < k := by
  have m : ∃ m : Nat, (if (3 : Int) < (k : Nat) then (3 : Int) else ((k : Nat) : Int)) = (m : Nat) ∧ 0 < m ∧ m ≤ k := by
    by_cases c3 : (3 : Int) < (k : Nat)
    · exact ⟨3, by rw [if_pos c3]; rfl, by omega, by omega⟩
    · exact ⟨k, by rw [if_neg c3], hk, Nat.le_refl _⟩
  obtain ⟨m, em, m0, mk⟩ := m
  rw [em]
  have lt := Nat.mod_lt c m0
  refine ⟨k - 1 - c % m, ?_, by omega⟩
  rw [show ((c : Nat) : Int) % (m : Nat) = ((c % m : Nat) : Int) from (Int.natCast_emod ..).symm]
  omega
theorem mod_nat {c k : Nat} (hk : 0 < k) : ∃ l : Nat, ((c : Nat) : Int) % (k : Nat) = (l : Nat) ∧ l < k :=
  ⟨c % k, (Int.natCast_emod ..).symm, Nat.mod_lt c hk⟩
theorem i1_ok (c : Bool) (hc : c = (decide (0 < k) && (!w || decide (1 < t3)))) : ∃ l r : Nat, i1_law_rules [some (.int n), some (.bl w), some hd, some (rtD t0 t1 t2 t3 tr), some (nD z), some pt, some rl, some (nD k), some (oneD x0 x1 x2 x3 x4), some (nD l0), some (nD r0), some (nD tm), o12] = .ok (.nx [some (.int n), some (.bl w), some hd, some (rtD t0 t1 t2 t3 tr), some (nD z), some pt, some rl, some (nD k), some (oneD x0 x1 x2 x3 x4), some (nD l), some (nD r), some (nD tm), o12]) ∧
    (c = true → l < k ∧ r < k) ∧ (c = false → l = l0 ∧ r = r0) := by
  unfold rtD oneD
  by_cases k0 : 0 < k
  · obtain ⟨l, el, ll⟩ := back_nat (c := x2) k0
    obtain ⟨r, er, lr⟩ := mod_nat (c := x3) k0
    have md1 : ∀ m : Int, 0 < m → dMod (.int (x2 : Nat)) (.int m) = some (.int ((x2 : Nat) % m)) := fun m h => dMod_i h
    have m3 : (0 : Int) < (if (3 : Int) < (k : Nat) then (3 : Int) else ((k : Nat) : Int)) := by split <;> omega
    have md2 : dMod (.int (x3 : Nat)) (.int (k : Nat)) = some (.int (r : Nat)) := by rw [dMod_i (by omega), er]
    have md1 := md1 _ m3
    have kp : (0 : Int) < (k : Nat) := by omega
    cases w with
    | false =>
      have ce : c = true := by rw [hc]; simp [k0]
      refine ⟨l, r, ?_, fun _ => ⟨ll, lr⟩, fun z => by rw [ce] at z; cases z⟩
      exists i1_law_rules, kp, r_trub, md1, md2, el
    | true =>
      by_cases c1 : 1 < t3
      · have ce : c = true := by rw [hc]; simp [k0, c1]
        refine ⟨l, r, ?_, fun _ => ⟨ll, lr⟩, fun z => by rw [ce] at z; cases z⟩
        exists i1_law_rules, kp, r_trub, c1, md1, md2, el
      · have ce : c = false := by rw [hc]; simp [k0, c1]
        refine ⟨l0, r0, ?_, fun z => (by rw [ce] at z; cases z), fun _ => ⟨rfl, rfl⟩⟩
        exists i1_law_rules, kp, r_trub, c1
  · have ce : c = false := by rw [hc]; simp [k0]
    have kp : ¬ (0 : Int) < (k : Nat) := by omega
    refine ⟨l0, r0, ?_, fun z => (by rw [ce] at z; cases z), fun _ => ⟨rfl, rfl⟩⟩
    exists i1_law_rules, kp
theorem i2_ok (h0 : 2 ≤ tm ∧ tm ≤ 128) {a b : Nat} : ∃ t : Nat, i2_law_rules [some (.int n), some (.bl w), some hd, some (rtD t0 t1 t2 t3 tr), some (nD z), some pt, some rl, some (nD k), some (oneD x0 x1 x2 x3 x4), some (nD a), some (nD b), some (nD tm), o12] = .ok (.nx [some (.int n), some (.bl w), some hd, some (rtD t0 t1 t2 t3 tr), some (nD z), some pt, some rl, some (nD k), some (oneD x0 x1 x2 x3 x4), some (nD a), some (nD b), some (nD t), o12]) ∧ 2 ≤ t ∧ t ≤ 128 := by
  unfold rtD oneD
  cases w with
  | true =>
    refine ⟨tm, ?_, h0⟩
    exists i2_law_rules, r_trub
  | false =>
    have lt := Nat.mod_lt x4 (show 0 < 4 by omega)
    have md : dMod (.int (x4 : Nat)) (.int 4) = some (.int ((x4 % 4 : Nat) : Int)) := by
      rw [dMod_i (by omega)]
      rfl
    have e : (2 : Int) + ((x4 % 4 : Nat) : Int) = ((2 + x4 % 4 : Nat) : Int) := by omega
    refine ⟨2 + x4 % 4, ?_, by omega, by omega⟩
    generalize x4 % 4 = y at *
    exists i2_law_rules, r_trub, md, e
/-- the rule that is picked -/
theorem i34_ok {c l r t : Nat} (hl : 97 ≤ c ∧ c ≤ 122) (ht : 2 ≤ t ∧ t ≤ 128) : ∃ q : Rl, (sSeq i3_law_rules i4_law_rules) [some (.int n), some (.bl w), some hd, some (rtD t0 t1 t2 t3 tr), some (nD z), some pt, some rl, some (nD k), some (oneD x0 x1 x2 x3 x4), some (nD l), some (nD r), some (nD t), some (rD (.let_ c))] = .ok (.nx [some (.int n), some (.bl w), some hd, some (rtD t0 t1 t2 t3 tr), some (nD z), some pt, some rl, some (nD k), some (oneD x0 x1 x2 x3 x4), some (nD l), some (nD r), some (nD t), some (rD q)]) ∧
    (∀ y, l < y → r < y → RlOk y q) ∧ (w = false → k = 0 → q = .let_ c) := by
  have p1 : rD (.pair l r) = .tup [.str z33c9b363, nD l, nD r] := rfl
  have p2 : rD (.pow l t) = .tup [.str z62cd2759, nD l, nD t] := rfl
  have oklet : ∀ y, l < y → r < y → RlOk y (.let_ c) := fun y _ _ => hl
  unfold rtD oneD
  generalize hrc : rD (.let_ c) = rc at *
  by_cases c0 : (0 : Int) < (x0 : Nat)
  · by_cases cw : w = true
    · subst cw
      by_cases c5 : ((x0 : Nat) : Int) = 5
      · refine ⟨.pow l t, ?_, fun y hl hr => ⟨hl, ht⟩, fun z => nomatch z⟩
        rw [p2]
        exists i3_law_rules, i4_law_rules, c0, r_trub, c5
      · refine ⟨.pair l r, ?_, fun y hl hr => ⟨hl, hr⟩, fun z => nomatch z⟩
        rw [p1]
        exists i3_law_rules, i4_law_rules, c0, r_trub, c5
    · have cw : w = false := by simpa using cw
      subst cw
      by_cases k0 : (0 : Int) < (k : Nat)
      · by_cases c5 : ((x0 : Nat) : Int) = 5
        · refine ⟨.pow l t, ?_, fun y hl hr => ⟨hl, ht⟩, fun _ z => by omega⟩
          rw [p2]
          exists i3_law_rules, i4_law_rules, c0, r_trub, c5, k0
        · refine ⟨.pair l r, ?_, fun y hl hr => ⟨hl, hr⟩, fun _ z => by omega⟩
          rw [p1]
          exists i3_law_rules, i4_law_rules, c0, r_trub, c5, k0
      · refine ⟨.let_ c, ?_, oklet, fun _ _ => rfl⟩
        rw [hrc]
        by_cases c5 : ((x0 : Nat) : Int) = 5
        · exists i3_law_rules, i4_law_rules, c0, r_trub, c5, k0
        · exists i3_law_rules, i4_law_rules, c0, r_trub, c5, k0
  · refine ⟨.let_ c, ?_, oklet, fun _ _ => rfl⟩
    rw [hrc]
    have c5 : ¬ ((x0 : Nat) : Int) = 5 := by omega
    exists i3_law_rules, i4_law_rules, c0, r_trub, c5
theorem seq_split {a b : Env → R Fl} {ρ ρ' : Env} (h : (sSeq a b) ρ = .ok (.nx ρ')) : ∃ m, a ρ = .ok (.nx m) ∧ b m = .ok (.nx ρ') := by
  have e : (sSeq a b) ρ = kS b (a ρ) := rfl
  rw [e] at h
  cases q : a ρ with
  | ok f =>
    rw [q] at h
    cases f with
    | nx m => exact ⟨m, rfl, h⟩
    | rt d => cases h
    | bk m => cases h
    | ct m => cases h
    | ex c fs m => cases h
  | err c fs => rw [q] at h; cases h
  | stuck => rw [q] at h; cases h
theorem i5_ok {S : RS} {q : Rl} {l r t : Nat} {o10 o11 : Option D} (hS : S.length = k) (hk : k < 200) (hv : w = false → Val (S ++ [q]) ∧ Dn (S ++ [q])) :
    ∃ q' : Rl, i5_law_rules [some (.int n), some (.bl w), some hd, some (rtD t0 t1 t2 t3 tr), some (nD z), some pt, some (.lst (S.map rD)), some (nD k), some (oneD x0 x1 x2 x3 x4), some (nD l), o10, o11, some (rD q)] = .ok (.nx [some (.int n), some (.bl w), some hd, some (rtD t0 t1 t2 t3 tr), some (nD z), some pt, some (.lst (S.map rD)), some (nD k), some (oneD x0 x1 x2 x3 x4), some (nD l), o10, o11, some (rD q')]) ∧
      (q' = q ∨ ∃ c, q' = .let_ c ∧ 97 ≤ c ∧ c ≤ 122) ∧ (w = false → ∀ v, ev gLen (S ++ [q']) k = some v → v ≤ 48) := by
  unfold rtD oneD
  cases w with
  | true =>
    refine ⟨q, ?_, .inl rfl, fun z => nomatch z⟩
    generalize rD q = qd
    exists i5_law_rules, r_trub
  | false =>
    obtain ⟨v1, v2⟩ := hv rfl
    have kl : k < (S ++ [q]).length := by rw [List.length_append, List.length_singleton]; omega
    obtain ⟨v, ev1⟩ := v2.some_ (g := gLen) k kl
    have le := law_lengths_ok (b := false) v1
    have le : m_law_lengths [.lst ((S ++ [q]).map rD)] = .ok (.lst ((tab gLen (S ++ [q])).map oD)) := le
    have ix := ixA (X := tab gLen (S ++ [q])) (p := k) (by rw [tab_len]; exact kl)
    have ta : at_ (tab gLen (S ++ [q])) k = some v := by
      unfold at_
      rw [List.getD_eq_getElem?_getD, tab_get kl, ev1]; rfl
    rw [ta] at ix
    have ix : dIx (.lst ((tab gLen (S ++ [q])).map oD)) (.int (k : Nat)) = some (.int (v : Nat)) := ix
    have ad := r_add_l (xs := S.map rD) (ys := [rD q]) (by rw [List.length_map]; show _ + 1 ≤ _; omega)
    rw [show S.map rD ++ [rD q] = (S ++ [q]).map rD by rw [List.map_append]; rfl] at ad
    by_cases c48 : (48 : Int) < (v : Nat)
    · obtain ⟨c, ec, hc1, hc2⟩ := letter_ok (t2 + (x1 : Nat))
      refine ⟨.let_ c, ?_, .inr ⟨c, rfl, hc1, hc2⟩, fun _ u hu => ?_⟩
      · have g1 : rD (.let_ c) = .tup [.str zf5b75010, .str [c]] := rfl
        rw [g1]
        generalize (S ++ [q]).map rD = SQ at *
        generalize S.map rD = SD at *
        generalize rD q = qd at *
        generalize (tab gLen (S ++ [q])).map oD = TD at *
        exists i5_law_rules, r_trub, ad, le, ix, c48, ec
      · have kr : (S ++ [Rl.let_ c])[k]? = some (.let_ c) := by
          rw [List.getElem?_append_right (by omega), show k - S.length = 0 by omega]; rfl
        have := ev_up (g := gLen) (xs := []) kr rfl
        rw [this] at hu
        cases hu
        show 1 ≤ 48
        omega
    · refine ⟨q, ?_, .inl rfl, fun _ u hu => ?_⟩
      · generalize (S ++ [q]).map rD = SQ at *
        generalize S.map rD = SD at *
        generalize rD q = qd at *
        generalize (tab gLen (S ++ [q])).map oD = TD at *
        exists i5_law_rules, r_trub, ad, le, ix, c48
      · rw [ev1] at hu
        cases hu
        omega
end
end RV
set_option linter.all false
set_option maxRecDepth 100000
set_option maxHeartbeats 2000000
/-! # rules drawn from one cell, joined -/
namespace RV
open PD PM PU RU
noncomputable def pw5 (z : Nat) : List Int := (List.replicate z [(6 : Int), 3, 64, 64, 5]).flatten
theorem times_ok {x : Nat} (h : x < 5) : ∃ t : Nat, dIx (.lst [.int 2, .int 3, .int 4, .int 2, .int 128]) (.int (x : Nat)) = some (nD t) ∧ 2 ≤ t ∧ t ≤ 128 := by
  have c : x = 0 ∨ x = 1 ∨ x = 2 ∨ x = 3 ∨ x = 4 := by omega
  rcases c with rfl | rfl | rfl | rfl | rfl
  · exact ⟨2, r_ixn, by omega, by omega⟩
  · exact ⟨3, r_ixn, by omega, by omega⟩
  · exact ⟨4, r_ixn, by omega, by omega⟩
  · exact ⟨2, r_ixn, by omega, by omega⟩
  · exact ⟨128, r_ixn, by omega, by omega⟩
theorem law_rules_ok (n : Int) (w : Bool) (hn : n.natAbs.log2 ≤ 2000000) : ∃ S : RS, m_law_rules [.int n, .bl w] = .ok (.lst (S.map rD)) ∧ Val S ∧ S.length ≤ 10 ∧ (w = false → Dn S ∧ ∀ p v, ev gLen S p = some v → v ≤ 48) := by
  obtain ⟨ds0, et0, hf0⟩ := draws_ok n [10, 10, 26, 4] hn (by decide) (by decide)
  obtain ⟨t0, t1, t2, t3, r0, rfl, b0, b1, b2, b3, _⟩ := PN.fits4 hf0
  obtain ⟨sz, es, s1, s2⟩ := size_ok t0 t1 10 (by omega)
  obtain ⟨z, rfl⟩ : ∃ z : Nat, sz = z := ⟨sz.toNat, by omega⟩
  have pl : (pw5 z).length = 5 * z := by
    unfold pw5
    rw [List.length_flatten, List.map_replicate, List.sum_replicate_nat]
    show z * 5 = 5 * z
    omega
  obtain ⟨ds1, et1, hf1⟩ := draws_ok n ([10, 10, 26, 4] ++ pw5 z) hn (fun s m => by
    rcases List.mem_append.mp m with m | m
    · exact (show ∀ s ∈ ([10, 10, 26, 4] : List Int), 0 < s ∧ s < 1000000000 by decide) s m
    · obtain ⟨l, m1, m2⟩ := List.mem_flatten.mp m
      rw [(List.mem_replicate.mp m1).2] at m2
      exact (show ∀ s ∈ ([6, 3, 64, 64, 5] : List Int), 0 < s ∧ s < 1000000000 by decide) s m2) (by
    rw [List.length_append, pl]
    show 4 + 5 * z ≤ 10000
    omega)
  obtain ⟨u0, u1, u2, u3, parts, rfl, _, _, _, _, hf⟩ := PN.fits4 hf1
  have hf : Fits parts (pw5 z) := hf
  have d1 : dLst [.int 10, .int 10, .int 26, .int 4] = some (.lst [.int 10, .int 10, .int 26, .int 4]) := dLst_ok (by rw [LNe]; decide)
  have d4 : dLst [.int 6, .int 3, .int 64, .int 64, .int 5] = some (.lst [.int 6, .int 3, .int 64, .int 64, .int 5]) := dLst_ok (by rw [LNe]; decide)
  have d5 : dMul (.lst [.int 6, .int 3, .int 64, .int 64, .int 5]) (.int (z : Nat)) = some (.lst ((pw5 z).map .int)) := by
    rw [dMul_l (by omega) (by omega) (by rw [LNe, Int.toNat_natCast]; show 5 * z ≤ 1000000; omega), Int.toNat_natCast]
    unfold pw5
    rw [List.map_flatten, List.map_replicate]
    rfl
  have hlen : ((pw5 z).map D.int).length = 5 * z := by rw [List.length_map, pl]
  have d6 : dAdd (.lst [.int 10, .int 10, .int 26, .int 4]) (.lst ((pw5 z).map .int)) = some (.lst (([(10 : Int), 10, 26, 4] ++ pw5 z).map .int)) := by
    rw [dAdd_l (by rw [hlen, LNe]; show 4 + 5 * z ≤ 1000000; omega), List.map_append]
    rfl
  have d7 : dSl (.lst ((u0 :: u1 :: u2 :: u3 :: parts).map D.int)) (some 4) none = some (.lst (parts.map .int)) := by
    rw [dSl_l, cut_from (by decide)]
    rfl
  have gx : ∀ k : Nat, k < z → ∃ x0 x1 x2 x3 x4 : Nat, dSl (.lst (parts.map D.int)) (some (5 * (k : Int))) (some (5 * (k : Int) + 5)) = some (oneD x0 x1 x2 x3 x4) ∧ x1 < 3 ∧ x4 < 5 := fun k hk => by
    have f5 := fits_take (n := 5) (fits_drop (n := 5 * k) hf)
    have e5 : ((pw5 z).drop (5 * k)).take 5 = [6, 3, 64, 64, 5] := rep5_get hk
    rw [e5] at f5
    obtain ⟨x0, x1, x2, x3, x4, e, _, h1, _, _, h4⟩ := fits5 f5
    refine ⟨x0, x1, x2, x3, x4, ?_, by omega, by omega⟩
    rw [dSl_l, cut_both (by omega) (by omega)]
    rw [show (5 * (k : Int)).toNat = 5 * k by omega, show (5 * (k : Int) + 5).toNat - 5 * k = 5 by omega, ← List.map_drop, ← List.map_take, e]
    rfl
  generalize (([(10 : Int), 10, 26, 4] ++ pw5 z).map D.int) = hd2 at *
  generalize ((pw5 z).map D.int) = hd3 at *
  generalize ((u0 :: u1 :: u2 :: u3 :: parts).map D.int) = al at *
  generalize parts.map D.int = pt at *
  simp only [List.map_cons, List.map_nil] at et0
  generalize r0.map D.int = tr at *
  have di : ∃ v : Int, dInt1 [.bl (decide (t3 = 1))] = some (.int v) ∧ (v = 0 ∨ v = 1) := by
    by_cases h : t3 = 1
    · exact ⟨1, by rw [decide_eq_true h]; rfl, .inr rfl⟩
    · exact ⟨0, by rw [decide_eq_false h]; rfl, .inl rfl⟩
  obtain ⟨v3, di, b3'⟩ := di
  have m6 : dMul (.int 6) (.int v3) = some (.int (6 * v3)) := r_mul (by omega) (by omega) (by omega) (by omega)
  obtain ⟨ρ', e, S, o7, o8, o9, o10, o11, o12, rfl, hS, hok, hw⟩ := loop_I (T := gSet 7) (b := l1_law_rules) (fun j ρ => ∃ (S : RS) (o7 o8 o9 o10 o11 o12 : Option D), ρ = [some (.int n), some (.bl w), some (.lst [.int 10, .int 10, .int 26, .int 4]), some (rtD t0 t1 t2 t3 tr), some (nD z), some (.lst pt), some (.lst (S.map rD)), o7, o8, o9, o10, o11, o12] ∧ S.length = j ∧ (∀ r ∈ S, RlOk z r) ∧ (w = false → Dn S ∧ ∀ p v, ev gLen S p = some v → v ≤ 48))
    (rngL 0 z) [some (.int n), some (.bl w), some (.lst [.int 10, .int 10, .int 26, .int 4]), some (rtD t0 t1 t2 t3 tr), some (nD z), some (.lst pt), some (.lst []), none, none, none, none, none, none]
    ⟨[], none, none, none, none, none, none, rfl, rfl, (fun r m => nomatch m), fun _ => ⟨(fun k r h => nomatch h), (fun p v h => nomatch h)⟩⟩ (by
    rintro j d ρ hjd ⟨S, o7, o8, o9, o10, o11, o12, rfl, hS, hok, hw⟩
    obtain ⟨hjz, rfl⟩ := rngL_get hjd
    rw [Int.zero_add]
    obtain ⟨x0, x1, x2, x3, x4, sl, h1, h4⟩ := gx j hjz
    have mj : dMul (.int 5) (.int (j : Nat)) = some (.int (5 * (j : Int))) := r_mul (by omega) (by omega) (by omega) (by omega)
    obtain ⟨l0, el0, ll0⟩ := mod_nat (c := x2) (k := z) (by omega)
    obtain ⟨r0, er0, lr0⟩ := mod_nat (c := x3) (k := z) (by omega)
    have md2 : dMod (.int (x2 : Nat)) (.int (z : Nat)) = some (nD l0) := by rw [dMod_i (by omega), el0]
    have md3 : dMod (.int (x3 : Nat)) (.int (z : Nat)) = some (nD r0) := by rw [dMod_i (by omega), er0]
    obtain ⟨tm, etm, tm1, tm2⟩ := times_ok h4
    have d8 : dLst [.int 2, .int 3, .int 4, .int 2, .int 128] = some (.lst [.int 2, .int 3, .int 4, .int 2, .int 128]) := dLst_ok (by rw [LNe]; decide)
    obtain ⟨l, r, e1, c1, c2⟩ := i1_ok (n := n) (w := w) (hd := .lst [.int 10, .int 10, .int 26, .int 4]) (t0 := t0) (t1 := t1) (t2 := t2) (t3 := t3) (tr := tr) (z := z) (pt := .lst pt) (rl := .lst (S.map rD)) (k := j) (x0 := x0) (x1 := x1) (x2 := x2) (x3 := x3) (x4 := x4) (l0 := l0) (r0 := r0) (tm := tm) (o12 := o12) _ rfl
    have lz : l < z ∧ r < z := by
      cases q : (decide (0 < j) && (!w || decide (1 < t3))) with
      | true => have := c1 q; omega
      | false => have := c2 q; omega
    have ljk : w = false → 0 < j → l < j ∧ r < j := fun hw hj => c1 (by rw [hw, decide_eq_true hj]; rfl)
    obtain ⟨t, e2, t1', t2'⟩ := i2_ok (n := n) (w := w) (hd := .lst [.int 10, .int 10, .int 26, .int 4]) (t0 := t0) (t1 := t1) (t2 := t2) (t3 := t3) (tr := tr) (z := z) (pt := .lst pt) (rl := .lst (S.map rD)) (k := j) (x0 := x0) (x1 := x1) (x2 := x2) (x3 := x3) (x4 := x4) (tm := tm) (o12 := o12) ⟨tm1, tm2⟩ (a := l) (b := r)
    have m2' : dMul (.int (x1 : Nat)) (.int (1 + 6 * v3)) = some (.int ((x1 : Int) * (1 + 6 * v3))) := r_mul (by omega) (by omega) (by omega) (by omega)
    obtain ⟨c, ec, hc1, hc2⟩ := letter_ok (t2 + (x1 : Int) * (1 + 6 * v3))
    obtain ⟨q, e34, q1, q2⟩ := i34_ok (n := n) (w := w) (hd := .lst [.int 10, .int 10, .int 26, .int 4]) (t0 := t0) (t1 := t1) (t2 := t2) (t3 := t3) (tr := tr) (z := z) (pt := .lst pt) (rl := .lst (S.map rD)) (k := j) (x0 := x0) (x1 := x1) (x2 := x2) (x3 := x3) (x4 := x4) (c := c) (l := l) (r := r) (t := t) ⟨hc1, hc2⟩ ⟨t1', t2'⟩
    obtain ⟨mm, e3, e4⟩ := seq_split e34
    have qd : w = false → ∀ p ∈ q.parts, p < S.length := fun hw0 p m => by
      rw [hS]
      by_cases j0 : 0 < j
      · have := ljk hw0 j0
        exact (q1 j this.1 this.2).parts p m
      · rw [q2 hw0 (by omega)] at m
        cases m
    have hv : w = false → Val (S ++ [q]) ∧ Dn (S ++ [q]) := fun hw0 => ⟨val_app hok (hw hw0).1 (q1 z lz.1 lz.2) (qd hw0) (by omega), (hw hw0).1.app (qd hw0)⟩
    obtain ⟨q', e5, q3, q4⟩ := i5_ok (n := n) (w := w) (hd := .lst [.int 10, .int 10, .int 26, .int 4]) (t0 := t0) (t1 := t1) (t2 := t2) (t3 := t3) (tr := tr) (z := z) (pt := .lst pt) (k := j) (x0 := x0) (x1 := x1) (x2 := x2) (x3 := x3) (x4 := x4) (S := S) (q := q) (l := l) (r := r) (t := t) (o10 := some (nD r)) (o11 := some (nD t)) hS (by omega) hv
    have gl : rD (.let_ c) = .tup [.str zf5b75010, .str [c]] := rfl
    rw [gl] at e3
    have al : (S.map rD).length < 1000000 := by rw [List.length_map]; omega
    have fin : (S ++ [q']).map rD = S.map rD ++ [rD q'] := by rw [List.map_append]; rfl
    refine (?_ : Ot _ _)
    have key : l1_law_rules [some (.int n), some (.bl w), some (.lst [.int 10, .int 10, .int 26, .int 4]), some (rtD t0 t1 t2 t3 tr), some (nD z), some (.lst pt), some (.lst (S.map rD)), some (nD j), o8, o9, o10, o11, o12] = .ok (.nx [some (.int n), some (.bl w), some (.lst [.int 10, .int 10, .int 26, .int 4]), some (rtD t0 t1 t2 t3 tr), some (nD z), some (.lst pt), some (.lst ((S ++ [q']).map rD)), some (nD j), some (oneD x0 x1 x2 x3 x4), some (nD l), some (nD r), some (nD t), some (rD q')]) := by
      rw [fin]
      unfold rtD oneD at *
      generalize S.map rD = SD at *
      generalize rD q = qd at *
      generalize rD q' = qd' at *
      generalize 6 * v3 = v4 at *
      generalize (x1 : Int) * (1 + v4) = v6 at *
      exists l1_law_rules, mj, sl, md2, md3, d8, etm, e1, e2, di, m6, m2', ec, e3, e4, e5
    show Oc (l1_law_rules [some (.int n), some (.bl w), some (.lst [.int 10, .int 10, .int 26, .int 4]), some (rtD t0 t1 t2 t3 tr), some (nD z), some (.lst pt), some (.lst (S.map rD)), some (nD j), o8, o9, o10, o11, o12]) _ _ _ _ _
    rw [key]
    have q5 : RlOk z q' ∧ (w = false → ∀ p ∈ q'.parts, p < S.length) := by
      rcases q3 with rfl | ⟨c', rfl, hc⟩
      · exact ⟨q1 z lz.1 lz.2, qd⟩
      · exact ⟨hc, fun _ p m => nomatch m⟩
    refine ⟨S ++ [q'], _, _, _, _, _, _, rfl, by rw [List.length_append, hS]; rfl, fun r m => ?_, fun hw0 => ⟨(hw hw0).1.app (q5.2 hw0), fun p v hp => ?_⟩⟩
    · rcases List.mem_append.mp m with m | m
      · exact hok r m
      · rw [List.mem_singleton.mp m]; exact q5.1
    · have pl : p < (S ++ [q']).length := ev_lt hp
      rw [List.length_append, List.length_singleton] at pl
      by_cases c : p < S.length
      · obtain ⟨u, hu⟩ := (hw hw0).1.some_ (g := gLen) p c
        have := ev_app (T := [q']) hu
        rw [this] at hp
        cases hp
        exact (hw hw0).2 p _ hu
      · rw [show p = j by omega] at hp
        exact q4 hw0 v hp)
  rw [rngL_length] at hS
  refine ⟨S, ?_, ⟨fun z0 => ?_, by omega, fun r m => by rw [hS]; exact hok r m⟩, by omega, hw⟩
  · have r1 : gR1 [.int ((z : Nat) : Int)] = some (rngL 0 z) := r_R1n (by omega)
    unfold rtD at *
    generalize S.map rD = SD at *
    generalize rngL 0 z = RG at *
    exists m_law_rules, b_law_rules, d1, et0, es, d4, d5, d6, et1, d7, r1, e
  · rw [z0] at hS
    have : z = 0 := hS.symm
    omega
end RV
set_option linter.all false
set_option maxRecDepth 100000
set_option maxHeartbeats 2000000
/-! # rules drawn one from each cell -/
namespace RV
open PD PM PU RU
theorem cell_add {ns : List Int} (hb : ∀ z ∈ ns, PySem.Builtin.Int.intBits z ≤ 1048576) (k j : Nat) (hj : j ≤ 1000) : (ns.getD k 0 + (j : Int)).natAbs.log2 ≤ 2000000 := by
  have hg : (ns.getD k 0).natAbs.log2 ≤ 1048576 := by
    rw [List.getD_eq_getElem?_getD]
    cases q : ns[k]? with
    | none => exact Nat.le_trans (by decide : (0 : Int).natAbs.log2 ≤ 0) (by omega)
    | some z => exact bits_log (hb z (List.mem_of_getElem? q))
  generalize ns.getD k 0 = x at *
  have h1 : x.natAbs < 2 ^ (1048576 + 1) := Nat.lt_of_lt_of_le Nat.lt_log2_self (Nat.pow_le_pow_right (by omega) (by omega))
  have h2 : (1000 : Nat) < 2 ^ (1048576 + 1) := Nat.lt_of_lt_of_le (show 1000 < 2 ^ 10 by decide) (Nat.pow_le_pow_right (by omega) (by omega))
  have h3 : (x + (j : Int)).natAbs < 2 ^ (1048576 + 1 + 1) := by
    rw [Nat.pow_succ]
    generalize 2 ^ (1048576 + 1) = P at *
    omega
  exact Nat.le_trans (log2_le h3) (by omega)
section
variable {ns : List Int} {m : Nat} {d : Bool} {rl : D} {k x0 x1 x2 x3 x4 l0 r0 : Nat} {kd : Int} {o9 : Option D}
end
end RV
set_option linter.all false
set_option maxRecDepth 100000
set_option maxHeartbeats 2000000
/-! # texts of names, rings of names -/
namespace RV
open PD PM PU RU PV
/-! ### texts -/
noncomputable def gTxt : Rl → List (List Nat) → List Nat
  | .let_ c, _ => [c]
  | .pair _ _, xs => xs.getD 0 [] ++ xs.getD 1 []
  | .pow _ t, xs => (List.replicate t (xs.getD 0 [])).flatten
end RV
set_option linter.all false
set_option maxRecDepth 100000
set_option maxHeartbeats 2000000
/-! # rings of names, the verdict -/
namespace RV
open PD PM PU RU PV
noncomputable def ends (S : RS) (k : Nat) : Bool := (ev gLen S k).isSome
noncomputable def fes (S : RS) (k : Nat) : List Nat := (pts S k).filter fun p => !ends S p
noncomputable def fe (S : RS) (k : Nat) : Nat := (fes S k).headD 0
/-! ### the verdict -/
section
variable {S : RS}
end
end RV
set_option linter.all false
set_option maxRecDepth 100000
set_option maxHeartbeats 2000000
/-! # the law's texts, near rules -/
namespace RV
open PD PM PU RU PV
noncomputable abbrev OT := List (Option (List Nat))
noncomputable def atT (X : OT) (p : Nat) : Option (List Nat) := X.getD p none
structure ST (S : RS) (X : OT) : Prop where
  len : X.length = S.length
  sd : ∀ k s, atT X k = some s → ev gTxt S k = some s ∧ s.length ≤ 128
/-! the mirror -/
noncomputable def tD : Option (List Nat) → D
  | none => .non
  | some s => .str s
end RV
set_option linter.all false
set_option maxRecDepth 100000
set_option maxHeartbeats 2000000
/-! # rules behind others; near rules -/
namespace RV
open PD PM PU RU PV
noncomputable def up (e : Nat) : Rl → Rl
  | .let_ c => .let_ c
  | .pair l r => .pair (l + e) (r + e)
  | .pow p t => .pow (p + e) t
section
variable {X S : RS} {k : Nat}
end
/-! ### near rules -/
end RV
set_option linter.all false
set_option maxRecDepth 100000
set_option maxHeartbeats 2000000
/-! # == of lists of sizes, of marks -/
namespace RV
open PD PM PU RU PV
theorem eqv_bD {a b : Bool} (h : PySem.PyData.eqv (toP (bD a)) (toP (bD b)) = true) : a = b := by
  cases a <;> cases b <;> first | rfl | (exfalso; revert h; simp [bD, toP, PySem.PyData.eqv])
theorem eqvs {α : Type} {f : α → D} (hf : ∀ a b, PySem.PyData.eqv (toP (f a)) (toP (f b)) = true → a = b) : ∀ {X Y : List α}, PySem.PyData.eqvAll (toPs (X.map f)) (toPs (Y.map f)) = true → X = Y
  | [], [], _ => rfl
  | [], y :: Y, h => by
    exfalso
    revert h
    simp [toPs, PySem.PyData.eqvAll]
  | x :: X, [], h => by
    exfalso
    revert h
    simp [toPs, PySem.PyData.eqvAll]
  | x :: X, y :: Y, h => by
    have h : (PySem.PyData.eqv (toP (f x)) (toP (f y)) && PySem.PyData.eqvAll (toPs (X.map f)) (toPs (Y.map f))) = true := by
      have e : PySem.PyData.eqvAll (toPs ((x :: X).map f)) (toPs ((y :: Y).map f)) = (PySem.PyData.eqv (toP (f x)) (toP (f y)) && PySem.PyData.eqvAll (toPs (X.map f)) (toPs (Y.map f))) := by
        simp [toPs, PySem.PyData.eqvAll]
      rw [← e]; exact h
    rw [Bool.and_eq_true] at h
    rw [hf x y h.1, eqvs hf h.2]
theorem deq_lists {α : Type} {f : α → D} (hq : ∀ a, okQ 0 (f a)) (hf : ∀ a b, PySem.PyData.eqv (toP (f a)) (toP (f b)) = true → a = b) {X Y : List α} : ∃ b : Bool, dEq (.lst (X.map f)) (.lst (Y.map f)) = some (.bl b) ∧ (b = true → X = Y) := by
  have ox : ∀ X : List α, okP (.lst (X.map f)) = true := fun X => okP_of (n := 1) (fun x m => by
    obtain ⟨a, _, rfl⟩ := List.mem_map.mp m
    exact hq a) (by omega)
  refine ⟨PySem.PyData.eqv (toP (.lst (X.map f))) (toP (.lst (Y.map f))), ?_, fun h => ?_⟩
  · unfold dEq
    have : dEqB (.lst (X.map f)) (.lst (Y.map f)) = if okP (.lst (X.map f)) = true ∧ okP (.lst (Y.map f)) = true then some (PySem.PyData.eqv (toP (.lst (X.map f))) (toP (.lst (Y.map f)))) else none := rfl
    rw [this, if_pos ⟨ox X, ox Y⟩]; rfl
  · have e : PySem.PyData.eqv (toP (.lst (X.map f))) (toP (.lst (Y.map f))) = PySem.PyData.eqvAll (toPs (X.map f)) (toPs (Y.map f)) := by
      simp [toP, PySem.PyData.eqv]
    rw [e] at h
    exact eqvs hf h
theorem bD_q {b : Bool} : okQ 0 (bD b) := trivial
/-! rounds that change nothing more -/
theorem upd_same {g : Rl → List Nat → Nat} {S : RS} {X : OV} {k v : Nat} (sd : SD g S X) (h : at_ X k = some v) (hl : k < X.length) : updK g S X k = X := by
  unfold updK
  split
  · rename_i r hr
    split
    · rename_i xs hx
      have e1 := sd k v h
      have e2 := ev_up hr (allS_mono (fun p v e => sd p v e) hx)
      rw [e1] at e2
      cases e2
      apply List.ext_getElem?
      intro i
      by_cases c : i = k
      · subst c
        rw [List.getElem?_set_self hl]
        unfold at_ at h
        rw [List.getD_eq_getElem?_getD, List.getElem?_eq_getElem hl] at h
        rw [List.getElem?_eq_getElem hl]
        exact congrArg some h.symm
      · rw [List.getElem?_set_ne (Ne.symm c)]
    · rfl
  · rfl
end RV
set_option linter.all false
set_option maxRecDepth 100000
set_option maxHeartbeats 2000000
namespace K18
open PD PM PU RU RV PV
/-! ### rules of any form -/
inductive GR where
  | let_ (s : List Nat) | pair (a b : Int) | pow (a t : Int)
noncomputable def gD : GR → D
  | .let_ s => .tup [.str zf5b75010, .str s]
  | .pair a b => .tup [.str z33c9b363, .int a, .int b]
  | .pow a t => .tup [.str z62cd2759, .int a, .int t]
noncomputable def GR.parts : GR → List Int
  | .let_ _ => []
  | .pair a b => [a, b]
  | .pow a _ => [a]
noncomputable def outp (n : Nat) (x : Int) : Bool := decide (x < 0) || decide ((n : Int) ≤ x)
noncomputable def bad (n : Nat) : GR → Bool
  | .let_ [c] => !decide (c ∈ zc3fcd3d7)
  | .let_ _ => true
  | .pair a b => outp n a || outp n b
  | .pow a t => outp n a || decide (t < 2) || decide (128 < t)
noncomputable def GOk : GR → Prop
  | .let_ s => s.length ≤ 100
  | _ => True
theorem lparts_ok {r : GR} : m_law_parts [gD r] = .ok (.lst (r.parts.map .int)) := by
  cases r with
  | let_ c => exists m_law_parts, b_law_parts, i1_law_parts, i2_law_parts, gD, lp, lw, GR.parts
  | pair l r => exists m_law_parts, b_law_parts, i1_law_parts, i2_law_parts, gD, pl, GR.parts
  | pow p t => exists m_law_parts, b_law_parts, i1_law_parts, i2_law_parts, gD, wl, wp, GR.parts
theorem pparts_ok {r : GR} : m_parts_of [gD r] = .ok (.lst (r.parts.map .int)) := by
  cases r with
  | let_ c => exists m_parts_of, b_parts_of, i1_parts_of, i2_parts_of, gD, GR.parts
  | pair l r => exists m_parts_of, b_parts_of, i1_parts_of, i2_parts_of, gD, pl, GR.parts
  | pow p t => exists m_parts_of, b_parts_of, i1_parts_of, i2_parts_of, gD, wl, wp, GR.parts
theorem outs_ok {n : Nat} {s : D} {ps : List Int} : lcGo (gSet 2) (mOr (mB (m2 dLt (mV 2) (mC (.int 0)))) (mB (m2 dGe (mV 2) (mV 1)))) (mV 2) [some s, some (.int (n : Nat)), none] (ps.map .int) = .ok ((ps.filter (outp n)).map .int) := by
  refine lc_fm (emb := D.int) (p := outp n) (g := D.int) fun x m => ⟨[some s, some (.int (n : Nat)), some (.int x)], rfl, ?_, fun _ => rfl⟩
  unfold outp
  by_cases c1 : x < 0
  · rw [decide_eq_true c1, Bool.true_or]
    exists c1
  · rw [decide_eq_false c1, Bool.false_or]
    by_cases c2 : (n : Int) ≤ x
    · rw [decide_eq_true c2]
      exists c1, c2
    · rw [decide_eq_false c2]
      exists c1, c2
theorem wrong_ok {n : Nat} {r : GR} (h : GOk r) : m_law_wrong [gD r, .int (n : Nat)] = .ok (.bl (bad n r)) := by
  have po := lparts_ok (r := r)
  have gs : gSq (.lst (r.parts.map .int)) = some (r.parts.map .int) := rfl
  have lc := outs_ok (n := n) (s := gD r) (ps := r.parts)
  have pl2 : r.parts.length ≤ 2 := by cases r <;> simp [GR.parts]
  have fl : (r.parts.filter (outp n)).length ≤ 2 := Nat.le_trans (List.length_filter_le _ _) pl2
  have kl := kLn_ok (xs := (r.parts.filter (outp n)).map D.int) (by rw [List.length_map, LNe]; omega)
  have ln : dLen [.lst ((r.parts.filter (outp n)).map D.int)] = some (.int ((r.parts.filter (outp n)).length : Nat)) := by rw [dLen_l, List.length_map]
  have w1 : wipeD [some (gD r), some (.int (n : Nat)), none] [2] = [some (gD r), some (.int (n : Nat)), none] := rfl
  cases r with
  | let_ s =>
    match s, h with
    | [], _ =>
      have g : gD (.let_ []) = .tup [.str zf5b75010, .str []] := rfl
      have b : bad n (.let_ []) = true := rfl
      have l0 : dLen [.str []] = some (.int 0) := dLen_s (by rw [LNe]; decide)
      have z : ¬ (0 : Int) = 1 := by omega
      rw [g, b]
      exists m_law_wrong, b_law_wrong, i1_law_wrong, l0, z
    | [c], _ =>
      have g : gD (.let_ [c]) = .tup [.str zf5b75010, .str [c]] := rfl
      have b : bad n (.let_ [c]) = !decide (c ∈ zc3fcd3d7) := rfl
      have l0 : dLen [.str [c]] = some (.int 1) := dLen_s (by rw [LNe]; show 1 ≤ 1000000; omega)
      have ni := dNotIn_one (s := zc3fcd3d7) (c := c)
      rw [g, b]
      generalize (!decide (c ∈ zc3fcd3d7)) = bb at *
      exists m_law_wrong, b_law_wrong, i1_law_wrong, l0, ni
    | c :: d :: s, h =>
      have g : gD (.let_ (c :: d :: s)) = .tup [.str zf5b75010, .str (c :: d :: s)] := rfl
      have b : bad n (.let_ (c :: d :: s)) = true := rfl
      have hl : (c :: d :: s).length ≤ 100 := h
      have l0 : dLen [.str (c :: d :: s)] = some (.int ((c :: d :: s).length : Nat)) := dLen_s (by rw [LNe]; omega)
      have z : ¬ (((c :: d :: s).length : Nat) : Int) = 1 := by rw [List.length_cons, List.length_cons]; omega
      rw [g, b]
      generalize (((c :: d :: s).length : Nat) : Int) = ll at *
      generalize (c :: d :: s) = cs at *
      exists m_law_wrong, b_law_wrong, i1_law_wrong, l0, z
  | pair a b =>
    have g : gD (.pair a b) = .tup [.str z33c9b363, .int a, .int b] := rfl
    have e : decide ((0 : Int) < ((((GR.pair a b).parts.filter (outp n)).length : Nat) : Int)) = bad n (.pair a b) := by
      show decide ((0 : Int) < ((([a, b].filter (outp n)).length : Nat) : Int)) = (outp n a || outp n b)
      rw [List.filter_cons, List.filter_cons, List.filter_nil]
      cases outp n a <;> cases outp n b <;> rfl
    have gt : dGt (.int ((((GR.pair a b).parts.filter (outp n)).length : Nat) : Int)) (.int 0) = some (.bl (bad n (.pair a b))) := by rw [dGt_i, e]
    rw [g] at lc w1 po ⊢
    clear e
    generalize bad n (.pair a b) = bb at *
    generalize ((((GR.pair a b).parts.filter (outp n)).length : Nat) : Int) = ll at *
    generalize ((GR.pair a b).parts.filter (outp n)).map D.int = fs at *
    generalize (GR.pair a b).parts.map D.int = ps at *
    exists m_law_wrong, b_law_wrong, i1_law_wrong, pl, i2_law_wrong, pw, c1_law_wrong, po, gs, w1, lc, kl, ln, gt
  | pow a t =>
    have g : gD (.pow a t) = .tup [.str z62cd2759, .int a, .int t] := rfl
    by_cases c1 : t < 2
    · have b : bad n (.pow a t) = true := by show (outp n a || decide (t < 2) || decide (128 < t)) = true; rw [decide_eq_true c1, Bool.or_true, Bool.true_or]
      rw [g, b]
      exists m_law_wrong, b_law_wrong, i1_law_wrong, wl, i2_law_wrong, c1
    · by_cases c2 : 128 < t
      · have b : bad n (.pow a t) = true := by show (outp n a || decide (t < 2) || decide (128 < t)) = true; rw [decide_eq_true c2, Bool.or_true]
        rw [g, b]
        exists m_law_wrong, b_law_wrong, i1_law_wrong, wl, i2_law_wrong, c1, c2
      · have e : decide ((0 : Int) < ((((GR.pow a t).parts.filter (outp n)).length : Nat) : Int)) = bad n (.pow a t) := by
          show decide ((0 : Int) < ((([a].filter (outp n)).length : Nat) : Int)) = (outp n a || decide (t < 2) || decide (128 < t))
          rw [List.filter_cons, List.filter_nil, decide_eq_false c1, decide_eq_false c2, Bool.or_false, Bool.or_false]
          cases outp n a <;> rfl
        have gt : dGt (.int ((((GR.pow a t).parts.filter (outp n)).length : Nat) : Int)) (.int 0) = some (.bl (bad n (.pow a t))) := by rw [dGt_i, e]
        rw [g] at lc w1 po ⊢
        clear e
        generalize bad n (.pow a t) = bb at *
        generalize ((((GR.pow a t).parts.filter (outp n)).length : Nat) : Int) = ll at *
        generalize ((GR.pow a t).parts.filter (outp n)).map D.int = fs at *
        generalize (GR.pow a t).parts.map D.int = ps at *
        exists m_law_wrong, b_law_wrong, i1_law_wrong, wl, i2_law_wrong, c1, c2, c1_law_wrong, po, gs, w1, lc, kl, ln, gt
end K18
set_option linter.all false
set_option maxRecDepth 100000
set_option maxHeartbeats 2000000
namespace K18
open PD PM PU RU RV PV
/-! ### the check -/
theorem gvalid_ok {n : Nat} {r : GR} (h : GOk r) : m_is_valid_rule [gD r, .int (n : Nat)] = .ok (.bl (!bad n r)) := by
  have po := pparts_ok (r := r)
  have gs : gSq (.lst (r.parts.map .int)) = some (r.parts.map .int) := rfl
  have nx : ∀ (x : Int) (o : Option D) (d : D), outp n x = false → l1_is_valid_rule [some d, some (.int (n : Nat)), some (.int x)] = .ok (.nx [some d, some (.int (n : Nat)), some (.int x)]) := fun x o d hx => by
    unfold outp at hx
    rw [Bool.or_eq_false_iff, decide_eq_false_iff_not, decide_eq_false_iff_not] at hx
    have a : (0 : Int) ≤ x := by omega
    have b : x < (n : Int) := by omega
    exists l1_is_valid_rule, i2_is_valid_rule, a, b
  have rt : ∀ (x : Int) (o : Option D) (d : D), outp n x = true → l1_is_valid_rule [some d, some (.int (n : Nat)), some (.int x)] = .ok (.rt (.bl false)) := fun x o d hx => by
    unfold outp at hx
    by_cases c : (0 : Int) ≤ x
    · have c2 : ¬ x < (n : Int) := by
        rw [Bool.or_eq_true, decide_eq_true_eq, decide_eq_true_eq] at hx
        omega
      exists l1_is_valid_rule, i2_is_valid_rule, c, c2
    · exists l1_is_valid_rule, i2_is_valid_rule, c
  cases r with
  | let_ s =>
    match s, h with
    | [], _ =>
      have g : gD (.let_ []) = .tup [.str zf5b75010, .str []] := rfl
      have b : (!bad n (.let_ [])) = false := rfl
      have l0 : dLen [.str []] = some (.int 0) := dLen_s (by rw [LNe]; decide)
      have z : ¬ (0 : Int) = 1 := by omega
      rw [g, b]
      exists m_is_valid_rule, b_is_valid_rule, i1_is_valid_rule, PN.m_is_letter, PN.b_is_letter, l0, z
    | [c], _ =>
      have g : gD (.let_ [c]) = .tup [.str zf5b75010, .str [c]] := rfl
      have b : (!bad n (.let_ [c])) = decide (c ∈ zc3fcd3d7) := by show (!!decide (c ∈ zc3fcd3d7)) = _; rw [Bool.not_not]
      have l0 : dLen [.str [c]] = some (.int 1) := dLen_s (by rw [LNe]; show 1 ≤ 1000000; omega)
      have ni := dIn_one (s := zc3fcd3d7) (c := c)
      rw [g, b]
      generalize (decide (c ∈ zc3fcd3d7)) = bb at *
      exists m_is_valid_rule, b_is_valid_rule, i1_is_valid_rule, PN.m_is_letter, PN.b_is_letter, l0, ni
    | c :: d :: s, h =>
      have g : gD (.let_ (c :: d :: s)) = .tup [.str zf5b75010, .str (c :: d :: s)] := rfl
      have b : (!bad n (.let_ (c :: d :: s))) = false := rfl
      have hl : (c :: d :: s).length ≤ 100 := h
      have l0 : dLen [.str (c :: d :: s)] = some (.int ((c :: d :: s).length : Nat)) := dLen_s (by rw [LNe]; omega)
      have z : ¬ (((c :: d :: s).length : Nat) : Int) = 1 := by rw [List.length_cons, List.length_cons]; omega
      rw [g, b]
      generalize (((c :: d :: s).length : Nat) : Int) = ll at *
      generalize (c :: d :: s) = cs at *
      exists m_is_valid_rule, b_is_valid_rule, i1_is_valid_rule, PN.m_is_letter, PN.b_is_letter, l0, z
  | pair a b =>
    have g : gD (.pair a b) = .tup [.str z33c9b363, .int a, .int b] := rfl
    have pe : (GR.pair a b).parts.map D.int = [.int a, .int b] := rfl
    rw [pe] at po gs
    have be : bad n (.pair a b) = (outp n a || outp n b) := rfl
    rw [be]
    cases ha : outp n a with
    | true =>
      have lo : sLoop (gSet 2) l1_is_valid_rule [.int a, .int b] [some (gD (.pair a b)), some (.int (n : Nat)), none] = .ok (.rt (.bl false)) := loop_rt rfl (rt a none _ ha)
      rw [g] at po lo ⊢
      rw [Bool.true_or, Bool.not_true]
      clear nx rt
      exists m_is_valid_rule, b_is_valid_rule, i1_is_valid_rule, pl, po, lo
    | false =>
      cases hb : outp n b with
      | true =>
        have lo : sLoop (gSet 2) l1_is_valid_rule [.int a, .int b] [some (gD (.pair a b)), some (.int (n : Nat)), none] = .ok (.rt (.bl false)) := (loop_nx rfl (nx a none _ ha)).trans (loop_rt rfl (rt b none _ hb))
        rw [g] at po lo ⊢
        rw [Bool.false_or, Bool.not_true]
        clear nx rt
        exists m_is_valid_rule, b_is_valid_rule, i1_is_valid_rule, pl, po, lo
      | false =>
        have lo : sLoop (gSet 2) l1_is_valid_rule [.int a, .int b] [some (gD (.pair a b)), some (.int (n : Nat)), none] = .ok (.nx [some (gD (.pair a b)), some (.int (n : Nat)), some (.int b)]) := (loop_nx rfl (nx a none _ ha)).trans ((loop_nx rfl (nx b none _ hb)).trans rfl)
        rw [g] at po lo ⊢
        rw [Bool.false_or, Bool.not_false]
        clear nx rt
        exists m_is_valid_rule, b_is_valid_rule, i1_is_valid_rule, pl, po, lo
  | pow a t =>
    have g : gD (.pow a t) = .tup [.str z62cd2759, .int a, .int t] := rfl
    have pe : (GR.pow a t).parts.map D.int = [.int a] := rfl
    rw [pe] at po gs
    have be : bad n (.pow a t) = (outp n a || decide (t < 2) || decide (128 < t)) := rfl
    rw [be]
    cases ha : outp n a with
    | true =>
      have lo : sLoop (gSet 2) l1_is_valid_rule [.int a] [some (gD (.pow a t)), some (.int (n : Nat)), none] = .ok (.rt (.bl false)) := loop_rt rfl (rt a none _ ha)
      rw [g] at po lo ⊢
      rw [Bool.true_or, Bool.true_or, Bool.not_true]
      clear nx rt
      exists m_is_valid_rule, b_is_valid_rule, i1_is_valid_rule, wl, po, lo
    | false =>
      have lo : sLoop (gSet 2) l1_is_valid_rule [.int a] [some (gD (.pow a t)), some (.int (n : Nat)), none] = .ok (.nx [some (gD (.pow a t)), some (.int (n : Nat)), some (.int a)]) := (loop_nx rfl (nx a none _ ha)).trans rfl
      rw [g] at po lo ⊢
      rw [Bool.false_or]
      clear nx rt
      by_cases c1 : (2 : Int) ≤ t
      · by_cases c2 : t ≤ 128
        · rw [decide_eq_false (show ¬ t < 2 by omega), decide_eq_false (show ¬ 128 < t by omega)]
          exists m_is_valid_rule, b_is_valid_rule, i1_is_valid_rule, wl, wp, po, lo, c1, c2
          rfl
        · rw [decide_eq_false (show ¬ t < 2 by omega), decide_eq_true (show 128 < t by omega)]
          exists m_is_valid_rule, b_is_valid_rule, i1_is_valid_rule, wl, wp, po, lo, c1, c2
          rfl
      · rw [decide_eq_true (show t < 2 by omega)]
        exists m_is_valid_rule, b_is_valid_rule, i1_is_valid_rule, wl, wp, po, lo, c1
        rfl
end K18
set_option linter.all false
set_option maxRecDepth 100000
set_option maxHeartbeats 2000000
namespace K18
open PD PM PU RU RV PV
theorem loop_ex' {T : D → Env → Option Env} {b : Env → R Fl} {d : D} {ds : List D} {ρ ρ1 ρ2 : Env} {c : PySem.Str} {fs : List (PySem.Str × D)} (h : T d ρ = some ρ1) (hb : b ρ1 = .ok (.ex c fs ρ2)) : sLoop T b (d :: ds) ρ = .ok (.ex c fs ρ2) := by
  show (match T d ρ with | none => _ | some ρ1 => _) = _
  rw [h]; show (b ρ1 >>= _) = _
  rw [hb]; rfl
/-- the first wrong one -/
noncomputable def fb (n : Nat) : List GR → Option Nat
  | [] => none
  | r :: gs => if bad n r = true then some 0 else (fb n gs).map (· + 1)
theorem chk_loop {n : Nat} {s : D} (hs : dLen [s] = some (.int (n : Nat))) : ∀ (gs : List GR) (c : Nat) (o1 o2 : Option D), (∀ r ∈ gs, GOk r) → match fb n gs with
    | none => ∃ o1' o2', sLoop (gTup (gsCons (gSet 1) (gsCons (gSet 2) gsNil))) l1_check_rules (enumL (c : Nat) (gs.map gD)) [some s, o1, o2] = .ok (.nx [some s, o1', o2'])
    | some k => ∃ ρ, sLoop (gTup (gsCons (gSet 1) (gsCons (gSet 2) gsNil))) l1_check_rules (enumL (c : Nat) (gs.map gD)) [some s, o1, o2] = .ok (.ex "BadPress" [("index", .int ((c + k : Nat) : Int))] ρ)
  | [], c, o1, o2, _ => ⟨o1, o2, rfl⟩
  | r :: gs, c, o1, o2, h => by
    have v := gvalid_ok (n := n) (h r List.mem_cons_self)
    have en : enumL (c : Nat) ((r :: gs).map gD) = .tup [.int (c : Nat), gD r] :: enumL ((c + 1 : Nat) : Int) (gs.map gD) := by
      rw [List.map_cons]
      show _ :: enumL ((c : Nat) + 1) _ = _
      rw [show ((c + 1 : Nat) : Int) = (c : Nat) + 1 by omega]
    rw [en]
    cases hb : bad n r with
    | true =>
      have ff : fb n (r :: gs) = some 0 := if_pos hb
      rw [ff]
      dsimp only
      rw [hb] at v
      refine ⟨[some s, some (.int (c : Nat)), some (gD r)], loop_ex' (ρ1 := [some s, some (.int (c : Nat)), some (gD r)]) rfl ?_⟩
      have rf := r_raiseF (c := "BadPress") (fld := "index") (f := mV 1) (ρ := [some s, some (.int (c : Nat)), some (gD r)]) (d := .int (c : Nat)) rfl rfl
      rw [Nat.add_zero]
      generalize gD r = rd at *
      exists l1_check_rules, i3_check_rules, hs, v, rf
    | false =>
      have ff : fb n (r :: gs) = (fb n gs).map (· + 1) := if_neg (by rw [hb]; exact Bool.false_ne_true)
      rw [ff]
      rw [hb] at v
      have step : l1_check_rules [some s, some (.int (c : Nat)), some (gD r)] = .ok (.nx [some s, some (.int (c : Nat)), some (gD r)]) := by
        generalize gD r = rd at *
        exists l1_check_rules, i3_check_rules, hs, v
      have ih := chk_loop hs gs (c + 1) (some (.int (c : Nat))) (some (gD r)) fun q m => h q (List.mem_cons_of_mem _ m)
      cases q : fb n gs with
      | none =>
        rw [q] at ih
        obtain ⟨a, b, e⟩ := ih
        exact ⟨a, b, (loop_nx (ρ1 := [some s, some (.int (c : Nat)), some (gD r)]) rfl step).trans e⟩
      | some k =>
        rw [q] at ih
        obtain ⟨ρ, e⟩ := ih
        refine ⟨ρ, (loop_nx (ρ1 := [some s, some (.int (c : Nat)), some (gD r)]) rfl step).trans ?_⟩
        show _ = R.ok (Fl.ex "BadPress" [("index", .int ((c + (k + 1) : Nat) : Int))] ρ)
        rw [show c + (k + 1) = c + 1 + k by omega]
        exact e
inductive Out where
  | bad (k : Nat) | long | told
noncomputable def outc (gs : List GR) : Out := if gs.length = 0 then .bad 0 else if 256 < gs.length then .long else match fb gs.length gs with
  | some k => .bad k
  | none => .told
noncomputable def Out.chk : Out → R D
  | .bad k => .err "BadPress" [("index", .int (k : Nat))]
  | .long => .err "TooLong" []
  | .told => .ok .non
theorem gcheck_ok {gs : List GR} (h : ∀ r ∈ gs, GOk r) : m_check_rules [.lst (gs.map gD)] = (outc gs).chk := by
  have sl : dLen [.lst (gs.map gD)] = some (.int (gs.length : Nat)) := by rw [dLen_l, List.length_map]
  unfold outc
  by_cases c0 : gs.length = 0
  · rw [if_pos c0]
    have z : ((gs.length : Nat) : Int) = 0 := by omega
    have rf := fun ρ => r_raiseF (c := "BadPress") (fld := "index") (f := mC (.int 0)) (ρ := ρ) (d := .int 0) rfl rfl
    show _ = R.err "BadPress" [("index", .int ((0 : Nat) : Int))]
    have z0 : ((0 : Nat) : Int) = 0 := rfl
    rw [z0]
    generalize gs.map gD = xs at *
    generalize ((gs.length : Nat) : Int) = ll at *
    exists m_check_rules, b_check_rules, i1_check_rules, sl, z, rf
  · rw [if_neg c0]
    have n0 : ¬ ((gs.length : Nat) : Int) = 0 := by omega
    by_cases c1 : 256 < gs.length
    · rw [if_pos c1]
      have n1 : (256 : Int) < (gs.length : Nat) := by omega
      show _ = R.err "TooLong" []
      generalize gs.map gD = xs at *
      generalize ((gs.length : Nat) : Int) = ll at *
      exists m_check_rules, b_check_rules, i1_check_rules, sl, n0, i2_check_rules, n1
    · rw [if_neg c1]
      have n1 : ¬ (256 : Int) < (gs.length : Nat) := by omega
      have lo := chk_loop sl gs 0 none none h
      have z0 : ((0 : Nat) : Int) = 0 := rfl
      rw [z0] at lo
      have se : gEnS (.lst (gs.map gD)) = some (enumL 0 (gs.map gD)) := rfl
      cases q : fb gs.length gs with
      | none =>
        rw [q] at lo
        obtain ⟨a, b, e⟩ := lo
        show _ = R.ok D.non
        generalize enumL 0 (gs.map gD) = en at *
        generalize gs.map gD = xs at *
        generalize ((gs.length : Nat) : Int) = ll at *
        exists m_check_rules, b_check_rules, i1_check_rules, sl, n0, i2_check_rules, n1, se, e
      | some k =>
        rw [q] at lo
        obtain ⟨ρ, e⟩ := lo
        rw [Nat.zero_add] at e
        show _ = R.err "BadPress" [("index", .int (k : Nat))]
        generalize enumL 0 (gs.map gD) = en at *
        generalize gs.map gD = xs at *
        generalize ((gs.length : Nat) : Int) = ll at *
        exists m_check_rules, b_check_rules, i1_check_rules, sl, n0, i2_check_rules, n1, se, e
/-! ### the law's answer -/
noncomputable def Out.due : Out → D
  | .bad k => .tup [.str zbf713652, .int (k : Nat), .bl true]
  | .long => .tup [.str z046afc1d, .int 0, .bl true]
  | .told => .non
theorem due_loop {gs : List GR} {n : Nat} (hn : gs.length = n) (h : ∀ r ∈ gs, GOk r) : ∀ (m c : Nat) (o1 : Option D), c + m = n → match fb n (gs.drop c) with
    | none => ∃ o1', sLoop (gSet 1) l1_law_due (rngL (c : Nat) m) [some (.lst (gs.map gD)), o1] = .ok (.nx [some (.lst (gs.map gD)), o1'])
    | some k => sLoop (gSet 1) l1_law_due (rngL (c : Nat) m) [some (.lst (gs.map gD)), o1] = .ok (.rt (.tup [.str zbf713652, .int ((c + k : Nat) : Int), .bl true]))
  | 0, c, o1, hc => by
    rw [List.drop_eq_nil_of_le (by omega)]
    exact ⟨o1, rfl⟩
  | m + 1, c, o1, hc => by
    have hl : c < gs.length := by omega
    obtain ⟨r, hr⟩ : ∃ r, gs[c]? = some r := ⟨_, List.getElem?_eq_getElem hl⟩
    have dr : gs.drop c = r :: gs.drop (c + 1) := by
      rw [List.drop_eq_getElem_cons hl]
      rw [List.getElem?_eq_getElem hl] at hr
      rw [Option.some.inj hr]
    have w := wrong_ok (n := n) (h r (List.mem_of_getElem? hr))
    have ix : dIx (.lst (gs.map gD)) (.int (c : Nat)) = some (gD r) := by rw [r_ixn, List.getElem?_map, hr]; rfl
    have sl : dLen [.lst (gs.map gD)] = some (.int (n : Nat)) := by rw [dLen_l, List.length_map, hn]
    rw [dr, PO.rngL_cons]
    cases hb : bad n r with
    | true =>
      have ff : fb n (r :: gs.drop (c + 1)) = some 0 := if_pos hb
      rw [ff]
      dsimp only
      rw [hb] at w
      rw [Nat.add_zero]
      refine loop_rt (ρ1 := [some (.lst (gs.map gD)), some (.int (c : Nat))]) rfl ?_
      generalize gs.map gD = xs at *
      generalize gD r = rd at *
      exists l1_law_due, i3_law_due, ix, sl, w
    | false =>
      have ff : fb n (r :: gs.drop (c + 1)) = (fb n (gs.drop (c + 1))).map (· + 1) := if_neg (by rw [hb]; exact Bool.false_ne_true)
      rw [ff]
      rw [hb] at w
      have step : l1_law_due [some (.lst (gs.map gD)), some (.int (c : Nat))] = .ok (.nx [some (.lst (gs.map gD)), some (.int (c : Nat))]) := by
        generalize gs.map gD = xs at *
        generalize gD r = rd at *
        exists l1_law_due, i3_law_due, ix, sl, w
      have ih := due_loop hn h m (c + 1) (some (.int (c : Nat))) (by omega)
      rw [show ((c + 1 : Nat) : Int) = (c : Int) + 1 by omega] at ih
      cases q : fb n (gs.drop (c + 1)) with
      | none =>
        rw [q] at ih
        obtain ⟨a, e⟩ := ih
        exact ⟨a, (loop_nx (ρ1 := [some (.lst (gs.map gD)), some (.int (c : Nat))]) rfl step).trans e⟩
      | some k =>
        rw [q] at ih
        show _ = R.ok (Fl.rt (D.tup [.str zbf713652, .int ((c + (k + 1) : Nat) : Int), .bl true]))
        rw [show c + (k + 1) = c + 1 + k by omega]
        exact (loop_nx (ρ1 := [some (.lst (gs.map gD)), some (.int (c : Nat))]) rfl step).trans ih
theorem gdue_ok {gs : List GR} (h : ∀ r ∈ gs, GOk r) : m_law_due [.lst (gs.map gD)] = .ok (outc gs).due := by
  have sl : dLen [.lst (gs.map gD)] = some (.int (gs.length : Nat)) := by rw [dLen_l, List.length_map]
  unfold outc
  by_cases c0 : gs.length = 0
  · rw [if_pos c0]
    have z : ((gs.length : Nat) : Int) = 0 := by omega
    show _ = R.ok (D.tup [.str zbf713652, .int ((0 : Nat) : Int), .bl true])
    have z0 : ((0 : Nat) : Int) = 0 := rfl
    rw [z0]
    generalize gs.map gD = xs at *
    generalize ((gs.length : Nat) : Int) = ll at *
    exists m_law_due, b_law_due, i1_law_due, sl, z
  · rw [if_neg c0]
    have n0 : ¬ ((gs.length : Nat) : Int) = 0 := by omega
    by_cases c1 : 256 < gs.length
    · rw [if_pos c1]
      have n1 : (256 : Int) < (gs.length : Nat) := by omega
      show _ = R.ok (D.tup [.str z046afc1d, .int 0, .bl true])
      generalize gs.map gD = xs at *
      generalize ((gs.length : Nat) : Int) = ll at *
      exists m_law_due, b_law_due, i1_law_due, sl, n0, i2_law_due, n1
    · rw [if_neg c1]
      have n1 : ¬ (256 : Int) < (gs.length : Nat) := by omega
      have r1 : gR1 [.int ((gs.length : Nat) : Int)] = some (rngL 0 gs.length) := r_R1n (by omega)
      have lo := due_loop rfl h gs.length 0 none (by omega)
      have z0 : ((0 : Nat) : Int) = 0 := rfl
      rw [z0, List.drop_zero] at lo
      cases q : fb gs.length gs with
      | none =>
        rw [q] at lo
        obtain ⟨a, e⟩ := lo
        show _ = R.ok D.non
        generalize gs.map gD = xs at *
        generalize rngL 0 gs.length = rg at *
        generalize ((gs.length : Nat) : Int) = ll at *
        exists m_law_due, b_law_due, i1_law_due, sl, n0, i2_law_due, n1, r1, e
      | some k =>
        rw [q] at lo
        dsimp only at lo
        rw [Nat.zero_add] at lo
        show _ = R.ok (D.tup [.str zbf713652, .int (k : Nat), .bl true])
        generalize gs.map gD = xs at *
        generalize rngL 0 gs.length = rg at *
        generalize ((gs.length : Nat) : Int) = ll at *
        exists m_law_due, b_law_due, i1_law_due, sl, n0, i2_law_due, n1, r1, lo
end K18
set_option linter.all false
set_option maxRecDepth 100000
set_option maxHeartbeats 2000000
namespace K23
open PD PM PU RU RV PV
/-! ### sizes -/
theorem nll_ok {zs : List D} {f : Env → R D} {ρ : Env} (e : f ρ = .ok (.lst zs)) (n : noLs zs = true) : mNLL f ρ = .ok (.lst zs) := by
  unfold mNLL
  rw [e]
  show (if noLs zs = true then _ else _) = _
  rw [if_pos n]
/-! ### names reached -/
noncomputable def jU (S : RS) (B M : List Bool) (k : Nat) : List Bool := if mk_ B k = true then setAll M (pts S k) else M
noncomputable def jr (S : RS) (B M : List Bool) (j : Nat) : List Bool := (List.range j).foldl (jU S B) M
theorem jr_s {S : RS} {B M : List Bool} {j : Nat} : jr S B M (j + 1) = jU S B (jr S B M j) j := by
  unfold jr
  rw [List.range_succ, List.foldl_append]; rfl
theorem jr_len {S : RS} {B M : List Bool} {j : Nat} : (jr S B M j).length = M.length := by
  induction j with
  | zero => rfl
  | succ j ih =>
    rw [jr_s]
    unfold jU
    split
    · rw [setAll_len, ih]
    · exact ih
theorem jr_mk {S : RS} (v : PV S) {B M : List Bool} (hl : M.length = S.length) {p : Nat} : ∀ {j : Nat}, mk_ (jr S B M j) p = true ↔ mk_ M p = true ∨ ∃ k, k < j ∧ mk_ B k = true ∧ p ∈ pts S k
  | 0 => ⟨.inl, fun h => h.elim id fun ⟨k, l, _⟩ => absurd l (Nat.not_lt_zero _)⟩
  | j + 1 => by
    have ih := jr_mk v hl (p := p) (B := B) (j := j)
    have ln : (jr S B M j).length = S.length := by rw [jr_len, hl]
    rw [jr_s]
    unfold jU
    by_cases c : mk_ B j = true
    · rw [if_pos c, setAll_mk (fun q m => by rw [ln]; exact v j q m), ih]
      constructor
      · rintro ((h | ⟨k, l, a, b⟩) | h)
        · exact .inl h
        · exact .inr ⟨k, by omega, a, b⟩
        · exact .inr ⟨j, by omega, c, h⟩
      · rintro (h | ⟨k, l, a, b⟩)
        · exact .inl (.inl h)
        · by_cases e : k = j
          · subst e; exact .inr b
          · exact .inl (.inr ⟨k, by omega, a, b⟩)
    · rw [if_neg c, ih]
      constructor
      · rintro (h | ⟨k, l, a, b⟩)
        · exact .inl h
        · exact .inr ⟨k, by omega, a, b⟩
      · rintro (h | ⟨k, l, a, b⟩)
        · exact .inl h
        · by_cases e : k = j
          · subst e; exact absurd a c
          · exact .inr ⟨k, by omega, a, b⟩
noncomputable def rT (S : RS) (t : Nat) : List Bool := (List.range S.length).map (rF S t)
theorem rT_len {S : RS} {t : Nat} : (rT S t).length = S.length := by unfold rT; rw [List.length_map, List.length_range]
theorem rT_mk {S : RS} (v : PV S) {t k : Nat} : mk_ (rT S t) k = rF S t k := by
  unfold mk_ rT
  rw [List.getD_eq_getElem?_getD, List.getElem?_map]
  by_cases c : k < S.length
  · rw [List.getElem?_range c]; rfl
  · rw [List.getElem?_eq_none (by rw [List.length_range]; omega)]
    cases q : rF S t k with
    | false => rfl
    | true => exact absurd (rF_lt v q) c
theorem jr_rT {S : RS} (v : PV S) {t : Nat} : jr S (rT S t) (rT S t) S.length = rT S (t + 1) := by
  refine mk_ext (by rw [jr_len, rT_len]) fun k hk => ?_
  rw [Bool.eq_iff_iff, jr_mk v rT_len, rT_mk v]
  show _ ↔ (rF S t k || _) = true
  rw [Bool.or_eq_true, List.any_eq_true]
  constructor
  · rintro (h | ⟨j, l, a, b⟩)
    · exact .inl h
    · rw [rT_mk v] at a
      exact .inr ⟨j, List.mem_range.mpr l, by rw [Bool.and_eq_true]; exact ⟨a, by simpa using b⟩⟩
  · rintro (h | ⟨j, l, a⟩)
    · exact .inl h
    · rw [Bool.and_eq_true] at a
      exact .inr ⟨j, List.mem_range.mp l, by rw [rT_mk v]; exact a.1, by simpa using a.2⟩
theorem rT_end {S : RS} : rT S S.length = rtab S := rfl
theorem rT_stay {S : RS} (v : PV S) {t : Nat} (h : rT S (t + 1) = rT S t) : ∀ d, rT S (t + d) = rT S t
  | 0 => rfl
  | d + 1 => by
    have ih := rT_stay v h d
    show rT S (t + d + 1) = _
    rw [← jr_rT v, ih, jr_rT v, h]
theorem nll_bD {X : List Bool} : noLs (X.map bD) = true := by
  induction X with
  | nil => rfl
  | cons x X ih => exact ih
theorem marks_loop {s : D} {k : Nat} {o2 o3 o6 : Option D} : ∀ (ps : List Nat) (M : List Bool) (o5 : Option D), (∀ p ∈ ps, p < M.length) → ∃ o5', sLoop (gSet 5) l1_law_reached (ps.map nD) [some s, some (.lst (M.map bD)), o2, o3, some (nD k), o5, o6] = .ok (.nx [some s, some (.lst ((setAll M ps).map bD)), o2, o3, some (nD k), o5', o6])
  | [], M, o5, _ => ⟨o5, rfl⟩
  | p :: ps, M, o5, hp => by
    have p1 := hp p List.mem_cons_self
    obtain ⟨o5', e⟩ := marks_loop (s := s) (k := k) (o2 := o2) (o3 := o3) (o6 := o6) ps (M.set p true) (some (nD p)) fun q m => by
      rw [List.length_set]; exact hp q (List.mem_cons_of_mem _ m)
    refine ⟨o5', (loop_nx (ρ1 := [some s, some (.lst (M.map bD)), o2, o3, some (nD k), some (nD p), o6]) rfl ?_).trans e⟩
    have si : p < (M.map bD).length := by rw [List.length_map]; exact p1
    rw [← set_bD]
    generalize M.map bD = MD at *
    exists l1_law_reached, r_sSI, r_kSI si
theorem reach_rounds {S : RS} {b : Bool} (h : Val S) : ∀ (m t : Nat) (o2 o3 o4 o5 : Option D), t + m = S.length →
    ∃ o2' o3' o4' o5', sLoop (gSet 2) l3_law_reached (rngL (t : Nat) m) [some (sq b (S.map rD)), some (.lst ((rT S t).map bD)), o2, o3, o4, o5, none] = .ok (.nx [some (sq b (S.map rD)), some (.lst ((rtab S).map bD)), o2', o3', o4', o5', none])
  | 0, t, o2, o3, o4, o5, ht => by
    rw [show t = S.length by omega, rT_end]
    exact ⟨o2, o3, o4, o5, rfl⟩
  | m + 1, t, o2, o3, o4, o5, ht => by
    have hl := h.len
    have sl := sq_l (b := b) (xs := S.map rD)
    rw [List.length_map] at sl
    have r1 : gR1 [.int ((S.length : Nat) : Int)] = some (rngL 0 S.length) := r_R1n (by omega)
    obtain ⟨ρ2, e2, p4, p5, rfl⟩ := loop_I (T := gSet 4) (b := l2_law_reached) (fun j ρ => ∃ o4 o5 : Option D, ρ = [some (sq b (S.map rD)), some (.lst ((jr S (rT S t) (rT S t) j).map bD)), some (nD t), some (.lst ((rT S t).map bD)), o4, o5, none]) (rngL 0 S.length) [some (sq b (S.map rD)), some (.lst ((rT S t).map bD)), some (nD t), some (.lst ((rT S t).map bD)), o4, o5, none] ⟨_, _, rfl⟩ (by
      rintro j d ρ hd ⟨o4, o5, rfl⟩
      obtain ⟨hj, rfl⟩ := rngL_get hd
      have z : (0 : Int) + (j : Nat) = (j : Nat) := by omega
      obtain ⟨r, hr⟩ : ∃ r, S[j]? = some r := ⟨_, List.getElem?_eq_getElem hj⟩
      have ir := ix_rule (b := b) hr
      have po := law_parts_ok (r := r)
      have gs : gSq (.lst (r.parts.map nD)) = some (r.parts.map nD) := rfl
      have pe := pts_of hr
      have ml : (jr S (rT S t) (rT S t) j).length = S.length := by rw [jr_len, rT_len]
      have mg := mk_get (M := rT S t) (p := j) (by rw [rT_len]; exact hj)
      rw [jr_s]
      cases hm : mk_ (rT S t) j with
      | true =>
        rw [hm] at mg
        have e : jU S (rT S t) (jr S (rT S t) (rT S t) j) j = setAll (jr S (rT S t) (rT S t) j) r.parts := by unfold jU; rw [hm, if_pos rfl, pe]
        rw [e]
        obtain ⟨o5', lo⟩ := marks_loop (s := sq b (S.map rD)) (k := j) (o2 := some (nD t)) (o3 := some (.lst ((rT S t).map bD))) (o6 := none) r.parts (jr S (rT S t) (rT S t) j) o5 fun p m => by
          rw [ml]; exact (h.ok r (List.mem_of_getElem? hr)).parts p m
        generalize sq b (S.map rD) = sd at *
        generalize (jr S (rT S t) (rT S t) j).map bD = X1 at *
        generalize (setAll (jr S (rT S t) (rT S t) j) r.parts).map bD = X2 at *
        generalize (rT S t).map bD = X3 at *
        generalize r.parts.map nD = ps at *
        generalize rD r = rd at *
        exists z, l2_law_reached, i1_law_reached, mg, r_trub, ir, po, gs, lo
        exact ⟨_, _, rfl⟩
      | false =>
        rw [hm] at mg
        have e : jU S (rT S t) (jr S (rT S t) (rT S t) j) j = jr S (rT S t) (rT S t) j := by unfold jU; rw [hm, if_neg Bool.false_ne_true]
        rw [e]
        generalize sq b (S.map rD) = sd at *
        generalize (jr S (rT S t) (rT S t) j).map bD = X1 at *
        generalize (rT S t).map bD = X3 at *
        exists z, l2_law_reached, i1_law_reached, mg, r_trub
        exact ⟨_, _, rfl⟩)
    rw [rngL_length, jr_rT h.pv] at e2
    have cp : mNLL (mN dListOf (mCons (mV 1) mNil)) [some (sq b (S.map rD)), some (.lst ((rT S t).map bD)), some (nD t), o3, o4, o5, none] = .ok (.lst ((rT S t).map bD)) := nll_ok rfl nll_bD
    obtain ⟨c, dq, cq⟩ := deq_lists (f := bD) (fun a => bD_q) (fun a b => eqv_bD) (X := rT S (t + 1)) (Y := rT S t)
    rw [PO.rngL_cons]
    cases c with
    | true =>
      have st := rT_stay h.pv (cq rfl) (S.length - t)
      rw [show t + (S.length - t) = S.length by omega, rT_end] at st
      have e1 : rT S (t + 1) = rtab S := by rw [cq rfl, ← st]
      rw [e1] at e2 dq
      refine ⟨some (nD t), some (.lst ((rT S t).map bD)), p4, p5, loop_bk (ρ1 := [some (sq b (S.map rD)), some (.lst ((rT S t).map bD)), some (nD t), o3, o4, o5, none]) rfl ?_⟩
      clear st e1
      generalize sq b (S.map rD) = sd at *
      generalize (rT S t).map bD = X1 at *
      generalize (rtab S).map bD = X2 at *
      generalize rngL 0 S.length = RG at *
      exists l3_law_reached, cp, sl, r1, e2, i2_law_reached, dq
    | false =>
      obtain ⟨q2, q3, q4, q5, ih⟩ := reach_rounds (b := b) h m (t + 1) (some (nD t)) (some (.lst ((rT S t).map bD))) p4 p5 (by omega)
      rw [show (((t + 1 : Nat) : Nat) : Int) = ((t : Nat) : Int) + 1 by omega] at ih
      refine ⟨q2, q3, q4, q5, (loop_nx (ρ1 := [some (sq b (S.map rD)), some (.lst ((rT S t).map bD)), some (nD t), o3, o4, o5, none]) rfl ?_).trans ih⟩
      clear ih
      generalize sq b (S.map rD) = sd at *
      generalize (rT S t).map bD = X1 at *
      generalize (rT S (t + 1)).map bD = X2 at *
      generalize rngL 0 S.length = RG at *
      exists l3_law_reached, cp, sl, r1, e2, i2_law_reached, dq
theorem reached_ok {S : RS} {b : Bool} (h : Val S) : m_law_reached [sq b (S.map rD)] = .ok (nD (rnames S).length) := by
  have hl := h.len
  have n0 : 0 < S.length := List.length_pos_iff.mpr h.ne
  have sl := sq_l (b := b) (xs := S.map rD)
  rw [List.length_map] at sl
  have r1 : gR1 [.int ((S.length : Nat) : Int)] = some (rngL 0 S.length) := r_R1n (by omega)
  have lc1 := lc_fm (T := gSet 4) (ft := mYes) (fe := m2 dEq (mV 4) (m2 dSub (mN dLen (mCons (mV 0) mNil)) (mC (.int 1)))) (ρ := [some (sq b (S.map rD)), none, none, none, none, none, none]) (fun k : Nat => D.int (0 + (k : Nat))) (fun _ => true) (fun k => bD (rF S 0 k)) (xs := List.range S.length) (fun k m => ⟨[some (sq b (S.map rD)), none, none, none, some (.int (0 + (k : Nat))), none, none], rfl, rfl, (fun _ => by
    have z : (0 : Int) + (k : Nat) = (k : Nat) := by omega
    rw [z]
    have e : bD (rF S 0 k) = .bl (decide (((k : Nat) : Int) = (S.length : Nat) - 1)) := by
      show D.bl (k + 1 == S.length) = _
      congr 1
      rw [Bool.eq_iff_iff, beq_iff_eq, decide_eq_true_eq]
      omega
    rw [e]
    generalize sq b (S.map rD) = sd at *
    exists sl)⟩)
  rw [List.filter_eq_self.mpr (fun _ _ => rfl)] at lc1
  have rr : rngL 0 S.length = (List.range S.length).map fun k : Nat => D.int (0 + (k : Nat)) := rfl
  rw [← rr] at lc1
  have m0 : ((List.range S.length).map fun k => bD (rF S 0 k)) = (rT S 0).map bD := by unfold rT; rw [List.map_map]; rfl
  rw [m0] at lc1
  have kl1 := kLn_ok (xs := (rT S 0).map bD) (by rw [List.length_map, rT_len, LNe]; omega)
  obtain ⟨o2, o3, o4, o5, e1⟩ := reach_rounds (b := b) h S.length 0 none none none none (by omega)
  have z0 : ((0 : Nat) : Int) = 0 := rfl
  rw [z0] at e1
  have lc2 := lc_fm (T := gSet 6) (ft := mTru (mV 6)) (fe := mV 6) (ρ := [some (sq b (S.map rD)), some (.lst ((rtab S).map bD)), o2, o3, o4, o5, none]) bD (fun x => x) bD (xs := rtab S) fun x m => ⟨[some (sq b (S.map rD)), some (.lst ((rtab S).map bD)), o2, o3, o4, o5, some (bD x)], rfl, rfl, fun _ => rfl⟩
  have lf : ((rtab S).filter fun x => x).length = (rnames S).length := by
    unfold rtab rnames
    rw [List.filter_map, List.length_map]
    rfl
  have fl : ((rtab S).filter fun x => x).length ≤ S.length := by
    refine Nat.le_trans (List.length_filter_le _ _) ?_
    unfold rtab
    rw [List.length_map, List.length_range]
    exact Nat.le_refl _
  have kl2 := kLn_ok (xs := ((rtab S).filter fun x => x).map bD) (by rw [List.length_map, LNe]; omega)
  have ln : dLen [.lst (((rtab S).filter fun x => x).map bD)] = some (nD (rnames S).length) := by rw [dLen_l, List.length_map, lf]
  have gs : gSq (.lst ((rtab S).map bD)) = some ((rtab S).map bD) := rfl
  have w1 : wipeD [some (sq b (S.map rD)), none, none, none, none, none, none] [4] = [some (sq b (S.map rD)), none, none, none, none, none, none] := rfl
  have w2 : wipeD [some (sq b (S.map rD)), some (.lst ((rtab S).map bD)), o2, o3, o4, o5, none] [6] = [some (sq b (S.map rD)), some (.lst ((rtab S).map bD)), o2, o3, o4, o5, none] := rfl
  clear lf fl rr
  generalize sq b (S.map rD) = sd at *
  generalize ((rtab S).filter fun x => x).map bD = F0 at *
  generalize (rT S 0).map bD = X0 at *
  generalize (rtab S).map bD = T0 at *
  generalize rngL 0 S.length = RG at *
  generalize nD (rnames S).length = ld at *
  exists m_law_reached, b_law_reached, c1_law_reached, sl, r1, w1, lc1, kl1, e1, c2_law_reached, gs, w2, lc2, kl2, ln
end K23
set_option linter.all false
set_option maxRecDepth 100000
set_option maxHeartbeats 2000000
namespace K18
open PD PM PU RU RV PV
theorem zc_mem : ∀ c ∈ zc3fcd3d7, 97 ≤ c ∧ c ≤ 122 := by decide
theorem good_rl {n : Nat} {r : GR} (h : bad n r = false) : ∃ q : Rl, gD r = rD q ∧ RlOk n q := by
  have out : ∀ x : Int, outp n x = false → 0 ≤ x ∧ x < (n : Int) := fun x hx => by
    unfold outp at hx
    rw [Bool.or_eq_false_iff, decide_eq_false_iff_not, decide_eq_false_iff_not] at hx
    omega
  cases r with
  | let_ s =>
    match s, h with
    | [], h => cases h
    | [c], h =>
      have h : (!decide (c ∈ zc3fcd3d7)) = false := h
      have m : c ∈ zc3fcd3d7 := by simpa using h
      exact ⟨.let_ c, rfl, zc_mem c m⟩
    | c :: d :: s, h => cases h
  | pair a b =>
    have h : (outp n a || outp n b) = false := h
    rw [Bool.or_eq_false_iff] at h
    have ha := out a h.1
    have hb := out b h.2
    refine ⟨.pair a.toNat b.toNat, ?_, by omega, by omega⟩
    show D.tup [.str z33c9b363, .int a, .int b] = .tup [.str z33c9b363, .int ((a.toNat : Nat) : Int), .int ((b.toNat : Nat) : Int)]
    rw [show ((a.toNat : Nat) : Int) = a by omega, show ((b.toNat : Nat) : Int) = b by omega]
  | pow a t =>
    have h : (outp n a || decide (t < 2) || decide (128 < t)) = false := h
    rw [Bool.or_eq_false_iff, Bool.or_eq_false_iff, decide_eq_false_iff_not, decide_eq_false_iff_not] at h
    have ha := out a h.1.1
    refine ⟨.pow a.toNat t.toNat, ?_, by omega, by omega, by omega⟩
    show D.tup [.str z62cd2759, .int a, .int t] = .tup [.str z62cd2759, .int ((a.toNat : Nat) : Int), .int ((t.toNat : Nat) : Int)]
    rw [show ((a.toNat : Nat) : Int) = a by omega, show ((t.toNat : Nat) : Int) = t by omega]
theorem fb_none {n : Nat} : ∀ {gs : List GR}, fb n gs = none → ∀ r ∈ gs, bad n r = false
  | [], _, r, m => nomatch m
  | q :: gs, h, r, m => by
    cases hb : bad n q with
    | true =>
      have : fb n (q :: gs) = some 0 := if_pos hb
      rw [this] at h
      cases h
    | false =>
      have e : fb n (q :: gs) = (fb n gs).map (· + 1) := if_neg (by rw [hb]; exact Bool.false_ne_true)
      rw [e] at h
      rcases List.mem_cons.mp m with rfl | m
      · exact hb
      · cases q2 : fb n gs with
        | none => exact fb_none q2 r m
        | some k => rw [q2] at h; cases h
theorem rules_of {n : Nat} : ∀ {gs : List GR}, (∀ r ∈ gs, bad n r = false) → ∃ S : RS, gs.map gD = S.map rD ∧ S.length = gs.length ∧ ∀ r ∈ S, RlOk n r
  | [], _ => ⟨[], rfl, rfl, fun r m => nomatch m⟩
  | g :: gs, h => by
    obtain ⟨q, e, ok⟩ := good_rl (h g List.mem_cons_self)
    obtain ⟨S, e2, l, ok2⟩ := rules_of fun r m => h r (List.mem_cons_of_mem _ m)
    refine ⟨q :: S, by rw [List.map_cons, List.map_cons, e, e2], by rw [List.length_cons, List.length_cons, l], fun r m => ?_⟩
    rcases List.mem_cons.mp m with rfl | m
    · exact ok
    · exact ok2 r m
theorem told_val {gs : List GR} (h : outc gs = .told) : ∃ S : RS, gs.map gD = S.map rD ∧ Val S := by
  unfold outc at h
  by_cases c0 : gs.length = 0
  · rw [if_pos c0] at h; cases h
  · rw [if_neg c0] at h
    by_cases c1 : 256 < gs.length
    · rw [if_pos c1] at h; cases h
    · rw [if_neg c1] at h
      cases q : fb gs.length gs with
      | some k => rw [q] at h; cases h
      | none =>
        obtain ⟨S, e, l, ok⟩ := rules_of (fb_none q)
        refine ⟨S, e, ⟨fun z => ?_, by omega, fun r m => by rw [l]; exact ok r m⟩⟩
        rw [z] at l
        exact c0 l.symm
/-! ### the press, or the error -/
noncomputable def gotD (gs : List GR) : Out → D
  | .bad k => .tup [.str zbf713652, .int (k : Nat), .bl true]
  | .long => .tup [.str z046afc1d, .int 0, .bl true]
  | .told => .tup [.str za336b5d4, .obj "Rules" ["rules"] [.tup (gs.map gD)]]
theorem init_told {xs : List D} (c : m_check_rules [.lst xs] = .ok .non) : kOb "Rules" ["rules"] (m_Rules_init [.lst xs]) = .ok (.obj "Rules" ["rules"] [.tup xs]) := by
  have t : dTupOf [.lst xs] = some (.tup xs) := rfl
  have k1 : (([] : List PySem.Str).contains "rules" = false ∧ ([] : List PySem.Str).length < 900) := ⟨rfl, by decide⟩
  have e1 : b_Rules_init [some (.obj "Rules" [] []), some (.lst xs)] = .ok (.nx [some (.obj "Rules" ["rules"] [.tup xs]), some (.lst xs)]) := by
    exists b_Rules_init, c, t, r_kFI k1
  have : m_Rules_init [.lst xs] = kInit ["rules"] (b_Rules_init [some (.obj "Rules" [] []), some (.lst xs)]) := rfl
  rw [this, e1]; rfl
theorem init_err {xs : List D} {e : PySem.Str} {fs : List (PySem.Str × D)} (c : m_check_rules [.lst xs] = .err e fs) : kOb "Rules" ["rules"] (m_Rules_init [.lst xs]) = .err e fs := by
  have e1 : b_Rules_init [some (.obj "Rules" [] []), some (.lst xs)] = .ok (.ex e fs [some (.obj "Rules" [] []), some (.lst xs)]) := by
    exists b_Rules_init, c
  have : m_Rules_init [.lst xs] = kInit ["rules"] (b_Rules_init [some (.obj "Rules" [] []), some (.lst xs)]) := rfl
  rw [this, e1]; rfl
theorem gtry_ok {gs : List GR} (h : ∀ r ∈ gs, GOk r) : m_law_try [.lst (gs.map gD)] = .ok (gotD gs (outc gs)) := by
  have c := gcheck_ok h
  cases o : outc gs with
  | told =>
    rw [o] at c
    have i := init_told (xs := gs.map gD) c
    unfold gotD
    dsimp only
    generalize gs.map gD = xs at *
    have b : (sRet (mN dTup (mCons (mC (.str za336b5d4)) (mCons (mMake "Rules" ["rules"] 1 m_Rules_init (mCons (mV 0) mNil)) mNil)))) [some (.lst xs), none, none, none] = .ok (.rt (.tup [.str za336b5d4, .obj "Rules" ["rules"] [.tup xs]])) := by
      exists i
    exists m_law_try, b_law_try, PD.tryF_rt b
  | bad k =>
    rw [o] at c
    have i := init_err (xs := gs.map gD) c
    unfold gotD
    dsimp only
    generalize gs.map gD = xs at *
    generalize ((k : Nat) : Int) = kk at *
    have b : (sRet (mN dTup (mCons (mC (.str za336b5d4)) (mCons (mMake "Rules" ["rules"] 1 m_Rules_init (mCons (mV 0) mNil)) mNil)))) [some (.lst xs), none, none, none] = .ok (.ex "BadPress" [("index", .int kk)] [some (.lst xs), none, none, none]) := by
      exists i
      all_goals rfl
    have g : goN3 [⟨tblL "BadPress" ["TooLong"], (some 1), e2_law_try⟩, ⟨tblL "TooLong" ["BadPress"], (some 1), e1_law_try⟩] "BadPress" [("index", .int kk)] [some (.lst xs), none, none, none] = .ok (.rt (.tup [.str zbf713652, .int kk, .bl true])) := by
      have t1 : tblL "BadPress" ["TooLong"] "BadPress" = some true := by decide
      rw [PD.goN3_t t1]
      show endN (some 1) (e2_law_try [("index", .int kk)] ([some (.lst xs), none, none, none])) = _
      have m : mXF [("index", .int kk)] "index" [some (.lst xs), none, some (.bl true), some (.bl false)] = .ok (.int kk) := by
        unfold mXF
        rw [List.lookup_cons, beq_self_eq_true]
      exists e2_law_try, m
    exists m_law_try, b_law_try, PD.tryF_ex b rfl, g
  | long =>
    rw [o] at c
    have i := init_err (xs := gs.map gD) c
    unfold gotD
    dsimp only
    generalize gs.map gD = xs at *
    have b : (sRet (mN dTup (mCons (mC (.str za336b5d4)) (mCons (mMake "Rules" ["rules"] 1 m_Rules_init (mCons (mV 0) mNil)) mNil)))) [some (.lst xs), none, none, none] = .ok (.ex "TooLong" [] [some (.lst xs), none, none, none]) := by
      exists i
      all_goals rfl
    have g : goN3 [⟨tblL "BadPress" ["TooLong"], (some 1), e2_law_try⟩, ⟨tblL "TooLong" ["BadPress"], (some 1), e1_law_try⟩] "TooLong" [] [some (.lst xs), none, none, none] = .ok (.rt (.tup [.str z046afc1d, .int 0, .bl true])) := by
      have t1 : tblL "BadPress" ["TooLong"] "TooLong" = some false := by decide
      have t2 : tblL "TooLong" ["BadPress"] "TooLong" = some true := by decide
      rw [PD.goN3_f t1, PD.goN3_t t2]
      show endN (some 1) (e1_law_try [] ([some (.lst xs), none, none, none])) = _
      exists e1_law_try
    exists m_law_try, b_law_try, PD.tryF_ex b rfl, g
theorem trip_S {a : List Nat} {k : Int} : okS 8 (.tup [.str a, .int k, .bl true]) := ⟨by show 3 ≤ _; omega, fun x m => by
  simp only [List.mem_cons, List.mem_nil_iff, or_false] at m
  rcases m with rfl | rfl | rfl <;> trivial⟩
theorem lreached_ok {S : RS} (h : Val S) : m_law_reached [.lst (S.map rD)] = .ok (nD (rnames S).length) := K23.reached_ok (b := false) h
theorem rd_S {n : Nat} {r : Rl} : okS (n + 2) (rD r) := by
  cases r with
  | let_ c => exact ⟨by show 2 ≤ _; omega, fun x m => by
      rcases List.mem_cons.mp m with rfl | m
      · trivial
      · rw [List.mem_singleton.mp m]; trivial⟩
  | pair l q => exact ⟨by show 3 ≤ _; omega, fun x m => by
      simp only [List.mem_cons, List.mem_nil_iff, or_false] at m
      rcases m with rfl | rfl | rfl <;> trivial⟩
  | pow p t => exact ⟨by show 3 ≤ _; omega, fun x m => by
      simp only [List.mem_cons, List.mem_nil_iff, or_false] at m
      rcases m with rfl | rfl | rfl <;> trivial⟩
theorem holds_ok {gs : List GR} (h : ∀ r ∈ gs, GOk r) : m_law_holds [gotD gs (outc gs), .lst (gs.map gD)] = .ok (.bl true) := by
  have du := gdue_ok h
  cases o : outc gs with
  | told =>
    rw [o] at du
    have du : m_law_due [.lst (gs.map gD)] = .ok .non := du
    obtain ⟨S, e, v⟩ := told_val o
    have hl := v.len
    unfold gotD
    dsimp only
    rw [e] at du ⊢
    have f : dFld ["Rules"] "rules" (rul S) = some (.tup (S.map rD)) := fld_ok
    have to : dTupOf [.lst (S.map rD)] = some (.tup (S.map rD)) := rfl
    have s1 := same_ok 8 (.tup (S.map rD)) ⟨by rw [List.length_map]; omega, fun x m => by
      obtain ⟨r, _, rfl⟩ := List.mem_map.mp m
      exact rd_S⟩
    have e3 := sizeM_ok v
    have m3 : kM0 [("Copies", PN.m_Copies_size), ("Rules", m_Rules_size)] "size" (.ok (rul S)) = m_Rules_size [rul S] := rfl
    have m3' : kM0 [("Rules", m_Rules_size)] "size" (.ok (rul S)) = m_Rules_size [rul S] := rfl
    have re := lreached_ok v
    have s2 := same_ok 8 (nD (rnames S).length) trivial
    have ru : D.obj "Rules" ["rules"] [.tup (S.map rD)] = rul S := rfl
    rw [ru]
    have nn : dNotN .non .non = some (.bl false) := rfl
    clear ru e
    generalize nD (rnames S).length = ld at *
    generalize rul S = cp at *
    generalize S.map rD = xs at *
    exists m_law_holds, b_law_holds, du, i1_law_holds, nn, i2_law_holds, f, to, s1, m3, m3', e3, re, s2
  | bad k =>
    rw [o] at du
    have du : m_law_due [.lst (gs.map gD)] = .ok (.tup [.str zbf713652, .int (k : Nat), .bl true]) := du
    have sa := same_ok 8 _ (trip_S (a := zbf713652) (k := (k : Nat)))
    unfold gotD
    dsimp only
    generalize gs.map gD = xs at *
    generalize ((k : Nat) : Int) = kk at *
    exists m_law_holds, b_law_holds, du, i1_law_holds, sa
  | long =>
    rw [o] at du
    have du : m_law_due [.lst (gs.map gD)] = .ok (.tup [.str z046afc1d, .int 0, .bl true]) := du
    have sa := same_ok 8 _ (trip_S (a := z046afc1d) (k := 0))
    unfold gotD
    dsimp only
    generalize gs.map gD = xs at *
    exists m_law_holds, b_law_holds, du, i1_law_holds, sa
end K18
set_option linter.all false
set_option maxRecDepth 100000
set_option maxHeartbeats 2000000
namespace K18
open PD PM PU RU RV PV
noncomputable def toG : Rl → GR
  | .let_ c => .let_ [c]
  | .pair l r => .pair (l : Nat) (r : Nat)
  | .pow p t => .pow (p : Nat) (t : Nat)
theorem toG_d {r : Rl} : gD (toG r) = rD r := by cases r <;> rfl
theorem toG_map {S : RS} : S.map rD = (S.map toG).map gD := by
  rw [List.map_map]
  exact List.map_congr_left fun r _ => toG_d.symm
theorem toG_ok {r : Rl} : GOk (toG r) := by
  cases r with
  | let_ c => show 1 ≤ 100; omega
  | pair l q => trivial
  | pow p t => trivial
theorem toGs_ok {S : RS} : ∀ g ∈ S.map toG, GOk g := fun g m => by
  obtain ⟨r, _, rfl⟩ := List.mem_map.mp m
  exact toG_ok
theorem mended_ok {gs : List GR} (h : ∀ r ∈ gs, GOk r) (hl : gs.length ≤ 1000) : ∃ gs' : List GR, m_law_mended [.lst (gs.map gD)] = .ok (.lst (gs'.map gD)) ∧ (∀ r ∈ gs', GOk r) ∧ gs'.length ≤ 257 := by
  have sl : dLen [.lst (gs.map gD)] = some (.int (gs.length : Nat)) := by rw [dLen_l, List.length_map]
  have sc : dSl (.lst (gs.map gD)) none (some 256) = some (.lst ((gs.take 256).map gD)) := by
    rw [dSl_l, cut_to (by decide), ← List.map_take]; rfl
  have tl : (gs.take 256).length ≤ 256 := by rw [List.length_take]; omega
  have ht : ∀ r ∈ gs.take 256, GOk r := fun r m => h r (List.mem_of_mem_take m)
  obtain ⟨ρ', e1, out, o2, rfl, ok, ln⟩ := PD.loop_pre (T := gSet 2) (b := l1_law_mended) (fun (pre : List GR) ρ => ∃ (out : List GR) (o2 : Option D), ρ = [some (.lst (gs.map gD)), some (.lst (out.map gD)), o2] ∧ (∀ r ∈ out, GOk r) ∧ out.length = pre.length) gD (gs.take 256) [some (.lst (gs.map gD)), some (.lst []), none] ⟨[], none, rfl, (fun r m => nomatch m), rfl⟩ (by
    rintro pre r post ρ hp ⟨out, o2, rfl, ok, ln⟩
    have hr : GOk r := ht r (by rw [hp]; simp)
    have hl2 : pre.length ≤ 256 := by
      have := congrArg List.length hp
      rw [List.length_append, List.length_cons] at this
      omega
    have w := wrong_ok (n := gs.length) hr
    have al : (out.map gD).length < 1000000 := by rw [List.length_map]; omega
    have go : ∀ q : GR, GOk q → l1_law_mended [some (.lst (gs.map gD)), some (.lst (out.map gD)), some (gD r)] = .ok (.nx [some (.lst (gs.map gD)), some (.lst ((out ++ [q]).map gD)), some (gD r)]) → Ot (gSet 2 (gD r) [some (.lst (gs.map gD)), some (.lst (out.map gD)), o2]) fun ρ1 => Oc (l1_law_mended ρ1) (fun ρ => ∃ (out : List GR) (o2 : Option D), ρ = [some (.lst (gs.map gD)), some (.lst (out.map gD)), o2] ∧ (∀ r ∈ out, GOk r) ∧ out.length = (pre ++ [r]).length) noD noE (fun ρ => ∃ (out : List GR) (o2 : Option D), ρ = [some (.lst (gs.map gD)), some (.lst (out.map gD)), o2] ∧ (∀ r ∈ out, GOk r) ∧ out.length = (pre ++ [r]).length) noX := fun q hq key => by
      show Oc (l1_law_mended [some (.lst (gs.map gD)), some (.lst (out.map gD)), some (gD r)]) _ _ _ _ _
      rw [key]
      refine ⟨out ++ [q], _, rfl, fun r' ms => ?_, by rw [List.length_append, List.length_append, ln]; rfl⟩
      rcases List.mem_append.mp ms with ms | ms
      · exact ok r' ms
      · rw [List.mem_singleton.mp ms]; exact hq
    have fin : ∀ q : GR, (out ++ [q]).map gD = out.map gD ++ [gD q] := fun q => by rw [List.map_append]; rfl
    cases hb : bad gs.length r with
    | true =>
      rw [hb] at w
      refine go (.let_ [97]) (by show 1 ≤ 100; omega) ?_
      have g1 : gD (.let_ [97]) = .tup [.str zf5b75010, .str [97]] := rfl
      rw [fin, g1]
      clear go fin
      generalize out.map gD = od at *
      generalize gs.map gD = xs at *
      generalize gD r = rd at *
      exists l1_law_mended, i1_law_mended, sl, w
    | false =>
      rw [hb] at w
      refine go r hr ?_
      rw [fin]
      clear go fin
      generalize out.map gD = od at *
      generalize gs.map gD = xs at *
      generalize gD r = rd at *
      exists l1_law_mended, i1_law_mended, sl, w)
  have gq : gSq (.lst ((gs.take 256).map gD)) = some ((gs.take 256).map gD) := rfl
  have ol : dLen [.lst (out.map gD)] = some (.int (out.length : Nat)) := by rw [dLen_l, List.length_map]
  by_cases c : out.length = 0
  · have z : ((out.length : Nat) : Int) = 0 := by omega
    have oe : out = [] := List.length_eq_zero_iff.mp c
    refine ⟨[.let_ [122]], ?_, fun r m => by rw [List.mem_singleton.mp m]; show 1 ≤ 100; omega, by show 1 ≤ 257; omega⟩
    have g1 : ([GR.let_ [122]]).map gD = [.tup [.str zf5b75010, .str [122]]] := rfl
    rw [g1]
    have od : out.map gD = [] := by rw [oe]; rfl
    rw [od] at e1 ol
    generalize ((out.length : Nat) : Int) = ll at *
    generalize (gs.take 256).map gD = ts at *
    generalize gs.map gD = xs at *
    exists m_law_mended, b_law_mended, sc, gq, e1, i2_law_mended, ol, z
  · have z : ¬ ((out.length : Nat) : Int) = 0 := by omega
    refine ⟨out, ?_, ok, by omega⟩
    generalize ((out.length : Nat) : Int) = ll at *
    generalize out.map gD = od at *
    generalize (gs.take 256).map gD = ts at *
    generalize gs.map gD = xs at *
    exists m_law_mended, b_law_mended, sc, gq, e1, i2_law_mended, ol, z
end K18
set_option linter.all false
set_option maxRecDepth 100000
set_option maxHeartbeats 2000000
namespace K18
open PD PM PU RU RV PV
theorem each_ok {ns : List Int} (hb : ∀ z ∈ ns, PySem.Builtin.Int.intBits z ≤ 1048576) {m : Nat} (h1 : 1 ≤ m) (h2 : m ≤ 200) : ∃ S : RS, m_law_each [.scr ns, .int (m : Nat)] = .ok (.lst (S.map rD)) ∧ S.length = m := by
  obtain ⟨ρ', e, S, o4, o5, o6, rfl, hS⟩ := loop_I (T := gSet 3) (b := l1_law_each) (fun j ρ => ∃ (S : RS) (o4 o5 o6 : Option D), ρ = [some (.scr ns), some (nD m), some (.lst (S.map rD)), o4, o5, o6] ∧ S.length = j)
    (rngL 0 m) [some (.scr ns), some (nD m), some (.lst []), none, none, none]
    ⟨[], none, none, none, rfl, rfl⟩ (by
    rintro j dd ρ hjd ⟨S, o4, o5, o6, rfl, hS⟩
    obtain ⟨hjz, rfl⟩ := rngL_get hjd
    rw [Int.zero_add]
    have ce := cell_ok ns (4 + j)
    rw [show ((4 + j : Nat) : Int) = 4 + (j : Int) by omega] at ce
    obtain ⟨ds, dr, hf⟩ := draws_ok (ns.getD (4 + j) 0 + (j : Int)) [5, 26, (m : Int), (m : Int), 127] (cell_add hb _ _ (by omega)) (fun s ms => by
      simp only [List.mem_cons, List.mem_nil_iff, or_false] at ms
      rcases ms with rfl | rfl | rfl | rfl | rfl <;> omega) (show 5 ≤ 10000 by omega)
    obtain ⟨x0, x1, x2, x3, x4, rfl, b0, b1, b2, b3, b4⟩ := fits5 hf
    have dr : m_law_draws [.int (ns.getD (4 + j) 0 + (j : Int)), .lst [.int 5, .int 26, .int (m : Nat), .int (m : Nat), .int 127]] = .ok (oneD x0 x1 x2 x3 x4) := dr
    have i0 : dIx (oneD x0 x1 x2 x3 x4) (.int 0) = some (.int (x0 : Nat)) := r_ixn (k := 0)
    have i1 : dIx (oneD x0 x1 x2 x3 x4) (.int 1) = some (.int (x1 : Nat)) := r_ixn (k := 1)
    have i2 : dIx (oneD x0 x1 x2 x3 x4) (.int 2) = some (nD x2) := r_ixn (k := 2)
    have i3 : dIx (oneD x0 x1 x2 x3 x4) (.int 3) = some (nD x3) := r_ixn (k := 3)
    have i4 : dIx (oneD x0 x1 x2 x3 x4) (.int 4) = some (.int (x4 : Nat)) := r_ixn (k := 4)
    have d5 : dLst [.int 5, .int 26, .int (m : Nat), .int (m : Nat), .int 127] = some (.lst [.int 5, .int 26, .int (m : Nat), .int (m : Nat), .int 127]) := dLst_ok (by rw [LNe]; show 5 ≤ 1000000; omega)
    obtain ⟨c, ec, hc1, hc2⟩ := letter_ok (x1 : Int)
    have ay : (2 : Int) + (x4 : Nat) = ((2 + x4 : Nat) : Int) := by omega
    have rl : (S.map rD).length < 1000000 := by rw [List.length_map]; omega
    have go : ∀ q : Rl, l1_law_each [some (.scr ns), some (nD m), some (.lst (S.map rD)), some (nD j), o5, o6] = .ok (.nx [some (.scr ns), some (nD m), some (.lst ((S ++ [q]).map rD)), some (nD j), some (oneD x0 x1 x2 x3 x4), some (rD q)]) → Ot (gSet 3 (.int (j : Nat)) [some (.scr ns), some (nD m), some (.lst (S.map rD)), o4, o5, o6]) fun ρ1 => Oc (l1_law_each ρ1) (fun ρ => ∃ (S : RS) (o4 o5 o6 : Option D), ρ = [some (.scr ns), some (nD m), some (.lst (S.map rD)), o4, o5, o6] ∧ S.length = j + 1) noD noE (fun ρ => ∃ (S : RS) (o4 o5 o6 : Option D), ρ = [some (.scr ns), some (nD m), some (.lst (S.map rD)), o4, o5, o6] ∧ S.length = j + 1) noX := fun q key => by
      show Oc (l1_law_each [some (.scr ns), some (nD m), some (.lst (S.map rD)), some (nD j), o5, o6]) _ _ _ _ _
      rw [key]
      exact ⟨S ++ [q], _, _, _, rfl, by rw [List.length_append, hS]; rfl⟩
    have fin : ∀ q : Rl, (S ++ [q]).map rD = S.map rD ++ [rD q] := fun q => by rw [List.map_append]; rfl
    by_cases c4 : ((x0 : Nat) : Int) = 4
    · refine go (.pow x2 (2 + x4)) ?_
      have c1 : (1 : Int) < (x0 : Nat) := by omega
      have g1 : rD (.pow x2 (2 + x4)) = .tup [.str z62cd2759, nD x2, .int ((2 + x4 : Nat) : Int)] := rfl
      rw [fin, g1]
      clear go fin
      generalize S.map rD = SD at *
      generalize nD x2 = d2 at *
      generalize nD x3 = d3 at *
      generalize oneD x0 x1 x2 x3 x4 = od at *
      exists l1_law_each, ce, d5, dr, i0, i1, i2, i3, i4, ec, i1_law_each, c1, i2_law_each, c4, ay
    · by_cases c1 : (1 : Int) < (x0 : Nat)
      · refine go (.pair x2 x3) ?_
        have g1 : rD (.pair x2 x3) = .tup [.str z33c9b363, nD x2, nD x3] := rfl
        rw [fin, g1]
        clear go fin
        generalize S.map rD = SD at *
        generalize nD x2 = d2 at *
        generalize nD x3 = d3 at *
        generalize oneD x0 x1 x2 x3 x4 = od at *
        exists l1_law_each, ce, d5, dr, i0, i1, i2, i3, i4, ec, i1_law_each, c1, i2_law_each, c4
      · refine go (.let_ c) ?_
        have g1 : rD (.let_ c) = .tup [.str zf5b75010, .str [c]] := rfl
        rw [fin, g1]
        clear go fin
        generalize S.map rD = SD at *
        generalize oneD x0 x1 x2 x3 x4 = od at *
        exists l1_law_each, ce, d5, dr, i0, i1, i2, i3, i4, ec, i1_law_each, c1, i2_law_each, c4)
  rw [rngL_length] at hS
  refine ⟨S, ?_, hS⟩
  have r1 : gR1 [.int ((m : Nat) : Int)] = some (rngL 0 m) := r_R1n (by omega)
  generalize S.map rD = SD at *
  generalize rngL 0 m = RG at *
  exists m_law_each, b_law_each, r1, e
end K18
set_option linter.all false
set_option maxRecDepth 100000
set_option maxHeartbeats 2000000
namespace K18
open PD PM PU RU RV PV
theorem sign_ok (n : Int) : ∃ c, m_law_sign [.int n] = .ok (.str [c]) := by
  have md : dMod (.int n) (.int 96) = some (.int (n % 96)) := dMod_i (by omega)
  have h0 : 0 ≤ n % 96 := Int.emod_nonneg n (by omega)
  have h1 : n % 96 < 96 := Int.emod_lt_of_pos n (by omega)
  have ad : dAdd (.str z7109b8bd) (.str zb9801bfe) = some (.str (z7109b8bd ++ zb9801bfe)) := r_add_s (by show 64 + 32 ≤ 1000000; omega)
  have ln : (z7109b8bd ++ zb9801bfe).length = 96 := rfl
  obtain ⟨c, hc⟩ : ∃ c, (z7109b8bd ++ zb9801bfe)[(n % 96).toNat]? = some c := ⟨_, List.getElem?_eq_getElem (by rw [ln]; omega)⟩
  have ix : dIx (.str (z7109b8bd ++ zb9801bfe)) (.int (n % 96)) = some (.str [c]) := dIx_s (by rw [ln, LNe]; omega) h0 hc
  refine ⟨c, ?_⟩
  generalize z7109b8bd ++ zb9801bfe = zz at *
  generalize n % 96 = m at *
  exists m_law_sign, b_law_sign, ad, md, ix
theorem ten_ok (v0 v1 v2 v3 v4 v5 v6 v7 v8 v9 : Int) {k : Nat} (h : k < 10) : ∃ v : Int, dIx (.lst [.int v0, .int v1, .int v2, .int v3, .int v4, .int v5, .int v6, .int v7, .int v8, .int v9]) (.int (k : Nat)) = some (.int v) := by
  obtain ⟨v, e, _⟩ := ix_mem (xs := [v0, v1, v2, v3, v4, v5, v6, v7, v8, v9]) (i := (k : Nat)) (by omega) (by show ((k : Nat) : Int) < ((10 : Nat) : Int); omega)
  exact ⟨v, e⟩
theorem six_ok (a b : Nat) {k : Nat} (h : k < 6) : ∃ s : List Nat, dIx (.lst [.str [], .str [b], .str [a, b], .str [b, a], .str [a, a], .str [a]]) (.int (k : Nat)) = some (.str s) ∧ s.length ≤ 100 := by
  have c : k = 0 ∨ k = 1 ∨ k = 2 ∨ k = 3 ∨ k = 4 ∨ k = 5 := by omega
  rcases c with rfl | rfl | rfl | rfl | rfl | rfl
  · exact ⟨[], r_ixn, by simp⟩
  · exact ⟨[b], r_ixn, by simp⟩
  · exact ⟨[a, b], r_ixn, by simp⟩
  · exact ⟨[b, a], r_ixn, by simp⟩
  · exact ⟨[a, a], r_ixn, by simp⟩
  · exact ⟨[a], r_ixn, by simp⟩
theorem fits9 {ds : List Int} {a0 a1 a2 a3 a4 a5 a6 a7 a8 : Int} (h : Fits ds [a0, a1, a2, a3, a4, a5, a6, a7, a8]) : ∃ x0 x1 x2 x3 x4 x5 x6 x7 x8 : Nat, ds = [(x0 : Int), (x1 : Int), (x2 : Int), (x3 : Int), (x4 : Int), (x5 : Int), (x6 : Int), (x7 : Int), (x8 : Int)] ∧ (x0 : Int) < a0 ∧ (x2 : Int) < a2 ∧ (x3 : Int) < a3 ∧ (x4 : Int) < a4 ∧ (x5 : Int) < a5 := by
  match ds, h with
  | [y0, y1, y2, y3, y4, y5, y6, y7, y8], ⟨h0, h1, h2, h3, h4, h5, h6, h7, h8, _⟩ =>
    refine ⟨y0.toNat, y1.toNat, y2.toNat, y3.toNat, y4.toNat, y5.toNat, y6.toNat, y7.toNat, y8.toNat, ?_, by omega, by omega, by omega, by omega, by omega⟩
    rw [show ((y0.toNat : Nat) : Int) = y0 by omega, show ((y1.toNat : Nat) : Int) = y1 by omega, show ((y2.toNat : Nat) : Int) = y2 by omega, show ((y3.toNat : Nat) : Int) = y3 by omega, show ((y4.toNat : Nat) : Int) = y4 by omega, show ((y5.toNat : Nat) : Int) = y5 by omega, show ((y6.toNat : Nat) : Int) = y6 by omega, show ((y7.toNat : Nat) : Int) = y7 by omega, show ((y8.toNat : Nat) : Int) = y8 by omega]
noncomputable def nineD (x0 x1 x2 x3 x4 x5 x6 x7 x8 : Nat) : D := .lst [nD x0, nD x1, nD x2, nD x3, nD x4, nD x5, nD x6, nD x7, nD x8]
theorem spoilt_ok {gs : List GR} (h : ∀ r ∈ gs, GOk r) (hl : gs.length ≤ 1000) (n : Int) (hn : n.natAbs.log2 ≤ 2000000) : ∃ gs' : List GR, m_law_spoilt [.lst (gs.map gD), .int n] = .ok (.lst (gs'.map gD)) ∧ (∀ r ∈ gs', GOk r) ∧ gs'.length = gs.length := by
  have sl : dLen [.lst (gs.map gD)] = some (.int (gs.length : Nat)) := by rw [dLen_l, List.length_map]
  by_cases c0 : gs.length = 0
  · refine ⟨[], ?_, (fun r m => nomatch m), by rw [c0]; rfl⟩
    have z : ((gs.length : Nat) : Int) = 0 := by omega
    have e : ([] : List GR).map gD = [] := rfl
    rw [e]
    generalize ((gs.length : Nat) : Int) = ll at *
    generalize gs.map gD = xs at *
    exists m_law_spoilt, b_law_spoilt, sl, i1_law_spoilt, z
  · have z : ¬ ((gs.length : Nat) : Int) = 0 := by omega
    obtain ⟨ds, dr, hf⟩ := draws_ok n [((gs.length : Nat) : Int), 3, 10, 10, 10, 6, 96, 26, 1000] hn (fun s ms => by
      simp only [List.mem_cons, List.mem_nil_iff, or_false] at ms
      rcases ms with rfl | rfl | rfl | rfl | rfl | rfl | rfl | rfl | rfl <;> omega) (show 9 ≤ 10000 by omega)
    obtain ⟨x0, x1, x2, x3, x4, x5, x6, x7, x8, rfl, b0, b2, b3, b4, b5⟩ := fits9 hf
    have dr : m_law_draws [.int n, .lst [.int (gs.length : Nat), .int 3, .int 10, .int 10, .int 10, .int 6, .int 96, .int 26, .int 1000]] = .ok (nineD x0 x1 x2 x3 x4 x5 x6 x7 x8) := dr
    have d9 : dLst [.int (gs.length : Nat), .int 3, .int 10, .int 10, .int 10, .int 6, .int 96, .int 26, .int 1000] = some (.lst [.int (gs.length : Nat), .int 3, .int 10, .int 10, .int 10, .int 6, .int 96, .int 26, .int 1000]) := dLst_ok (by rw [LNe]; show 9 ≤ 1000000; omega)
    have i0 : dIx (nineD x0 x1 x2 x3 x4 x5 x6 x7 x8) (.int 0) = some (.int (x0 : Nat)) := r_ixn (k := 0)
    have i1 : dIx (nineD x0 x1 x2 x3 x4 x5 x6 x7 x8) (.int 1) = some (.int (x1 : Nat)) := r_ixn (k := 1)
    have i2 : dIx (nineD x0 x1 x2 x3 x4 x5 x6 x7 x8) (.int 2) = some (.int (x2 : Nat)) := r_ixn (k := 2)
    have i3 : dIx (nineD x0 x1 x2 x3 x4 x5 x6 x7 x8) (.int 3) = some (.int (x3 : Nat)) := r_ixn (k := 3)
    have i4 : dIx (nineD x0 x1 x2 x3 x4 x5 x6 x7 x8) (.int 4) = some (.int (x4 : Nat)) := r_ixn (k := 4)
    have i5 : dIx (nineD x0 x1 x2 x3 x4 x5 x6 x7 x8) (.int 5) = some (.int (x5 : Nat)) := r_ixn (k := 5)
    have i6 : dIx (nineD x0 x1 x2 x3 x4 x5 x6 x7 x8) (.int 6) = some (.int (x6 : Nat)) := r_ixn (k := 6)
    have i7 : dIx (nineD x0 x1 x2 x3 x4 x5 x6 x7 x8) (.int 7) = some (.int (x7 : Nat)) := r_ixn (k := 7)
    have i8 : dIx (nineD x0 x1 x2 x3 x4 x5 x6 x7 x8) (.int 8) = some (.int (x8 : Nat)) := r_ixn (k := 8)
    have dv : dDiv (.int (gs.length : Nat)) (.int 2) = some (.int (((gs.length : Nat) : Int) / 2)) := r_div (by omega) (by omega)
    have md : dMod (.int (x8 : Nat)) (.int (gs.length : Nat)) = some (.int ((x8 : Nat) % (gs.length : Nat))) := dMod_i (by omega)
    have md2 : dMod (.int (x8 : Nat)) (.int 127) = some (.int ((x8 : Nat) % 127)) := dMod_i (by omega)
    have md7 : dMod (.int (x2 : Nat)) (.int 7) = some (.int ((x2 % 7 : Nat) : Int)) := by rw [dMod_i (by omega)]; rfl
    have pw : dPow (.int 10) (.int 30) = some (.int (10 ^ 30)) := dPow_i ⟨by omega, by omega, by decide⟩
    obtain ⟨c, ec, _⟩ := letter_ok (x7 : Int)
    obtain ⟨d, ed⟩ := sign_ok (x6 : Int)
    obtain ⟨s, es, ls⟩ := six_ok c d (k := x5) (by omega)
    have a1 : dAdd (.str [c]) (.str [d]) = some (.str [c, d]) := r_add_s (by show 1 + 1 ≤ 1000000; omega)
    have a2 : dAdd (.str [d]) (.str [c]) = some (.str [d, c]) := r_add_s (by show 1 + 1 ≤ 1000000; omega)
    have a3 : dAdd (.str [c]) (.str [c]) = some (.str [c, c]) := r_add_s (by show 1 + 1 ≤ 1000000; omega)
    obtain ⟨p, ep⟩ := ten_ok 0 ((gs.length : Nat) - 1) (x0 : Nat) (((gs.length : Nat) : Int) / 2) ((x8 : Nat) % (gs.length : Nat)) (gs.length : Nat) (-1) ((gs.length : Nat) + 1) (10 ^ 30) (-1 - (x8 : Nat)) (k := x2) (by omega)
    obtain ⟨q, eq⟩ := ten_ok 0 ((gs.length : Nat) - 1) (x0 : Nat) (((gs.length : Nat) : Int) / 2) ((x8 : Nat) % (gs.length : Nat)) (gs.length : Nat) (-1) ((gs.length : Nat) + 1) (10 ^ 30) (-1 - (x8 : Nat)) (k := x3) (by omega)
    obtain ⟨p7, ep7⟩ := ten_ok 0 ((gs.length : Nat) - 1) (x0 : Nat) (((gs.length : Nat) : Int) / 2) ((x8 : Nat) % (gs.length : Nat)) (gs.length : Nat) (-1) ((gs.length : Nat) + 1) (10 ^ 30) (-1 - (x8 : Nat)) (k := x2 % 7) (by omega)
    obtain ⟨t, et⟩ := ten_ok 2 128 3 (2 + (x8 : Nat) % 127) 1 129 0 (-1 - (x8 : Nat)) 1000 1 (k := x4) (by omega)
    have l10 : ∀ v0 v1 v2 v3 v4 v5 v6 v7 v8 v9 : Int, dLst [.int v0, .int v1, .int v2, .int v3, .int v4, .int v5, .int v6, .int v7, .int v8, .int v9] = some (.lst [.int v0, .int v1, .int v2, .int v3, .int v4, .int v5, .int v6, .int v7, .int v8, .int v9]) := fun v0 v1 v2 v3 v4 v5 v6 v7 v8 v9 => dLst_ok (by rw [LNe]; show 10 ≤ 1000000; omega)
    have l6 : dLst [.str [], .str [d], .str [c, d], .str [d, c], .str [c, c], .str [c]] = some (.lst [.str [], .str [d], .str [c, d], .str [d, c], .str [c, c], .str [c]]) := dLst_ok (by rw [LNe]; show 6 ≤ 1000000; omega)
    have s1 : dSl (.lst (gs.map gD)) none (some ((x0 : Nat) : Int)) = some (.lst ((gs.take x0).map gD)) := by
      rw [dSl_l, cut_to (by omega), Int.toNat_natCast, ← List.map_take]
    have s2 : dSl (.lst (gs.map gD)) (some (((x0 : Nat) : Int) + 1)) none = some (.lst ((gs.drop (x0 + 1)).map gD)) := by
      rw [dSl_l, cut_from (by omega), show (((x0 : Nat) : Int) + 1).toNat = x0 + 1 by omega, ← List.map_drop]
    have tk : (gs.take x0).length ≤ 1000 := by rw [List.length_take]; omega
    have dk : (gs.drop (x0 + 1)).length ≤ 1000 := by rw [List.length_drop]; omega
    have fin : ∀ r : GR, GOk r → m_law_spoilt [.lst (gs.map gD), .int n] = .ok (.lst (((gs.take x0 ++ [r]) ++ gs.drop (x0 + 1)).map gD)) → ∃ gs' : List GR, m_law_spoilt [.lst (gs.map gD), .int n] = .ok (.lst (gs'.map gD)) ∧ (∀ r ∈ gs', GOk r) ∧ gs'.length = gs.length := fun r hr key => by
      refine ⟨_, key, fun r' m => ?_, ?_⟩
      · rcases List.mem_append.mp m with m | m
        · rcases List.mem_append.mp m with m | m
          · exact h r' (List.mem_of_mem_take m)
          · rw [List.mem_singleton.mp m]; exact hr
        · exact h r' (List.mem_of_mem_drop m)
      · rw [List.length_append, List.length_append, List.length_take, List.length_drop, List.length_singleton]
        omega
    have mp : ∀ r : GR, ((gs.take x0 ++ [r]) ++ gs.drop (x0 + 1)).map gD = ((gs.take x0).map gD ++ [gD r]) ++ (gs.drop (x0 + 1)).map gD := fun r => by rw [List.map_append, List.map_append]; rfl
    have a4 : ∀ y : D, dAdd (.lst ((gs.take x0).map gD)) (.lst [y]) = some (.lst ((gs.take x0).map gD ++ [y])) := fun y => r_add_l (by rw [List.length_map]; show _ + 1 ≤ _; omega)
    have a5 : ∀ y : D, dAdd (.lst ((gs.take x0).map gD ++ [y])) (.lst ((gs.drop (x0 + 1)).map gD)) = some (.lst (((gs.take x0).map gD ++ [y]) ++ (gs.drop (x0 + 1)).map gD)) := fun y => r_add_l (by
      rw [List.length_append, List.length_map, List.length_map]
      show _ + 1 + _ ≤ _
      omega)
    by_cases k1 : ((x1 : Nat) : Int) = 1
    · have k2 : ¬ ((x1 : Nat) : Int) = 2 := by omega
      refine fin (.pair p q) trivial ?_
      have g1 : gD (.pair p q) = .tup [.str z33c9b363, .int p, .int q] := rfl
      rw [mp, g1]
      clear fin mp hf
      generalize ((x8 : Nat) : Int) % 127 = m1 at *
      generalize ((x8 : Nat) : Int) % (gs.length : Nat) = m2 at *
      generalize ((gs.length : Nat) : Int) / 2 = m3 at *
      generalize (10 : Int) ^ 30 = big at *
      generalize (gs.take x0).map gD = A at *
      generalize (gs.drop (x0 + 1)).map gD = B at *
      generalize nineD x0 x1 x2 x3 x4 x5 x6 x7 x8 = nd at *
      generalize gs.map gD = xs at *
      exists m_law_spoilt, b_law_spoilt, sl, i1_law_spoilt, z, d9, dr, i0, i1, i2, i3, i4, i5, i6, i7, i8, dv, md, md2, pw, l10, ec, ed, a1, a2, a3, l6, es, i2_law_spoilt, k1, ep, eq, i3_law_spoilt, k2, s1, s2, a4, a5
    · by_cases k2 : ((x1 : Nat) : Int) = 2
      · refine fin (.pow p7 t) trivial ?_
        have g1 : gD (.pow p7 t) = .tup [.str z62cd2759, .int p7, .int t] := rfl
        rw [mp, g1]
        clear fin mp hf
        generalize ((x8 : Nat) : Int) % 127 = m1 at *
        generalize ((x8 : Nat) : Int) % (gs.length : Nat) = m2 at *
        generalize ((gs.length : Nat) : Int) / 2 = m3 at *
        generalize (10 : Int) ^ 30 = big at *
        generalize (gs.take x0).map gD = A at *
        generalize (gs.drop (x0 + 1)).map gD = B at *
        generalize nineD x0 x1 x2 x3 x4 x5 x6 x7 x8 = nd at *
        generalize gs.map gD = xs at *
        generalize x2 % 7 = x27 at *
        exists m_law_spoilt, b_law_spoilt, sl, i1_law_spoilt, z, d9, dr, i0, i1, i2, i3, i4, i5, i6, i7, i8, dv, md, md2, md7, pw, l10, ec, ed, a1, a2, a3, l6, es, i2_law_spoilt, k1, i3_law_spoilt, k2, ep7, et, s1, s2, a4, a5
      · refine fin (.let_ s) ls ?_
        have g1 : gD (.let_ s) = .tup [.str zf5b75010, .str s] := rfl
        rw [mp, g1]
        clear fin mp hf
        generalize ((x8 : Nat) : Int) % 127 = m1 at *
        generalize ((x8 : Nat) : Int) % (gs.length : Nat) = m2 at *
        generalize ((gs.length : Nat) : Int) / 2 = m3 at *
        generalize (10 : Int) ^ 30 = big at *
        generalize (gs.take x0).map gD = A at *
        generalize (gs.drop (x0 + 1)).map gD = B at *
        generalize nineD x0 x1 x2 x3 x4 x5 x6 x7 x8 = nd at *
        generalize gs.map gD = xs at *
        exists m_law_spoilt, b_law_spoilt, sl, i1_law_spoilt, z, d9, dr, i0, i1, i2, i3, i4, i5, i6, i7, i8, dv, md, md2, pw, l10, ec, ed, a1, a2, a3, l6, es, i2_law_spoilt, k1, i3_law_spoilt, k2, s1, s2, a4, a5
end K18
set_option linter.all false
set_option maxRecDepth 100000
set_option maxHeartbeats 2000000
namespace K18
open PD PM PU RU RV PV
noncomputable def LD (gs : List GR) : D := .lst (gs.map gD)
theorem fits7 {ds : List Int} {a0 a1 a2 a3 a4 a5 a6 : Int} (h : Fits ds [a0, a1, a2, a3, a4, a5, a6]) : ∃ x0 x1 x2 x3 x4 x5 x6 : Nat, ds = [(x0 : Int), (x1 : Int), (x2 : Int), (x3 : Int), (x4 : Int), (x5 : Int), (x6 : Int)] ∧ (x0 : Int) < a0 ∧ (x2 : Int) < a2 ∧ (x3 : Int) < a3 ∧ (x4 : Int) < a4 := by
  match ds, h with
  | [y0, y1, y2, y3, y4, y5, y6], ⟨h0, h1, h2, h3, h4, h5, h6, _⟩ =>
    refine ⟨y0.toNat, y1.toNat, y2.toNat, y3.toNat, y4.toNat, y5.toNat, y6.toNat, ?_, by omega, by omega, by omega, by omega⟩
    rw [show ((y0.toNat : Nat) : Int) = y0 by omega, show ((y1.toNat : Nat) : Int) = y1 by omega, show ((y2.toNat : Nat) : Int) = y2 by omega, show ((y3.toNat : Nat) : Int) = y3 by omega, show ((y4.toNat : Nat) : Int) = y4 by omega, show ((y5.toNat : Nat) : Int) = y5 by omega, show ((y6.toNat : Nat) : Int) = y6 by omega]
noncomputable def sevD (x0 x1 x2 x3 x4 x5 x6 : Nat) : D := .lst [nD x0, nD x1, nD x2, nD x3, nD x4, nD x5, nD x6]
/-! ### the drawn rules -/
theorem pick1_ok {ns : List Int} (hb : ∀ z ∈ ns, PySem.Builtin.Int.intBits z ≤ 1048576) {x0 x1 x2 x3 x4 x5 x6 : Nat} {gs : List GR} (h : ∀ r ∈ gs, GOk r) (hl : gs.length ≤ 300) {ρ : Env} :
    ∃ gs' : List GR, (∀ r ∈ gs', GOk r) ∧ gs'.length ≤ 300 ∧ i1_law (some (.scr ns) :: some (sevD x0 x1 x2 x3 x4 x5 x6) :: some (LD gs) :: ρ) = .ok (.nx (some (.scr ns) :: some (sevD x0 x1 x2 x3 x4 x5 x6) :: some (LD gs') :: ρ)) := by
  have i1 : dIx (sevD x0 x1 x2 x3 x4 x5 x6) (.int 1) = some (.int (x1 : Nat)) := r_ixn (k := 1)
  have i5 : dIx (sevD x0 x1 x2 x3 x4 x5 x6) (.int 5) = some (.int (x5 : Nat)) := r_ixn (k := 5)
  have i6 : dIx (sevD x0 x1 x2 x3 x4 x5 x6) (.int 6) = some (.int (x6 : Nat)) := r_ixn (k := 6)
  by_cases c : (13 : Int) < (x1 : Nat)
  · obtain ⟨sz, es, s1, s2⟩ := size_ok (x5 : Int) (x6 : Int) 40 (by omega)
    obtain ⟨m, rfl⟩ : ∃ m : Nat, sz = m := ⟨sz.toNat, by omega⟩
    obtain ⟨S, e, l⟩ := each_ok hb (m := m) (by omega) (by omega)
    rw [toG_map] at e
    refine ⟨S.map toG, toGs_ok, by rw [List.length_map]; omega, ?_⟩
    have e : m_law_each [.scr ns, .int (m : Nat)] = .ok (LD (S.map toG)) := e
    generalize LD (S.map toG) = TD at *
    generalize LD gs = SD at *
    generalize sevD x0 x1 x2 x3 x4 x5 x6 = dd at *
    exists i1_law, i1, c, i5, i6, es, e
  · refine ⟨gs, h, hl, ?_⟩
    generalize LD gs = SD at *
    generalize sevD x0 x1 x2 x3 x4 x5 x6 = dd at *
    exists i1_law, i1, c
theorem pick2_ok {s : D} {x0 x1 x2 x3 x4 x5 x6 : Nat} {gs : List GR} (h : ∀ r ∈ gs, GOk r) (hl : gs.length ≤ 300) {ρ : Env} :
    ∃ gs' : List GR, (∀ r ∈ gs', GOk r) ∧ gs'.length ≤ 300 ∧ i2_law (some s :: some (sevD x0 x1 x2 x3 x4 x5 x6) :: some (LD gs) :: ρ) = .ok (.nx (some s :: some (sevD x0 x1 x2 x3 x4 x5 x6) :: some (LD gs') :: ρ)) := by
  have i1 : dIx (sevD x0 x1 x2 x3 x4 x5 x6) (.int 1) = some (.int (x1 : Nat)) := r_ixn (k := 1)
  by_cases c : ((x1 : Nat) : Int) = 0
  · refine ⟨[], (fun r m => nomatch m), by show 0 ≤ 300; omega, ?_⟩
    have e : LD [] = .lst [] := rfl
    rw [e]
    generalize LD gs = SD at *
    generalize sevD x0 x1 x2 x3 x4 x5 x6 = dd at *
    exists i2_law, i1, c
  · refine ⟨gs, h, hl, ?_⟩
    generalize LD gs = SD at *
    generalize sevD x0 x1 x2 x3 x4 x5 x6 = dd at *
    exists i2_law, i1, c
theorem pick3_ok {s : D} {x0 x1 x2 x3 x4 x5 x6 : Nat} (h2 : x2 < 5) (h3 : x3 < 26) (h4 : x4 < 12) {gs : List GR} (h : ∀ r ∈ gs, GOk r) (hl : gs.length ≤ 300) :
    ∃ gs' : List GR, (∀ r ∈ gs', GOk r) ∧ gs'.length ≤ 300 ∧ i3_law [some s, some (sevD x0 x1 x2 x3 x4 x5 x6), some (LD gs), none, none, none, none, none, none, none, none] = .ok (.nx [some s, some (sevD x0 x1 x2 x3 x4 x5 x6), some (LD gs'), none, none, none, none, none, none, none, none]) := by
  have i1 : dIx (sevD x0 x1 x2 x3 x4 x5 x6) (.int 1) = some (.int (x1 : Nat)) := r_ixn (k := 1)
  have i2 : dIx (sevD x0 x1 x2 x3 x4 x5 x6) (.int 2) = some (.int (x2 : Nat)) := r_ixn (k := 2)
  have i3 : dIx (sevD x0 x1 x2 x3 x4 x5 x6) (.int 3) = some (.int (x3 : Nat)) := r_ixn (k := 3)
  have i4 : dIx (sevD x0 x1 x2 x3 x4 x5 x6) (.int 4) = some (.int (x4 : Nat)) := r_ixn (k := 4)
  by_cases c : ((x1 : Nat) : Int) = 1 ∨ ((x1 : Nat) : Int) = 2
  · have ex : ∀ k : Nat, ∃ c, m_law_letter [.int ((x3 : Nat) + (k : Nat) * (x4 : Nat))] = .ok (.str [c]) ∧ 97 ≤ c ∧ c ≤ 122 := fun k => letter_ok _
    obtain ⟨f, hf⟩ := Classical.axiomOfChoice ex
    have lc := lc_fm (T := gSet 8) (ft := mYes) (fe := mN dTup (mCons (mC (.str zf5b75010)) (mCons (mCall 1 m_law_letter (mCons (m2 dAdd (m2 dIx (mV 1) (mC (.int 3))) (m2 dMul (mV 8) (m2 dIx (mV 1) (mC (.int 4))))) mNil)) mNil))) (ρ := [some s, some (sevD x0 x1 x2 x3 x4 x5 x6), some (LD gs), none, none, none, none, none, none, none, none]) (fun k : Nat => D.int (0 + (k : Nat))) (fun _ => true) (fun k => gD (.let_ [f k])) (xs := List.range (254 + x2)) (fun k m => ⟨[some s, some (sevD x0 x1 x2 x3 x4 x5 x6), some (LD gs), none, none, none, none, none, some (.int (0 + (k : Nat))), none, none], rfl, rfl, (fun _ => by
      have kt := List.mem_range.mp m
      have z : (0 : Int) + (k : Nat) = (k : Nat) := by omega
      rw [z]
      have mk : dMul (.int (k : Nat)) (.int (x4 : Nat)) = some (.int ((k : Nat) * (x4 : Nat))) := r_mul (by omega) (by omega) (by omega) (by omega)
      have le := (hf k).1
      have g1 : gD (.let_ [f k]) = .tup [.str zf5b75010, .str [f k]] := rfl
      rw [g1]
      generalize f k = c at *
      generalize ((k : Nat) : Int) * ((x4 : Nat) : Int) = kx at *
      generalize LD gs = SD at *
      generalize sevD x0 x1 x2 x3 x4 x5 x6 = dd at *
      exists i3, mk, i4, le)⟩)
    rw [List.filter_eq_self.mpr (fun _ _ => rfl)] at lc
    have rr : rngL 0 (254 + x2) = (List.range (254 + x2)).map fun k : Nat => D.int (0 + (k : Nat)) := rfl
    rw [← rr] at lc
    have kl := kLn_ok (xs := (List.range (254 + x2)).map fun k => gD (.let_ [f k])) (by rw [List.length_map, List.length_range, LNe]; omega)
    have mm : ((List.range (254 + x2)).map fun k => gD (.let_ [f k])) = ((List.range (254 + x2)).map fun k => GR.let_ [f k]).map gD := by rw [List.map_map]; rfl
    rw [mm] at lc kl
    refine ⟨(List.range (254 + x2)).map fun k => GR.let_ [f k], (fun r m => ?_), by rw [List.length_map, List.length_range]; omega, ?_⟩
    · obtain ⟨k, _, rfl⟩ := List.mem_map.mp m
      show 1 ≤ 100
      omega
    · have ad : dAdd (.int 254) (.int (x2 : Nat)) = some (nD (254 + x2)) := by
        have : nD (254 + x2) = .int (254 + (x2 : Nat)) := congrArg D.int (by omega)
        rw [this]; rfl
      have r1 : gR1 [nD (254 + x2)] = some (rngL 0 (254 + x2)) := r_R1n (by omega)
      have w1 : wipeD [some s, some (sevD x0 x1 x2 x3 x4 x5 x6), some (LD gs), none, none, none, none, none, none, none, none] [8] = [some s, some (sevD x0 x1 x2 x3 x4 x5 x6), some (LD gs), none, none, none, none, none, none, none, none] := rfl
      unfold LD at *
      clear hf ex mm rr
      generalize ((List.range (254 + x2)).map fun k => GR.let_ [f k]).map gD = LL at *
      generalize rngL 0 (254 + x2) = RG at *
      generalize nD (254 + x2) = td at *
      generalize gs.map gD = SD at *
      generalize sevD x0 x1 x2 x3 x4 x5 x6 = dd at *
      rcases c with c | c
      · exists i3_law, i1, c, c1_law, i2, ad, r1, w1, lc, kl
      · have c' : ¬ ((x1 : Nat) : Int) = 1 := by omega
        exists i3_law, i1, c', c, c1_law, i2, ad, r1, w1, lc, kl
  · have ca : ¬ ((x1 : Nat) : Int) = 1 := fun z => c (.inl z)
    have cb : ¬ ((x1 : Nat) : Int) = 2 := fun z => c (.inr z)
    refine ⟨gs, h, hl, ?_⟩
    generalize LD gs = SD at *
    generalize sevD x0 x1 x2 x3 x4 x5 x6 = dd at *
    exists i3_law, i1, ca, cb
theorem spl_ok {ns : List Int} (hb : ∀ z ∈ ns, PySem.Builtin.Int.intBits z ≤ 1048576) {d : D} {gs : List GR} (h : ∀ r ∈ gs, GOk r) (hl : gs.length ≤ 300) (n : Nat) :
    ∃ (gs' : List GR) (o3 : Option D), (∀ r ∈ gs', GOk r) ∧ gs'.length ≤ 300 ∧ sLoop (gSet 3) l1_law (rngL 0 n) [some (.scr ns), some d, some (LD gs), none, none, none, none, none, none, none, none] = .ok (.nx [some (.scr ns), some d, some (LD gs'), o3, none, none, none, none, none, none, none]) := by
  obtain ⟨ρ', e, gs', o3, rfl, h', l'⟩ := loop_I (T := gSet 3) (b := l1_law) (fun j ρ => ∃ (gs' : List GR) (o3 : Option D), ρ = [some (.scr ns), some d, some (LD gs'), o3, none, none, none, none, none, none, none] ∧ (∀ r ∈ gs', GOk r) ∧ gs'.length ≤ 300)
    (rngL 0 n) [some (.scr ns), some d, some (LD gs), none, none, none, none, none, none, none, none] ⟨gs, none, rfl, h, hl⟩ (by
    rintro j dd ρ hjd ⟨g, o3, rfl, hg, lg⟩
    obtain ⟨hjz, rfl⟩ := rngL_get hjd
    rw [Int.zero_add]
    have ce := cell_ok ns (2 + j)
    rw [show ((2 + j : Nat) : Int) = 2 + (j : Int) by omega] at ce
    obtain ⟨g', e, hg', lg'⟩ := spoilt_ok hg (by omega) (ns.getD (2 + j) 0) (cell_small hb _)
    have e : m_law_spoilt [LD g, .int (ns.getD (2 + j) 0)] = .ok (LD g') := e
    show Oc (l1_law [some (.scr ns), some d, some (LD g), some (.int (j : Nat)), none, none, none, none, none, none, none]) _ _ _ _ _
    have key : l1_law [some (.scr ns), some d, some (LD g), some (.int (j : Nat)), none, none, none, none, none, none, none] = .ok (.nx [some (.scr ns), some d, some (LD g'), some (.int (j : Nat)), none, none, none, none, none, none, none]) := by
      generalize LD g' = TD at *
      generalize LD g = SD at *
      exists l1_law, ce, e
    rw [key]
    exact ⟨g', _, rfl, hg', by omega⟩)
  exact ⟨gs', o3, h', l', e⟩
/-! ### the four lists -/
theorem gd_S {r : GR} (h : GOk r) : okS 7 (gD r) := by
  cases r with
  | let_ c => exact ⟨by show 2 ≤ _; omega, fun x m => by
      rcases List.mem_cons.mp m with rfl | m
      · trivial
      · rw [List.mem_singleton.mp m]; trivial⟩
  | pair l q => exact ⟨by show 3 ≤ _; omega, fun x m => by
      simp only [List.mem_cons, List.mem_nil_iff, or_false] at m
      rcases m with rfl | rfl | rfl <;> trivial⟩
  | pow p t => exact ⟨by show 3 ≤ _; omega, fun x m => by
      simp only [List.mem_cons, List.mem_nil_iff, or_false] at m
      rcases m with rfl | rfl | rfl <;> trivial⟩
theorem lsame_ok {g : List GR} (hg : ∀ r ∈ g, GOk r) (hl : g.length ≤ 1000) : m_law_same 8 [LD g, LD g] = .ok (.bl true) :=
  same_ok 8 (LD g) ⟨by rw [List.length_map]; omega, fun x m => by
    obtain ⟨r, mr, rfl⟩ := List.mem_map.mp m
    exact gd_S (hg r mr)⟩
theorem t2_ok {A B C : D} {k : Int} {g : List GR} (hg : ∀ r ∈ g, GOk r) (hl : g.length ≤ 1000) (i6 : dIx A (.int k) = some (LD g)) (i5 : dIx B (.int k) = some (LD g)) (i7 : dIx C (.int k) = some (gotD g (outc g))) {o0 o1 o2 o3 o4 o9 o10 : Option D} :
    l2_law [o0, o1, o2, o3, o4, some B, some A, some C, some (.int k), o9, o10] = .ok (.nx [o0, o1, o2, o3, o4, some B, some A, some C, some (.int k), o9, o10]) := by
  have sm := lsame_ok hg hl
  have ho : m_law_holds [gotD g (outc g), LD g] = .ok (.bl true) := holds_ok hg
  generalize LD g = G at *
  generalize gotD g (outc g) = T at *
  exists l2_law, i4_law, i6, i5, sm, i7, ho
theorem noLs_gd : ∀ {gs : List GR}, noLs (gs.map gD) = true
  | [] => rfl
  | r :: rs => by
    rw [List.map_cons]
    show (noL (gD r) && noLs (rs.map gD)) = true
    rw [noLs_gd (gs := rs)]
    cases r <;> rfl
theorem noL_got {gs : List GR} {o : Out} : noL (gotD gs o) = true := by
  cases o with
  | told =>
    show (true && ((noLs (gs.map gD) && true) && true)) = true
    rw [noLs_gd]; rfl
  | bad k => rfl
  | long => rfl
/-! ### the lists are changed -/
theorem row_ok {e1 e2 : D} {f1 f2 : Env → R D} (h1 : ∀ ρ, f1 ρ = .ok e1) (h2 : ∀ ρ, f2 ρ = .ok e2) {L : List (List D)} {k : Nat} (hk : k < L.length) (h4 : L.length = 4) (hL : ∀ l ∈ L, l.length ≤ 1000 + k) {o0 o1 o2 o3 o4 o5 o7 o9 o10 : Option D} :
    ∃ (L' : List (List D)) (o9' : Option D), L'.length = L.length ∧ (∀ l ∈ L', l.length ≤ 1000 + (k + 1)) ∧
    sLLRowK 6 9 (mV 8) f1 f2 sNx [o0, o1, o2, o3, o4, o5, some (.lst (L.map D.lst)), o7, some (.int (k : Nat)), o9, o10] = .ok (.nx [o0, o1, o2, o3, o4, o5, some (.lst (L'.map D.lst)), o7, some (.int (k : Nat)), o9', o10]) := by
  have gk : L[k]? = some L[k] := List.getElem?_eq_getElem hk
  have gm : (L.map D.lst)[k]? = some (.lst L[k]) := by rw [List.getElem?_map, gk]; rfl
  have ix : L2.ixN (L.map D.lst).length (k : Nat) = some k := by
    unfold L2.ixN
    rw [if_pos (by omega), if_pos (by rw [List.length_map]; omega)]; rfl
  have lk := hL L[k] (List.getElem_mem hk)
  refine ⟨L.set k ((L[k] ++ [e1]).set 0 e2), none, by rw [List.length_set], (fun l m => ?_), ?_⟩
  · rcases List.mem_or_eq_of_mem_set m with m | rfl
    · have := hL l m; omega
    · rw [List.length_set, List.length_append, List.length_singleton]; omega
  · unfold sLLRowK
    have gl : getL [o0, o1, o2, o3, o4, o5, some (.lst (L.map D.lst)), o7, some (.int (k : Nat)), o9, o10] 6 = some (L.map D.lst) := rfl
    rw [gl]
    have mv : mV 8 [o0, o1, o2, o3, o4, o5, some (.lst (L.map D.lst)), o7, some (.int (k : Nat)), o9, o10] = .ok (.int (k : Nat)) := rfl
    dsimp only
    rw [mv]
    show (match L2.ixN (L.map D.lst).length (k : Nat) with
      | some m => _
      | none => _) = _
    rw [ix]
    dsimp only
    rw [gm]
    dsimp only
    rw [h1]
    dsimp only [liftE]
    rw [if_pos (by show _ < 1000000; omega), h2]
    dsimp only [liftE]
    rw [List.set_set, List.set_set, List.map_set]
    rfl
theorem rows_ok {B C s d r m4 : D} {o3 : Option D} {L : List (List D)} (hL : L.length = 4) (hb : ∀ l ∈ L, l.length ≤ 1000) {o8 o9 o10 : Option D} :
    ∃ (A' : D) (o8' o9' : Option D), sLoop (gSet 8) l3_law (rngL 0 4) [some s, some d, some r, o3, some m4, some B, some (.lst (L.map D.lst)), some C, o8, o9, o10] = .ok (.nx [some s, some d, some r, o3, some m4, some B, some A', some C, o8', o9', o10]) := by
  obtain ⟨ρ', e, L', o8', o9', rfl, _, _⟩ := loop_I (T := gSet 8) (b := l3_law) (fun j ρ => ∃ (L : List (List D)) (o8 o9 : Option D), ρ = [some s, some d, some r, o3, some m4, some B, some (.lst (L.map D.lst)), some C, o8, o9, o10] ∧ L.length = 4 ∧ ∀ l ∈ L, l.length ≤ 1000 + j)
    (rngL 0 4) [some s, some d, some r, o3, some m4, some B, some (.lst (L.map D.lst)), some C, o8, o9, o10] ⟨L, o8, o9, rfl, hL, hb⟩ (by
    rintro j dd ρ hjd ⟨L, o8, o9, rfl, hL, hb⟩
    obtain ⟨hjz, rfl⟩ := rngL_get hjd
    rw [Int.zero_add]
    obtain ⟨L', o9', l1, l2, key⟩ := row_ok (e1 := .tup [.str zf5b75010, .str [113]]) (e2 := .tup [.str z33c9b363, .int 0, .int 0]) (f1 := mN dTup (mCons (mC (.str zf5b75010)) (mCons (mC (.str [113])) mNil))) (f2 := mN dTup (mCons (mC (.str z33c9b363)) (mCons (mC (.int 0)) (mCons (mC (.int 0)) mNil)))) (fun _ => rfl) (fun _ => rfl) (L := L) (k := j) (by omega) hL hb (o0 := some s) (o1 := some d) (o2 := some r) (o3 := o3) (o4 := some m4) (o5 := some B) (o7 := some C) (o9 := o9) (o10 := o10)
    show Oc (l3_law [some s, some d, some r, o3, some m4, some B, some (.lst (L.map D.lst)), some C, some (.int (j : Nat)), o9, o10]) _ _ _ _ _
    have key : l3_law [some s, some d, some r, o3, some m4, some B, some (.lst (L.map D.lst)), some C, some (.int (j : Nat)), o9, o10] = _ := key
    rw [key]
    exact ⟨L', _, _, rfl, by omega, l2⟩)
  exact ⟨_, o8', o9', e⟩
theorem law_ok : ∀ ns : List Int, ns.length ≤ 63 → (∀ z ∈ ns, PySem.Builtin.Int.intBits z ≤ 1048576) → m_law [.scr ns] = .ok (.bl true) := by
  intro ns _ hb
  have ce0 : m_law_cell [.scr ns, .int 0] = _ := cell_ok ns 0
  have ce1 : m_law_cell [.scr ns, .int 1] = _ := cell_ok ns 1
  obtain ⟨ds, dr, hf⟩ := draws_ok (ns.getD 0 0) [3, 24, 5, 26, 12, 10, 40] (cell_small hb 0) (by decide) (by decide)
  obtain ⟨x0, x1, x2, x3, x4, x5, x6, rfl, b0, b2, b3, b4⟩ := fits7 hf
  have dr : m_law_draws [.int (ns.getD 0 0), .lst [.int 3, .int 24, .int 5, .int 26, .int 12, .int 10, .int 40]] = .ok (sevD x0 x1 x2 x3 x4 x5 x6) := dr
  have d7 : dLst [.int 3, .int 24, .int 5, .int 26, .int 12, .int 10, .int 40] = some (.lst [.int 3, .int 24, .int 5, .int 26, .int 12, .int 10, .int 40]) := dLst_ok (by rw [LNe]; show 7 ≤ 1000000; omega)
  have i0 : dIx (sevD x0 x1 x2 x3 x4 x5 x6) (.int 0) = some (nD x0) := r_ixn (k := 0)
  have i4 : dIx (sevD x0 x1 x2 x3 x4 x5 x6) (.int 4) = some (.int (x4 : Nat)) := r_ixn (k := 4)
  have gt4 : dGt (.int (x4 : Nat)) (.int 3) = some (.bl (decide ((3 : Int) < (x4 : Nat)))) := rfl
  obtain ⟨S0, e0, v0, l0, _⟩ := law_rules_ok (ns.getD 1 0) (decide ((3 : Int) < (x4 : Nat))) (cell_small hb 1)
  rw [toG_map] at e0
  have e0 : m_law_rules [.int (ns.getD 1 0), .bl (decide ((3 : Int) < (x4 : Nat)))] = .ok (LD (S0.map toG)) := e0
  obtain ⟨g1, h1, l1, p1⟩ := pick1_ok hb (x0 := x0) (x1 := x1) (x2 := x2) (x3 := x3) (x4 := x4) (x5 := x5) (x6 := x6) (gs := S0.map toG) toGs_ok (by rw [List.length_map]; omega) (ρ := [none, none, none, none, none, none, none, none])
  obtain ⟨g2, h2, l2, p2⟩ := pick2_ok (s := .scr ns) (x0 := x0) (x1 := x1) (x2 := x2) (x3 := x3) (x4 := x4) (x5 := x5) (x6 := x6) h1 l1 (ρ := [none, none, none, none, none, none, none, none])
  obtain ⟨g3, h3, l3, p3⟩ := pick3_ok (s := .scr ns) (x0 := x0) (x1 := x1) (x2 := x2) (x3 := x3) (x4 := x4) (x5 := x5) (x6 := x6) (by omega) (by omega) (by omega) h2 l2
  obtain ⟨g, o3, h, l, lo1⟩ := spl_ok hb (d := sevD x0 x1 x2 x3 x4 x5 x6) h3 l3 x0
  obtain ⟨m, em, hm, lm⟩ := mended_ok h (by omega)
  have em : m_law_mended [LD g] = .ok (LD m) := em
  have hq : ∀ r ∈ m ++ [GR.let_ [113]], GOk r := fun r ms => by
    rcases List.mem_append.mp ms with ms | ms
    · exact hm r ms
    · rw [List.mem_singleton.mp ms]; show 1 ≤ 100; omega
  have lq : (m ++ [GR.let_ [113]]).length ≤ 300 := by rw [List.length_append, List.length_singleton]; omega
  have ad : dAdd (LD m) (.lst [.tup [.str zf5b75010, .str [113]]]) = some (LD (m ++ [GR.let_ [113]])) := by
    have : LD (m ++ [GR.let_ [113]]) = .lst (m.map gD ++ [.tup [.str zf5b75010, .str [113]]]) := by unfold LD; rw [List.map_append]; rfl
    rw [this]
    exact r_add_l (by rw [List.length_map]; show _ + 1 ≤ _; omega)
  generalize hqq : m ++ [GR.let_ [113]] = q at *
  have r4 : rngL 0 4 = [.int 0, .int 1, .int 2, .int 3] := rfl
  have d4 : dLst [LD g, LD m, LD q, LD g] = some (.lst [LD g, LD m, LD q, LD g]) := dLst_ok (by rw [LNe]; show 4 ≤ 1000000; omega)
  have gq4 : gSq (.lst [LD g, LD m, LD q, LD g]) = some [LD g, LD m, LD q, LD g] := rfl
  have ty : ∀ {z : List GR}, (∀ r ∈ z, GOk r) → m_law_try [LD z] = .ok (gotD z (outc z)) := fun hz => gtry_ok hz
  have tg := ty h
  have tm := ty hm
  have tq := ty hq
  have c2 : ∀ {ρ : Env}, ρ.length = 11 → True := fun _ => trivial
  have ho : ∀ {z : List GR}, (∀ r ∈ z, GOk r) → m_law_holds [gotD z (outc z), LD z] = .ok (.bl true) := fun hz => holds_ok hz
  have hog := ho h
  have hom := ho hm
  have hoq := ho hq
  let A : D := .lst [LD g, LD m, LD q, LD g]
  let C : D := .lst [gotD g (outc g), gotD m (outc m), gotD q (outc q), gotD g (outc g)]
  have nl : noLs [gotD g (outc g), gotD m (outc m), gotD q (outc q), gotD g (outc g)] = true := by
    show (noL _ && (noL _ && (noL _ && (noL _ && true)))) = true
    rw [noL_got, noL_got, noL_got]; rfl
  have i0' : ∀ {a b c d : D}, dIx (.lst [a, b, c, d]) (.int 0) = some a := r_ixn (k := 0)
  have i1' : ∀ {a b c d : D}, dIx (.lst [a, b, c, d]) (.int 1) = some b := r_ixn (k := 1)
  have i2' : ∀ {a b c d : D}, dIx (.lst [a, b, c, d]) (.int 2) = some c := r_ixn (k := 2)
  have i3' : ∀ {a b c d : D}, dIx (.lst [a, b, c, d]) (.int 3) = some d := r_ixn (k := 3)
  have lo2 : sLoop (gSet 8) l2_law (rngL 0 4) [some (.scr ns), some (sevD x0 x1 x2 x3 x4 x5 x6), some (LD g), o3, some (LD m), some A, some A, some C, none, none, none] = .ok (.nx [some (.scr ns), some (sevD x0 x1 x2 x3 x4 x5 x6), some (LD g), o3, some (LD m), some A, some A, some C, some (.int 3), none, none]) := by
    rw [r4]
    exact (loop_nx rfl (t2_ok h (by omega) i0' i0' i0')).trans ((loop_nx rfl (t2_ok hm (by omega) i1' i1' i1')).trans ((loop_nx rfl (t2_ok hq (by omega) i2' i2' i2')).trans ((loop_nx rfl (t2_ok h (by omega) i3' i3' i3')).trans rfl)))
  have eA : A = .lst ([g.map gD, m.map gD, q.map gD, g.map gD].map D.lst) := rfl
  obtain ⟨A', o8', o9', lo3⟩ := rows_ok (B := A) (C := C) (s := .scr ns) (d := sevD x0 x1 x2 x3 x4 x5 x6) (r := LD g) (m4 := LD m) (o3 := o3) (L := [g.map gD, m.map gD, q.map gD, g.map gD]) rfl (by
    intro l' ml
    simp only [List.mem_cons, List.mem_nil_iff, or_false] at ml
    rcases ml with rfl | rfl | rfl | rfl <;> rw [List.length_map] <;> omega) (o8 := some (.int 3)) (o9 := none) (o10 := none)
  rw [← eA] at lo3
  have c2e : c2_law [some (.scr ns), some (sevD x0 x1 x2 x3 x4 x5 x6), some (LD g), o3, some (LD m), some A, none, none, none, none, none] = .ok A := by
    have kl := kLn_ok (xs := [LD g, LD m, LD q, LD g]) (by rw [LNe]; show 4 ≤ 1000000; omega)
    show _ = R.ok (D.lst [LD g, LD m, LD q, LD g])
    rw [← kl]
    rfl
  have c3e : mNLL c3_law [some (.scr ns), some (sevD x0 x1 x2 x3 x4 x5 x6), some (LD g), o3, some (LD m), some A, some A, none, none, none, none] = .ok C := by
    refine K23.nll_ok ?_ nl
    have lc : lcGo (gSet 10) mYes (mCall 1 m_law_try (mCons (mV 10) mNil)) [some (.scr ns), some (sevD x0 x1 x2 x3 x4 x5 x6), some (LD g), o3, some (LD m), some A, some A, none, none, none, none] [LD g, LD m, LD q, LD g] = .ok [gotD g (outc g), gotD m (outc m), gotD q (outc q), gotD g (outc g)] := by
      have st : ∀ {z : List GR}, (∀ r ∈ z, GOk r) → mCall 1 m_law_try (mCons (mV 10) mNil) [some (.scr ns), some (sevD x0 x1 x2 x3 x4 x5 x6), some (LD g), o3, some (LD m), some A, some A, none, none, none, some (LD z)] = .ok (gotD z (outc z)) := fun hz => by
        have := ty hz
        exists this
      exact lc_step rfl rfl (st h) (lc_step rfl rfl (st hm) (lc_step rfl rfl (st hq) (lc_step rfl rfl (st h) rfl)))
    have kl := kLn_ok (xs := [gotD g (outc g), gotD m (outc m), gotD q (outc q), gotD g (outc g)]) (by rw [LNe]; show 4 ≤ 1000000; omega)
    have w1 : wipeD [some (.scr ns), some (sevD x0 x1 x2 x3 x4 x5 x6), some (LD g), o3, some (LD m), some A, some A, none, none, none, none] [10] = [some (.scr ns), some (sevD x0 x1 x2 x3 x4 x5 x6), some (LD g), o3, some (LD m), some A, some A, none, none, none, none] := rfl
    have ga : gSq A = some [LD g, LD m, LD q, LD g] := rfl
    exists c3_law, ga, w1, lc, kl
  have c4e : c4_law [some (.scr ns), some (sevD x0 x1 x2 x3 x4 x5 x6), some (LD g), o3, some (LD m), some A, some A', some C, o8', o9', none] = .ok (.lst []) := by
    have st : ∀ {k : Int} {z : List GR}, (∀ r ∈ z, GOk r) → dIx C (.int k) = some (gotD z (outc z)) → dIx A (.int k) = some (LD z) → mNot (mB (mCall 2 m_law_holds (mCons (m2 dIx (mV 7) (mV 8)) (mCons (m2 dIx (mV 5) (mV 8)) mNil)))) [some (.scr ns), some (sevD x0 x1 x2 x3 x4 x5 x6), some (LD g), o3, some (LD m), some A, some A', some C, some (.int k), o9', none] = .ok false := fun hz e1 e2 => by
      have := ho hz
      exists e1, e2, this
    have lc : lcGo (gSet 8) (mNot (mB (mCall 2 m_law_holds (mCons (m2 dIx (mV 7) (mV 8)) (mCons (m2 dIx (mV 5) (mV 8)) mNil))))) (mV 8) [some (.scr ns), some (sevD x0 x1 x2 x3 x4 x5 x6), some (LD g), o3, some (LD m), some A, some A', some C, none, o9', none] (rngL 0 4) = .ok [] := by
      rw [r4]
      exact lc_skip rfl (st h i0' i0') (lc_skip rfl (st hm i1' i1') (lc_skip rfl (st hq i2' i2') (lc_skip rfl (st h i3' i3') rfl)))
    have w1 : wipeD [some (.scr ns), some (sevD x0 x1 x2 x3 x4 x5 x6), some (LD g), o3, some (LD m), some A, some A', some C, o8', o9', none] [8] = [some (.scr ns), some (sevD x0 x1 x2 x3 x4 x5 x6), some (LD g), o3, some (LD m), some A, some A', some C, none, o9', none] := rfl
    have r1 : gR1 [.int 4] = some (rngL 0 4) := rfl
    have kl := kLn_ok (xs := []) (by rw [LNe]; show 0 ≤ 1000000; omega)
    generalize rngL 0 4 = RG at *
    exists c4_law, r1, w1, lc, kl
  have r1 : gR1 [.int 4] = some (rngL 0 4) := rfl
  have rx : gR1 [nD x0] = some (rngL 0 x0) := r_R1n (by omega)
  have ln0 : dLen [.lst []] = some (.int 0) := rfl
  have dA : dLst [LD g, LD m, LD q, LD g] = some A := d4
  have hA : D.lst [LD g, LD m, LD q, LD g] = A := rfl
  clear h hm hq h1 h2 h3 hb hf ty ho hog hom hoq tg tm tq nl eA hqq d4 gq4 i0' i1' i2' i3'
  clear_value A C
  generalize rngL 0 4 = RG at *
  generalize rngL 0 x0 = R0 at *
  generalize LD g = dg at *
  generalize LD m = dm at *
  generalize LD q = dq at *
  generalize LD g1 = dg1 at *
  generalize LD g2 = dg2 at *
  generalize LD g3 = dg3 at *
  generalize LD (S0.map toG) = ds0 at *
  generalize sevD x0 x1 x2 x3 x4 x5 x6 = dd at *
  generalize decide ((3 : Int) < (x4 : Nat)) = w at *
  exists m_law, b_law, ce0, d7, dr, ce1, i4, gt4, e0, p1, p2, p3, i0, rx, lo1, em, ad, dA, hA, c2e, c3e, r1, lo2, lo3, c4e, ln0
end K18
set_option Elab.async false
set_option linter.all false
set_option maxRecDepth 100000
open PySem PySem.W PyProof.Rows
set_option maxHeartbeats 0 in
theorem PySem.Challenge.cw_pressroots_k18_rules_form_holds : PySem.Challenge.rw_pressroots_k18_rules_form.Holds := by
  w_on; o_law
  refine holds_open (q := HH.q) (loose := HH.loose) (Xt := HH.Xt) (XP := XL HH.q []) (Yf := Hook.obs HH.H) (Ya := Hook.val HH.H) (YP := Hook.says HH.H) (N := 41000) HH.left (Hook.of HH.H) (Hook.keeps HH.H) (fun s e => xl_of s (Bool.and_eq_true_iff.mp e).1) XL.keeps (by rfl) (by rfl) (by rfl) (fun s e => recFacts_of (Bool.and_eq_true_iff.mp e).2) (by rfl) (by first | assumption | decide +kernel) (by decide +kernel) ⟨rfl, rfl, rfl, rfl, rfl, by decide +kernel⟩ ?hw ?hc
  case hw => w_witness2
  k_fill
  refine PD.walk_tabs (l := PySem.Challenge.rw_pressroots_k18_rules_form) (n := 63) (k := 12) (x := "script") (CX := fun w => L2.CX PySem.Challenge.rw_pressroots_k18_rules_form.prog w) rfl (by decide) rfl ⟨rfl, by decide, by decide⟩ (fun w h Y => PySem.W.kIn_of Y) ?F (fun w H s e s' z => PD.cx_false z)
  case F =>
    intro w mg fa h Y KX G hmg own
    refine' K18.at_law KX G hmg  ?xa0 ?xa1 ?xa2 ?xa3 ?xa4 ?xa5 ?xa6 ?xa7 ?xa8 ?xa9 ?xa10 ?xa11 ?xa12 ?a0 ?l0 ?d0 ?k0 ?a1 ?l1 ?d1 ?k1 ?a2 ?l2 ?d2 ?k2 ?a3 ?l3 ?d3 ?k3 ?a4 ?l4 ?d4 ?k4 ?a5 ?l5 ?d5 ?k5 ?a6 ?l6 ?d6 ?k6 ?a7 ?l7 ?d7 ?k7 ?a8 ?l8 ?d8 ?k8 ?a9 ?l9 ?d9 ?k9 ?a10 ?l10 ?d10 ?k10 ?a11 ?l11 ?d11 ?k11 ?a12 ?l12 ?d12 ?k12 ?a13 ?l13 ?d13 ?k13 ?a14 ?l14 ?d14 ?k14 ?a15 ?l15 ?d15 ?k15 ?a16 ?j16 ?l16 ?d16 ?k16 ?a17 ?l17 ?d17 ?k17 ?a18 ?l18 ?d18 ?k18 ?a19 ?l19 ?d19 ?k19 ?a20 ?l20 ?d20 ?k20 ?a21 ?l21 ?d21 ?k21 ?a22 ?j22 ?l22 ?d22 ?k22 ?a23 ?l23 ?d23 ?k23 ?a24 ?l24 ?d24 ?k24 ?a25 ?l25 ?d25 ?k25 ?xp10_0 ?xp10_1 ?xp10_2 ?xp10_3 ?xm10_0 ?xm10_1 ?xb11 ?xk11 ?xd11 ?xe11 ?xo4_0 ?xo4_1 ?xo4_2 ?xo4_3 ?xo4_4 ?xo4_5 ?xo4_6 ?xo4_7 ?xo4_8 ?xo4_9 ?xo4_10 ?xo4_11 ?xo4_12 ?xo4_13 ?xo4_14 ?xo4_15 ?xo4_16 ?xo4_17 ?xo4_18 ?xo4_19 ?q_fd_Rules_rules ?q_ka0 ?q_ka1 ?q_kbBadPress_ValueError ?q_kbTooLong_ValueError ?hm4 ?he4_0 ?he4_1 ?he4_2 ?he4_3 ?he4_4 ?he4_5 ?he4_6 ?he4_7 ?hm11 ?he11_0 ?he11_1 ?he11_2 ?he11_3 ?he11_4 ?he11_5 ?he11_6 ?he11_7 ?q_xkBadPress_BadCount ?q_xkBadPress_BadLine ?q_xkBadPress_BadPaper ?q_xkBadPress_BadPlaces ?q_xkBadPress_BadText ?q_xkBadPress_DeskError ?q_xkBadPress_NoText ?q_xkBadPress_NotARoot ?q_xkBadPress_PressError ?q_xkBadPress_TooLong ?q_xkBadPress_TooShort ?q_xkTooLong_BadCount ?q_xkTooLong_BadLine ?q_xkTooLong_BadPaper ?q_xkTooLong_BadPlaces ?q_xkTooLong_BadPress ?q_xkTooLong_BadText ?q_xkTooLong_DeskError ?q_xkTooLong_NoText ?q_xkTooLong_NotARoot ?q_xkTooLong_PressError ?q_xkTooLong_TooShort ?q_xlBadPress_index ?q_xnBadPress_TooLong ?q_xnTooLong_BadPress ?zValueError ?zabs ?zbool ?zcLETTERS ?ycLETTERS_ ?zcMOST_RULES ?zcMOST_TIMES ?zenumerate ?zint ?zisinstance ?zlen ?zlist ?zmin ?zrange ?zstr ?ztuple K18.law_ok
    (case xa0 => k_is)
    (case xa1 => k_is)
    (case xa2 => k_is)
    (case xa3 => k_is)
    (case xa4 => k_is)
    (case xa5 => k_is)
    (case xa6 => k_is)
    (case xa7 => k_is)
    (case xa8 => k_is)
    (case xa9 => k_is)
    (case xa10 => k_is)
    (case xa11 => k_is)
    (case xa12 => k_is)
    (case a0 => k_is)
    (case l0 => k_is)
    (case d0 => k_is)
    (case k0 => k_is)
    (case a1 => k_is)
    (case l1 => k_is)
    (case d1 => k_is)
    (case k1 => k_is)
    (case a2 => k_is)
    (case l2 => k_is)
    (case d2 => k_is)
    (case k2 => k_is)
    (case a3 => k_is)
    (case l3 => k_is)
    (case d3 => k_is)
    (case k3 => k_is)
    (case a4 => k_is)
    (case l4 => k_is)
    (case d4 => k_is)
    (case k4 => k_is)
    (case a5 => k_is)
    (case l5 => k_is)
    (case d5 => k_is)
    (case k5 => k_is)
    (case a6 => k_is)
    (case l6 => k_is)
    (case d6 => k_is)
    (case k6 => k_is)
    (case a7 => k_is)
    (case l7 => k_is)
    (case d7 => k_is)
    (case k7 => k_is)
    (case a8 => k_is)
    (case l8 => k_is)
    (case d8 => k_is)
    (case k8 => k_is)
    (case a9 => k_is)
    (case l9 => k_is)
    (case d9 => k_is)
    (case k9 => k_is)
    (case a10 => k_is)
    (case l10 => k_is)
    (case d10 => k_is)
    (case k10 => k_is)
    (case a11 => k_is)
    (case l11 => k_is)
    (case d11 => k_is)
    (case k11 => k_is)
    (case a12 => k_is)
    (case l12 => k_is)
    (case d12 => k_is)
    (case k12 => k_is)
    (case a13 => k_is)
    (case l13 => k_is)
    (case d13 => k_is)
    (case k13 => k_is)
    (case a14 => k_is)
    (case l14 => k_is)
    (case d14 => k_is)
    (case k14 => k_is)
    (case a15 => k_is)
    (case l15 => k_is)
    (case d15 => k_is)
    (case k15 => k_is)
    (case a16 => k_is)
    (case j16 => k_is)
    (case l16 => k_is)
    (case d16 => k_is)
    (case k16 => k_is)
    (case a17 => k_is)
    (case l17 => k_is)
    (case d17 => k_is)
    (case k17 => k_is)
    (case a18 => k_is)
    (case l18 => k_is)
    (case d18 => k_is)
    (case k18 => k_is)
    (case a19 => k_is)
    (case l19 => k_is)
    (case d19 => k_is)
    (case k19 => k_is)
    (case a20 => k_is)
    (case l20 => k_is)
    (case d20 => k_is)
    (case k20 => k_is)
    (case a21 => k_is)
    (case l21 => k_is)
    (case d21 => k_is)
    (case k21 => k_is)
    (case a22 => k_is)
    (case j22 => k_is)
    (case l22 => k_is)
    (case d22 => k_is)
    (case k22 => k_is)
    (case a23 => k_is)
    (case l23 => k_is)
    (case d23 => k_is)
    (case k23 => k_is)
    (case a24 => k_is)
    (case l24 => k_is)
    (case d24 => k_is)
    (case k24 => k_is)
    (case a25 => k_is)
    (case l25 => k_is)
    (case d25 => k_is)
    (case k25 => k_is)
    (case xp10_0 => k_is)
    (case xp10_1 => k_is)
    (case xp10_2 => k_is)
    (case xp10_3 => k_is)
    (case xm10_0 => k_is)
    (case xm10_1 => k_is)
    (case xb11 => k_exc)
    (case xk11 => k_is)
    (case xd11 => k_is)
    (case xe11 => k_is)
    (case xo4_0 => first | rfl | with_unfolding_all rfl | kernel_rfl)
    (case xo4_1 => k_is)
    (case xo4_2 => k_is)
    (case xo4_3 => k_is)
    (case xo4_4 => k_is)
    (case xo4_5 => k_is)
    (case xo4_6 => k_is)
    (case xo4_7 => k_is)
    (case xo4_8 => k_is)
    (case xo4_9 => k_is)
    (case xo4_10 => rfl)
    (case xo4_11 => first | rfl | decide +kernel)
    (case xo4_12 => first | rfl | decide +kernel)
    (case xo4_13 => k_is)
    (case xo4_14 => first | rfl | with_unfolding_all rfl | kernel_rfl)
    (case xo4_15 => k_is)
    (case xo4_16 => k_is)
    (case xo4_17 => k_is)
    (case xo4_18 => k_is)
    (case xo4_19 => k_is)
    (case q_fd_Rules_rules => k_is)
    (case q_ka0 => first | rfl | with_unfolding_all rfl | kernel_rfl)
    (case q_ka1 => first | rfl | with_unfolding_all rfl | kernel_rfl)
    (case q_kbBadPress_ValueError => first | rfl | with_unfolding_all rfl | kernel_rfl)
    (case q_kbTooLong_ValueError => first | rfl | with_unfolding_all rfl | kernel_rfl)
    (case hm4 => first | rfl | with_unfolding_all rfl | kernel_rfl)
    (case he4_0 => k_is)
    (case he4_1 => k_is)
    (case he4_2 => k_is)
    (case he4_3 => k_is)
    (case he4_4 => k_is)
    (case he4_5 => k_is)
    (case he4_6 => k_is)
    (case he4_7 => k_is)
    (case hm11 => first | rfl | with_unfolding_all rfl | kernel_rfl)
    (case he11_0 => k_is)
    (case he11_1 => k_is)
    (case he11_2 => k_is)
    (case he11_3 => k_is)
    (case he11_4 => k_is)
    (case he11_5 => k_is)
    (case he11_6 => k_is)
    (case he11_7 => k_is)
    (case q_xkBadPress_BadCount => first | rfl | with_unfolding_all rfl | kernel_rfl)
    (case q_xkBadPress_BadLine => first | rfl | with_unfolding_all rfl | kernel_rfl)
    (case q_xkBadPress_BadPaper => first | rfl | with_unfolding_all rfl | kernel_rfl)
    (case q_xkBadPress_BadPlaces => first | rfl | with_unfolding_all rfl | kernel_rfl)
    (case q_xkBadPress_BadText => first | rfl | with_unfolding_all rfl | kernel_rfl)
    (case q_xkBadPress_DeskError => first | rfl | with_unfolding_all rfl | kernel_rfl)
    (case q_xkBadPress_NoText => first | rfl | with_unfolding_all rfl | kernel_rfl)
    (case q_xkBadPress_NotARoot => first | rfl | with_unfolding_all rfl | kernel_rfl)
    (case q_xkBadPress_PressError => first | rfl | with_unfolding_all rfl | kernel_rfl)
    (case q_xkBadPress_TooLong => first | rfl | with_unfolding_all rfl | kernel_rfl)
    (case q_xkBadPress_TooShort => first | rfl | with_unfolding_all rfl | kernel_rfl)
    (case q_xkTooLong_BadCount => first | rfl | with_unfolding_all rfl | kernel_rfl)
    (case q_xkTooLong_BadLine => first | rfl | with_unfolding_all rfl | kernel_rfl)
    (case q_xkTooLong_BadPaper => first | rfl | with_unfolding_all rfl | kernel_rfl)
    (case q_xkTooLong_BadPlaces => first | rfl | with_unfolding_all rfl | kernel_rfl)
    (case q_xkTooLong_BadPress => first | rfl | with_unfolding_all rfl | kernel_rfl)
    (case q_xkTooLong_BadText => first | rfl | with_unfolding_all rfl | kernel_rfl)
    (case q_xkTooLong_DeskError => first | rfl | with_unfolding_all rfl | kernel_rfl)
    (case q_xkTooLong_NoText => first | rfl | with_unfolding_all rfl | kernel_rfl)
    (case q_xkTooLong_NotARoot => first | rfl | with_unfolding_all rfl | kernel_rfl)
    (case q_xkTooLong_PressError => first | rfl | with_unfolding_all rfl | kernel_rfl)
    (case q_xkTooLong_TooShort => first | rfl | with_unfolding_all rfl | kernel_rfl)
    (case q_xlBadPress_index => k_is)
    (case q_xnBadPress_TooLong => first | rfl | with_unfolding_all rfl | kernel_rfl)
    (case q_xnTooLong_BadPress => first | rfl | with_unfolding_all rfl | kernel_rfl)
    (case zValueError => k_is)
    (case zabs => k_is)
    (case zbool => k_is)
    (case zcLETTERS => k_is)
    (case ycLETTERS_ => first | rfl | decide +kernel)
    (case zcMOST_RULES => k_is)
    (case zcMOST_TIMES => k_is)
    (case zenumerate => k_is)
    (case zint => k_is)
    (case zisinstance => k_is)
    (case zlen => k_is)
    (case zlist => k_is)
    (case zmin => k_is)
    (case zrange => k_is)
    (case zstr => k_is)
    (case ztuple => k_is)
