import PyProof.Rows.All
import Wide.All
import OpenK.AllK
import Wide.FinOn
import HandS.ForMost
import HandS.ForExc
import HandS.AnyAll
import HandS.Wide
import HandS.StrMore
import HandS.IsInst
import HandS.Codes
import HandS.EndOwn
import HandS.ExcIs
import HandS.TryMany
import HandS.Conv
import HandS.Style
import HandS.SetBool
import HandS.SetKeys
import KE.GoesEnumKw
import KE.GoesEnum
import HandS.CallSlots
import HandS.Dict
import HandS.Text
import HandS.Deep
import PyProof.Rows.SetFrom
import HandS.FltList
import HandS.DictTup
import HandS.Iter
import KE.KExcSuper
import HandS.ExcInit
import KE.KExcIs
import HandS.ExcField
import HandS.FStr
import HandS.RaiseMore
import PySem.Challenge.RW_pressroots_k09_copies_form
set_option Elab.async false
set_option linter.all false
set_option maxRecDepth 100000
set_option maxHeartbeats 1000000
/-! Pure data over the hand layer: values, mirrors, ownership. -/
namespace PD
open PySem PySem.Spec PyProof.Rows L2

/-- a dict's key -/
inductive DKey where
  | i (n : Int) | s (t : List Nat)
deriving DecidableEq
def DKey.k : DKey → L2.Key
  | .i n => .inl n
  | .s t => .inr ⟨t.toArray⟩
inductive D where
  | non | bl (b : Bool) | int (i : Int) | str (s : List Nat) | lst (xs : List D) | tup (xs : List D) | scr (xs : List Int) | rng (lo hi : Int) | obj (c : Str) (ks : List Str) (vs : List D) | dic (ks : List DKey) (vs : List D) | dct (ks : List (List DKey)) (vs : List D)

inductive R (α : Type) where
  | ok (a : α) | err (c : Str) (fs : List (Str × D)) | stuck
def R.bind {α β : Type} (m : R α) (f : α → R β) : R β := match m with
  | .ok a => f a
  | .err c fs => .err c fs
  | .stuck => .stuck
instance : Monad R where
  pure := R.ok
  bind := R.bind
theorem bind_ok {α β : Type} (a : α) (f : α → R β) : (R.ok a >>= f) = f a := rfl
theorem bind_err {α β : Type} (c : Str) (fs : List (Str × D)) (f : α → R β) : ((R.err c fs : R α) >>= f) = R.err c fs := rfl
theorem bind_stuck {α β : Type} (f : α → R β) : ((R.stuck : R α) >>= f) = R.stuck := rfl

abbrev Env := List (Option D)
inductive Fl where
  | nx (ρ : Env) | rt (d : D) | bk (ρ : Env) | ct (ρ : Env) | ex (c : Str) (fs : List (Str × D)) (ρ : Env)

/-! ### heaps -/
def isTbl : HO → Bool
  | .tbl _ => true
  | _ => false
/-- all that was tracked is as it was, but for tables of code objects -/
def Sm (H H' : Hp) : Prop := ∀ a o, H a = some o → isTbl o = false → H' a = some o
theorem Sm.refl (H : Hp) : Sm H H := fun _ _ h _ => h
theorem Sm.trans {H H1 H2 : Hp} (a : Sm H H1) (b : Sm H1 H2) : Sm H H2 := fun c o h n => b c o (a c o h n) n
theorem _root_.L2.Same.sm {H H' : Hp} (e : Same H H') : Sm H H' := fun a o h _ => e a o h
def NoT (F : Hp) : Prop := ∀ a o, F a = some o → isTbl o = false
theorem Sm.same {H H' : Hp} (e : Sm H H') (n : NoT H) : Same H H' := fun a o h => e a o h (n a o h)
/-- no tracked object but, at most, a table -/
def Nw (H : Hp) (a : Addr) : Prop := ∀ o, H a = some o → isTbl o = true
theorem Nw.of {H : Hp} {a : Addr} (h : H a = none) : Nw H a := fun o e => by rw [h] at e; cases e
theorem Nw.no {H : Hp} {a : Addr} {o : HO} (n : Nw H a) (e : H a = some o) (t : isTbl o = false) : False := by
  rw [n o e] at t; cases t
theorem Nw.back {H H' : Hp} {a : Addr} (n : Nw H' a) (e : Sm H H') : Nw H a := fun o h => by
  cases t : isTbl o with
  | true => rfl
  | false => exact (n.no (e a o h t) t).elim
theorem Nw.none {F H : Hp} {a : Addr} (n : Nw H a) (s : Same F H) (t : NoT F) : F a = Option.none := by
  cases q : F a with
  | none => rfl
  | some o => exact (n.no (s a o q) (t a o q)).elim
theorem sm_rd {H H' : Hp} {a : Addr} {u : HO} (e : Sm H H') (nu : isTbl u = false) (h : Rd H a u) : Rd H' a u := by
  rcases h with h | ⟨o, h⟩
  · exact .inl (e _ _ h nu)
  · exact .inr ⟨o, e _ _ h rfl⟩
theorem sm_l {K : PySem.W.Frag} {H H' : Hp} {a : Addr} {xs : List V} (e : Sm H H') (h : SqL K H a xs) : SqL K H' a xs := by
  rcases h with h | h
  · exact .inl (sm_rd e rfl h)
  · exact .inr h
theorem sm_t {K : PySem.W.Frag} {H H' : Hp} {a : Addr} {xs : List V} (e : Sm H H') (h : SqT K H a xs) : SqT K H' a xs := by
  rcases h with h | h
  · exact .inl (sm_rd e rfl h)
  · exact .inr h

/-! ### data -/
mutual
inductive Dat (K : PySem.W.Frag) (F : Hp) : V → D → Prop
  | non : Dat K F .non .non
  | bl {b : Bool} : Dat K F (.bl b) (.bl b)
  | int {i : Int} : Dat K F (.int i) (.int i)
  | str {s : List Nat} : Dat K F (.str ⟨s.toArray⟩) (.str s)
  | lst {a : Addr} {vs : List V} {ds : List D} : F a = some (.lst vs) → DatL K F vs ds → Dat K F (.ref a) (.lst ds)
  | scr {a : Addr} {ns : List Int} : SqL K F a (ns.map V.int) → Dat K F (.ref a) (.scr ns)
  | tup {a : Addr} {vs : List V} {ds : List D} : SqT K F a vs → DatL K F vs ds → Dat K F (.ref a) (.tup ds)
  | rng {a : Addr} {lo hi : Int} : F a = some (.rng lo hi) → Dat K F (.ref a) (.rng lo hi)
  | obj {a C dx : Addr} {c : Str} {ks : List Str} {us : List V} {ds : List D} : PySem.W.nsIn K mainGlobals c = some (some (.ref C)) → F a = some (.ins C dx (ks.zip us)) → ks.length = us.length → DatL K F us ds → Dat K F (.ref a) (.obj c ks ds)
  | dic {a : Addr} {ks : List DKey} {us : List V} {ds : List D} : F a = some (.dK ((ks.map DKey.k).zip us)) → ks.length = us.length → DatL K F us ds → Dat K F (.ref a) (.dic ks ds)
  | dct {a : Addr} {ks : List (List DKey)} {us : List V} {ds : List D} : F a = some (.dT ((ks.map (List.map DKey.k)).zip us)) → ks.length = us.length → DatL K F us ds → Dat K F (.ref a) (.dct ks ds)
inductive DatL (K : PySem.W.Frag) (F : Hp) : List V → List D → Prop
  | nil : DatL K F [] []
  | cons {v : V} {d : D} {vs : List V} {ds : List D} : Dat K F v d → DatL K F vs ds → DatL K F (v :: vs) (d :: ds)
end
section
variable {K : PySem.W.Frag} {F F' H H' : Hp}
mutual
theorem Dat.mono (e : Sm F F') : ∀ {v : V} {d : D}, Dat K F v d → Dat K F' v d
  | _, _, .non => .non
  | _, _, .bl => .bl
  | _, _, .int => .int
  | _, _, .str => .str
  | _, _, .lst h r => .lst (e _ _ h rfl) (DatL.mono e r)
  | _, _, .scr h => .scr (sm_l e h)
  | _, _, .tup h r => .tup (sm_t e h) (DatL.mono e r)
  | _, _, .rng h => .rng (e _ _ h rfl)
  | _, _, .obj c h l r => .obj c (e _ _ h rfl) l (DatL.mono e r)
  | _, _, .dic h l r => .dic (e _ _ h rfl) l (DatL.mono e r)
  | _, _, .dct h l r => .dct (e _ _ h rfl) l (DatL.mono e r)
theorem DatL.mono (e : Sm F F') : ∀ {vs : List V} {ds : List D}, DatL K F vs ds → DatL K F' vs ds
  | _, _, .nil => .nil
  | _, _, .cons h r => .cons (Dat.mono e h) (DatL.mono e r)
end
theorem DatL.length : ∀ {vs : List V} {ds : List D}, DatL K F vs ds → vs.length = ds.length
  | _, _, .nil => rfl
  | _, _, .cons _ r => by rw [List.length_cons, List.length_cons, DatL.length r]
theorem DatL.get : ∀ {vs : List V} {ds : List D} {i : Nat} {d : D}, DatL K F vs ds → ds[i]? = some d → ∃ v, vs[i]? = some v ∧ Dat K F v d
  | _, _, _, _, .nil, e => by simp at e
  | _, _, 0, _, .cons h _, e => by simp at e; subst e; exact ⟨_, rfl, h⟩
  | _, _, i + 1, _, .cons _ r, e => by
    obtain ⟨v, a, b⟩ := DatL.get (i := i) r (by simpa using e)
    exact ⟨v, by simpa using a, b⟩
theorem DatL.get' : ∀ {vs : List V} {ds : List D} {i : Nat} {v : V}, DatL K F vs ds → vs[i]? = some v → ∃ d, ds[i]? = some d ∧ Dat K F v d
  | _, _, _, _, .nil, e => by simp at e
  | _, _, 0, _, .cons h _, e => by simp at e; subst e; exact ⟨_, rfl, h⟩
  | _, _, i + 1, _, .cons _ r, e => by
    obtain ⟨v, a, b⟩ := DatL.get' (i := i) r (by simpa using e)
    exact ⟨v, by simpa using a, b⟩
theorem DatL.append : ∀ {vs ws : List V} {ds es : List D}, DatL K F vs ds → DatL K F ws es → DatL K F (vs ++ ws) (ds ++ es)
  | _, _, _, _, .nil, s => s
  | _, _, _, _, .cons h r, s => .cons h (DatL.append r s)
theorem DatL.take : ∀ {vs : List V} {ds : List D} (n : Nat), DatL K F vs ds → DatL K F (vs.take n) (ds.take n)
  | _, _, 0, _ => .nil
  | _, _, _ + 1, .nil => .nil
  | _, _, n + 1, .cons h r => .cons h (DatL.take n r)
theorem DatL.drop : ∀ {vs : List V} {ds : List D} (n : Nat), DatL K F vs ds → DatL K F (vs.drop n) (ds.drop n)
  | _, _, 0, r => r
  | _, _, _ + 1, .nil => .nil
  | _, _, n + 1, .cons _ r => DatL.drop n r
theorem DatL.set {v : V} {d : D} (h : Dat K F v d) : ∀ {vs : List V} {ds : List D} (i : Nat), DatL K F vs ds → DatL K F (vs.set i v) (ds.set i d)
  | _, _, _, .nil => .nil
  | _, _, 0, .cons _ r => .cons h r
  | _, _, i + 1, .cons a r => .cons a (DatL.set h i r)
theorem DatL.rev : ∀ {vs : List V} {ds : List D}, DatL K F vs ds → DatL K F vs.reverse ds.reverse
  | _, _, .nil => .nil
  | _, _, .cons h r => by
    rw [List.reverse_cons, List.reverse_cons]
    exact DatL.append (DatL.rev r) (.cons h .nil)
end

/-! ### ownership: s shared, b borrowed, l a list of one's own, n all lists in it new -/
inductive Sh where
  | d (bw : Bool) | l (e : Sh) | n | x (v : V) (eo : Option (Addr × List (Str × V))) | i (p C dx : Addr) | q | qt
abbrev Sh.s : Sh := .d false
abbrev Sh.b : Sh := .d true
def Sh.noB : Sh → Bool
  | .d bw => !bw
  | .l e => e.noB
  | .n => true
  | .x _ _ => false
  | .i _ _ _ => true
  | .q => true
  | .qt => true
/-- a slot that holds just this value, whatever it is -/
def Sh.isX : Sh → Bool
  | .x _ _ => true
  | _ => false
theorem Sh.noX {sh : Sh} (h : sh.noB = true) : sh.isX = false := by
  cases sh with
  | x _ _ => cases h
  | _ => rfl
def isAtom : D → Bool
  | .lst _ => false
  | .tup _ => false
  | .scr _ => false
  | .rng _ _ => false
  | .obj _ _ _ => false
  | .dic _ _ => false
  | .dct _ _ => false
  | _ => true
mutual
inductive Own (K : PySem.W.Frag) (F H : Hp) : Sh → V → D → List Addr → Prop
  | d {bw : Bool} {v : V} {d : D} : Dat K (cond bw H F) v d → Own K F H (.d bw) v d []
  | l {e : Sh} {p : Addr} {vs : List V} {ds : List D} {S : List Addr} : H p = some (.lst vs) → OwnL K F H e vs ds S → Own K F H (.l e) (.ref p) (.lst ds) (p :: S)
  | na {v : V} {d : D} : isAtom d = true → Dat K F v d → Own K F H .n v d []
  | nl {p : Addr} {vs : List V} {ds : List D} {S : List Addr} : H p = some (.lst vs) → OwnL K F H .n vs ds S → Own K F H .n (.ref p) (.lst ds) (p :: S)
  | nt {p : Addr} {vs : List V} {ds : List D} {S : List Addr} : H p = some (.tup vs) → OwnL K F H .n vs ds S → Own K F H .n (.ref p) (.tup ds) (p :: S)
  | i {p C dx : Addr} {c : Str} {ks : List Str} {us : List V} {ds : List D} : PySem.W.nsIn K mainGlobals c = some (some (.ref C)) → H p = some (.ins C dx (ks.zip us)) → ks.length = us.length → DatL K F us ds → Own K F H (.i p C dx) (.ref p) (.obj c ks ds) [p]
  | q {p : Addr} {ks : List DKey} {us : List V} {ds : List D} : H p = some (.dK ((ks.map DKey.k).zip us)) → ks.length = us.length → DatL K F us ds → Own K F H .q (.ref p) (.dic ks ds) [p]
  | qt {p : Addr} {ks : List (List DKey)} {us : List V} {ds : List D} : H p = some (.dT ((ks.map (List.map DKey.k)).zip us)) → ks.length = us.length → DatL K F us ds → Own K F H .qt (.ref p) (.dct ks ds) [p]
inductive OwnL (K : PySem.W.Frag) (F H : Hp) : Sh → List V → List D → List Addr → Prop
  | nil {e : Sh} : OwnL K F H e [] [] []
  | cons {e : Sh} {v : V} {d : D} {vs : List V} {ds : List D} {S S' : List Addr} : Own K F H e v d S → OwnL K F H e vs ds S' → OwnL K F H e (v :: vs) (d :: ds) (S ++ S')
end
section
variable {K : PySem.W.Frag} {F F' H H' : Hp}
mutual
theorem Own.mono (e : Sm F F') (g : Sm H H') : ∀ {sh : Sh} {v : V} {d : D} {S : List Addr}, Own K F H sh v d S → Own K F' H' sh v d S
  | _, _, _, _, .d (bw := false) h => .d (bw := false) (h.mono e)
  | _, _, _, _, .d (bw := true) h => .d (bw := true) (h.mono g)
  | _, _, _, _, .l h r => .l (g _ _ h rfl) (OwnL.mono e g r)
  | _, _, _, _, .na a h => .na a (h.mono e)
  | _, _, _, _, .nl h r => .nl (g _ _ h rfl) (OwnL.mono e g r)
  | _, _, _, _, .nt h r => .nt (g _ _ h rfl) (OwnL.mono e g r)
  | _, _, _, _, .i c h l r => .i c (g _ _ h rfl) l (r.mono e)
  | _, _, _, _, .q h l r => .q (g _ _ h rfl) l (r.mono e)
  | _, _, _, _, .qt h l r => .qt (g _ _ h rfl) l (r.mono e)
theorem OwnL.mono (e : Sm F F') (g : Sm H H') : ∀ {sh : Sh} {vs : List V} {ds : List D} {S : List Addr}, OwnL K F H sh vs ds S → OwnL K F' H' sh vs ds S
  | _, _, _, _, .nil => .nil
  | _, _, _, _, .cons h r => .cons (Own.mono e g h) (OwnL.mono e g r)
end
mutual
/-- where only the owned addresses matter -/
theorem Own.at (e : Sm F F') : ∀ {sh : Sh} {v : V} {d : D} {S : List Addr}, sh.noB = true → Own K F H sh v d S → (∀ a ∈ S, H' a = H a) → Own K F' H' sh v d S
  | _, _, _, _, _, .d (bw := false) h, _ => .d (bw := false) (h.mono e)
  | _, _, _, _, n, .d (bw := true) _, _ => nomatch n
  | _, _, _, _, n, .l h r, k => .l ((k _ List.mem_cons_self).trans h) (OwnL.at e n r fun a m => k a (List.mem_cons_of_mem _ m))
  | _, _, _, _, _, .na a h, _ => .na a (h.mono e)
  | _, _, _, _, _, .nl h r, k => .nl ((k _ List.mem_cons_self).trans h) (OwnL.at e rfl r fun a m => k a (List.mem_cons_of_mem _ m))
  | _, _, _, _, _, .nt h r, k => .nt ((k _ List.mem_cons_self).trans h) (OwnL.at e rfl r fun a m => k a (List.mem_cons_of_mem _ m))
  | _, _, _, _, _, .i c h l r, k => .i c ((k _ List.mem_cons_self).trans h) l (r.mono e)
  | _, _, _, _, _, .q h l r, k => .q ((k _ List.mem_cons_self).trans h) l (r.mono e)
  | _, _, _, _, _, .qt h l r, k => .qt ((k _ List.mem_cons_self).trans h) l (r.mono e)
theorem OwnL.at (e : Sm F F') : ∀ {sh : Sh} {vs : List V} {ds : List D} {S : List Addr}, sh.noB = true → OwnL K F H sh vs ds S → (∀ a ∈ S, H' a = H a) → OwnL K F' H' sh vs ds S
  | _, _, _, _, _, .nil, _ => .nil
  | _, _, _, _, n, .cons h r, k => .cons (Own.at e n h fun a m => k a (List.mem_append_left _ m)) (OwnL.at e n r fun a m => k a (List.mem_append_right _ m))
end
mutual
theorem Own.toB (e : Sm F H) : ∀ {sh : Sh} {v : V} {d : D} {S : List Addr}, Own K F H sh v d S → Dat K H v d
  | _, _, _, _, .d (bw := false) h => h.mono e
  | _, _, _, _, .d (bw := true) h => h
  | _, _, _, _, .l h r => .lst h (OwnL.toB e r)
  | _, _, _, _, .na _ h => h.mono e
  | _, _, _, _, .nl h r => .lst h (OwnL.toB e r)
  | _, _, _, _, .nt h r => .tup (SqT.of h) (OwnL.toB e r)
  | _, _, _, _, .i c h l r => .obj c h l (r.mono e)
  | _, _, _, _, .q h l r => .dic h l (r.mono e)
  | _, _, _, _, .qt h l r => .dct h l (r.mono e)
theorem OwnL.toB (e : Sm F H) : ∀ {sh : Sh} {vs : List V} {ds : List D} {S : List Addr}, OwnL K F H sh vs ds S → DatL K H vs ds
  | _, _, _, _, .nil => .nil
  | _, _, _, _, .cons h r => .cons (Own.toB e h) (OwnL.toB e r)
end
mutual
/-- frozen: F' has what is owned, too -/
theorem Own.frz (e : Sm F F') : ∀ {sh : Sh} {v : V} {d : D} {S : List Addr}, sh.noB = true → Own K F H sh v d S → (∀ a ∈ S, F' a = H a) → Dat K F' v d
  | _, _, _, _, _, .d (bw := false) h, _ => h.mono e
  | _, _, _, _, n, .d (bw := true) _, _ => nomatch n
  | _, _, _, _, n, .l h r, k => .lst ((k _ List.mem_cons_self).trans h) (OwnL.frz e (by exact n) r fun a m => k a (List.mem_cons_of_mem _ m))
  | _, _, _, _, _, .na _ h, _ => h.mono e
  | _, _, _, _, _, .nl h r, k => .lst ((k _ List.mem_cons_self).trans h) (OwnL.frz e rfl r fun a m => k a (List.mem_cons_of_mem _ m))
  | _, _, _, _, _, .nt h r, k => .tup (SqT.of ((k _ List.mem_cons_self).trans h)) (OwnL.frz e rfl r fun a m => k a (List.mem_cons_of_mem _ m))
  | _, _, _, _, _, .i c h l r, k => .obj c ((k _ List.mem_cons_self).trans h) l (r.mono e)
  | _, _, _, _, _, .q h l r, k => .dic ((k _ List.mem_cons_self).trans h) l (r.mono e)
  | _, _, _, _, _, .qt h l r, k => .dct ((k _ List.mem_cons_self).trans h) l (r.mono e)
theorem OwnL.frz (e : Sm F F') : ∀ {sh : Sh} {vs : List V} {ds : List D} {S : List Addr}, sh.noB = true → OwnL K F H sh vs ds S → (∀ a ∈ S, F' a = H a) → DatL K F' vs ds
  | _, _, _, _, _, .nil, _ => .nil
  | _, _, _, _, n, .cons h r, k => .cons (Own.frz e n h fun a m => k a (List.mem_append_left _ m)) (OwnL.frz e n r fun a m => k a (List.mem_append_right _ m))
end
mutual
/-- what is owned is there, and no table -/
theorem Own.there : ∀ {sh : Sh} {v : V} {d : D} {S : List Addr}, Own K F H sh v d S → ∀ a ∈ S, ∃ o, H a = some o ∧ isTbl o = false
  | _, _, _, _, .d _, _, m => by cases m
  | _, _, _, _, .l h r, a, m => by
    rcases List.mem_cons.mp m with e | m
    · subst e; exact ⟨_, h, rfl⟩
    · exact OwnL.there r a m
  | _, _, _, _, .na _ _, _, m => by cases m
  | _, _, _, _, .nl h r, a, m => by
    rcases List.mem_cons.mp m with e | m
    · subst e; exact ⟨_, h, rfl⟩
    · exact OwnL.there r a m
  | _, _, _, _, .nt h r, a, m => by
    rcases List.mem_cons.mp m with e | m
    · subst e; exact ⟨_, h, rfl⟩
    · exact OwnL.there r a m
  | _, _, _, _, .i c h l r, a, m => by
    rcases List.mem_cons.mp m with e | m
    · subst e; exact ⟨_, h, rfl⟩
    · exact (nomatch m)
  | _, _, _, _, .q h l r, a, m => by
    rcases List.mem_cons.mp m with e | m
    · subst e; exact ⟨_, h, rfl⟩
    · exact (nomatch m)
  | _, _, _, _, .qt h l r, a, m => by
    rcases List.mem_cons.mp m with e | m
    · subst e; exact ⟨_, h, rfl⟩
    · exact (nomatch m)
theorem OwnL.there : ∀ {sh : Sh} {vs : List V} {ds : List D} {S : List Addr}, OwnL K F H sh vs ds S → ∀ a ∈ S, ∃ o, H a = some o ∧ isTbl o = false
  | _, _, _, _, .nil, _, m => by cases m
  | _, _, _, _, .cons h r, a, m => by
    rcases List.mem_append.mp m with m | m
    · exact Own.there h a m
    · exact OwnL.there r a m
end
theorem OwnL.length : ∀ {e : Sh} {vs : List V} {ds : List D} {S : List Addr}, OwnL K F H e vs ds S → vs.length = ds.length
  | _, _, _, _, .nil => rfl
  | _, _, _, _, .cons _ r => by rw [List.length_cons, List.length_cons, OwnL.length r]
theorem OwnL.ofDat : ∀ {vs : List V} {ds : List D}, DatL K F vs ds → OwnL K F H .s vs ds []
  | _, _, .nil => .nil
  | _, _, .cons h r => OwnL.cons (S := []) (S' := []) (.d (bw := false) h) (OwnL.ofDat r)
theorem OwnL.datS : ∀ {vs : List V} {ds : List D} {S : List Addr}, OwnL K F H .s vs ds S → DatL K F vs ds ∧ S = []
  | _, _, _, .nil => ⟨.nil, rfl⟩
  | _, _, _, .cons (.d h) r => by
    obtain ⟨a, b⟩ := OwnL.datS r
    exact ⟨.cons h a, by rw [b]; rfl⟩
end

/-! ### the law's environment -/
structure LE where
  K : PySem.W.Frag
  ca : Str → Addr
  T : List Addr

/-- an exception of the class c, its attributes -/
def ErrOk (L : LE) (c : Str) (fs : List (Str × D)) (cls : Value) (d : Option Addr) (F : Hp) (H : Hp) : Prop :=
  cls = .ref (L.ca c) ∧ match fs with
    | [] => d = none
    | _ => ∃ dx ws, d = some dx ∧ F dx = some (.xd ws) ∧ ∀ p ∈ fs, ∃ v, ws.lookup p.1 = some v ∧ isAtom p.2 = true ∧ Dat L.K F v p.2

/-- from F in H to F' in H': nothing that stood has changed -/
structure Ext (T : List Addr) (F H F' H' : Hp) : Prop where
  hh : Sm H H'
  ht : ∀ P ∈ T, GxR.TabG H P → GxR.TabG H' P
  ff : Same F F'
  fh : Same F' H'
  hid : ∀ a o, H a = some o → isTbl o = false → F a = none → F' a = none
  nt : NoT F'
section
variable {T : List Addr} {F H F' H' F2 H2 : Hp}
theorem Ext.refl (a : Same F H) (n : NoT F) : Ext T F H F H := ⟨.refl _, fun _ _ h => h, .refl _, a, fun _ _ _ _ h => h, n⟩
theorem Ext.back (e : Ext T F H F' H') {a : Addr} (h : Nw H' a) : Nw H a := h.back e.hh
theorem Ext.trans (a : Ext T F H F' H') (b : Ext T F' H' F2 H2) : Ext T F H F2 H2 :=
  ⟨a.hh.trans b.hh, fun P m h => b.ht P m (a.ht P m h), a.ff.trans b.ff, b.fh, fun c o h t n => b.hid c o (a.hh c o h t) t (a.hid c o h t n), b.nt⟩
theorem Same.none {F H : Hp} (s : Same F H) {p : Addr} (h : H p = none) : F p = none := s.free h
theorem sm_upd {H : Hp} {p : Addr} {o : HO} (h : H p = Option.none) : Sm H (upd H p o) := fun b u e _ => by
  rw [upd_ne (ne_of_none e h)]; exact e
theorem same_upd {H : Hp} {p : Addr} {o : HO} (h : H p = Option.none) : Same H (upd H p o) := fun b u e => by
  rw [upd_ne (ne_of_none e h)]; exact e
theorem tab_upd {H : Hp} {p P : Addr} {o : HO} (h : H p = Option.none) (t : GxR.TabG H P) : GxR.TabG (upd H p o) P := by
  obtain ⟨ps, e, k⟩ := t
  exact ⟨ps, by rw [upd_ne (ne_of_none e h)]; exact e, k⟩
/-- a new object, hidden -/
theorem Ext.newH {p : Addr} {o : HO} (s : Same F H) (n : NoT F) (h : H p = Option.none) : Ext T F H F (upd H p o) :=
  ⟨sm_upd h, fun _ _ t => tab_upd h t, .refl _, s.trans (same_upd h), fun _ _ _ _ q => q, n⟩
/-- a new object, frozen -/
theorem Ext.newF {p : Addr} {o : HO} (s : Same F H) (n : NoT F) (h : H p = Option.none) (t : isTbl o = false) : Ext T F H (upd F p o) (upd H p o) := by
  have hF : F p = Option.none := s.free h
  refine ⟨sm_upd h, fun _ _ t => tab_upd h t, same_upd hF, fun a u e => ?_, fun a u e _ q => ?_, fun a u e => ?_⟩
  · by_cases z : a = p
    · subst z; rw [upd_same] at e ⊢; exact e
    · rw [upd_ne z] at e ⊢; exact s a u e
  · rw [upd_ne (ne_of_none e h)]; exact q
  · by_cases z : a = p
    · subst z; rw [upd_same] at e; cases e; exact t
    · rw [upd_ne z] at e; exact n a u e
/-- what is owned and new becomes frozen -/
noncomputable def frzH (F H : Hp) (S : List Addr) : Hp := fun a => if a ∈ S then H a else F a
theorem frzH_in {S : List Addr} {a : Addr} (h : a ∈ S) : frzH F H S a = H a := if_pos h
theorem frzH_out {S : List Addr} {a : Addr} (h : a ∉ S) : frzH F H S a = F a := if_neg h
theorem frzH_same {S : List Addr} (h : ∀ a ∈ S, F a = Option.none) : Same F (frzH F H S) := fun a o e => by
  by_cases m : a ∈ S
  · rw [h a m] at e; cases e
  · rw [frzH_out m]; exact e
theorem frzH_to {S : List Addr} (s : Same F H) : Same (frzH F H S) H := fun a o e => by
  by_cases m : a ∈ S
  · rw [frzH_in m] at e; exact e
  · rw [frzH_out m] at e; exact s a o e
theorem frzH_nt {S : List Addr} (n : NoT F) (t : ∀ a ∈ S, ∃ o, H a = Option.some o ∧ isTbl o = false) : NoT (frzH F H S) := fun a o e => by
  by_cases m : a ∈ S
  · obtain ⟨o', h1, h2⟩ := t a m
    rw [frzH_in m, h1] at e; cases e; exact h2
  · rw [frzH_out m] at e; exact n a o e
end

/-! ### state -/
structure Bs (L : LE) (F B H : Hp) : Prop where
  fh : Same F H
  bh : Same B H
  fb : ∀ a o, B a = some o → F a = none
  nf : NoT F
  nb : NoT B
  tab : ∀ P ∈ L.T, GxR.TabG H P
structure Rep (L : LE) (fl : List Sh) (F B : Hp) (σ : L2.St) (H : Hp) (ρ : Env) : Prop where
  bs : Bs L F B H
  ls : σ.length = fl.length
  lr : ρ.length = fl.length
  px : ∀ (i : Nat) (v : V) (eo : Option (Addr × List (Str × V))), fl[i]? = some (Sh.x v eo) → σ[i]? = some (some v) ∧ ∀ dx ws, eo = some (dx, ws) → F dx = some (.xd ws)
  sl : ∃ Ss : Nat → List Addr, (∀ i d, ρ[i]? = some (some d) → ∃ v sh, σ[i]? = some (some v) ∧ fl[i]? = some sh ∧ sh.noB = true ∧ Own L.K F H sh v d (Ss i)) ∧
    (∀ i j a, a ∈ Ss i → a ∈ Ss j → i = j) ∧ (∀ i, (Ss i).Nodup) ∧ (∀ i a, a ∈ Ss i → F a = none ∧ B a = none ∧ ∃ o, H a = some o ∧ isTbl o = false)
section
variable {L : LE} {fl : List Sh} {F B H F' H' : Hp} {σ : L2.St} {ρ : Env}
theorem Bs.ext (r : Bs L F B H) (e : Ext L.T F H F' H') : Bs L F' B H' where
  fh := e.fh
  bh := fun a o h => e.hh a o (r.bh a o h) (r.nb a o h)
  fb := fun a o h => e.hid a o (r.bh a o h) (r.nb a o h) (r.fb a o h)
  nf := e.nt
  nb := r.nb
  tab := fun P h => e.ht P h (r.tab P h)
theorem Rep.ext (r : Rep L fl F B σ H ρ) (e : Ext L.T F H F' H') : Rep L fl F' B σ H' ρ := by
  refine ⟨r.bs.ext e, r.ls, r.lr, fun i v eo q => ⟨(r.px i v eo q).1, fun dx ws z => e.ff _ _ ((r.px i v eo q).2 dx ws z)⟩, ?_⟩
  obtain ⟨Ss, h1, h2, h3, h4⟩ := r.sl
  refine ⟨Ss, fun i d q => ?_, h2, h3, fun i a m => ?_⟩
  · obtain ⟨v, sh, a1, a2, a3, a4⟩ := h1 i d q
    exact ⟨v, sh, a1, a2, a3, a4.mono e.ff.sm e.hh⟩
  · obtain ⟨a1, a2, o, a3, a4⟩ := h4 i a m
    exact ⟨e.hid a o a3 a4 a1, a2, o, e.hh a o a3 a4, a4⟩
theorem Rep.refl (r : Rep L fl F B σ H ρ) : Ext L.T F H F H := .refl r.bs.fh r.bs.nf
theorem Rep.get (r : Rep L fl F B σ H ρ) {i : Nat} {d : D} (h : ρ[i]? = some (some d)) : ∃ v, σ[i]? = some (some v) ∧ Dat L.K H v d := by
  obtain ⟨Ss, h1, _⟩ := r.sl
  obtain ⟨v, sh, a1, _, _, a4⟩ := h1 i d h
  exact ⟨v, a1, a4.toB r.bs.fh.sm⟩
theorem Rep.getS (r : Rep L fl F B σ H ρ) {i : Nat} {d : D} (h : ρ[i]? = some (some d)) (hs : fl[i]? = some .s) : ∃ v, σ[i]? = some (some v) ∧ Dat L.K F v d := by
  obtain ⟨Ss, h1, _⟩ := r.sl
  obtain ⟨v, sh, a1, a2, _, a4⟩ := h1 i d h
  rw [hs] at a2
  cases a2
  generalize Ss i = S at a4
  cases a4 with
  | d h => exact ⟨v, a1, h⟩
end
end PD
set_option Elab.async false
set_option linter.all false
set_option maxRecDepth 100000
set_option maxHeartbeats 1000000
namespace PD
open PySem PySem.Spec PyProof.Rows L2

theorem _root_.L2.PE.imp {X : Cx} {e : Expr} {t t' : TE} (h : PE X e t) (k : ∀ σ H Q, t' σ H Q → t σ H Q) : PE X e t' := ⟨fun pins s σ H Q I hw => h.run pins s σ H Q I (k _ _ _ hw)⟩
theorem _root_.L2.PT.imp {X : Cx} {e : Expr} {t t' : TT} (h : PT X e t) (k : ∀ σ H Q, t' σ H Q → t σ H Q) : PT X e t' := ⟨fun pins s σ H Q I hw => h.run pins s σ H Q I (k _ _ _ hw)⟩
theorem _root_.L2.PW.imp {X : Cx} {e : Expr} {t t' : TT} (h : PW X e t) (k : ∀ σ H Q, t' σ H Q → t σ H Q) : PW X e t' := ⟨fun wh pins s σ H Q I hw => h.run wh pins s σ H Q I (k _ _ _ hw)⟩
theorem _root_.L2.PA.imp {X : Cx} {e : List Expr} {t t' : TA} (h : PA X e t) (k : ∀ σ H Q, t' σ H Q → t σ H Q) : PA X e t' := ⟨fun p pins s σ H Q I hw => h.run p pins s σ H Q I (k _ _ _ hw)⟩
theorem _root_.L2.PS.imp {X : Cx} {e : Stmt} {t t' : TS} (h : PS X e t) (k : ∀ D σ H, t' D σ H → t D σ H) : PS X e t' := ⟨fun pins s σ H D I hw => h.run pins s σ H D I (k _ _ _ hw)⟩
theorem _root_.L2.PSs.imp {X : Cx} {e : List Stmt} {t t' : TS} (h : PSs X e t) (k : ∀ D σ H, t' D σ H → t D σ H) : PSs X e t' := ⟨fun pins s σ H D I hw => h.run pins s σ H D I (k _ _ _ hw)⟩

/-! ### readings -/
def PostE (L : LE) (F H : Hp) (sh : Sh) (r : R D) (W : WX) (σ : L2.St) (Q : VK) : Prop := match r with
  | .ok d => ∀ v F' H' S, Ext L.T F H F' H' → Own L.K F' H' sh v d S → S.Nodup → (∀ a ∈ S, F' a = none ∧ Nw H a) → Q v H'
  | .err c fs => ∀ cls d F' H', Ext L.T F H F' H' → ErrOk L c fs cls d F' H' → W cls d σ H'
  | .stuck => False
def PostT (L : LE) (F H : Hp) (r : R Bool) (W : WX) (σ : L2.St) (Q : Bool → Hp → Prop) : Prop := match r with
  | .ok b => ∀ F' H', Ext L.T F H F' H' → Q b H'
  | .err c fs => ∀ cls d F' H', Ext L.T F H F' H' → ErrOk L c fs cls d F' H' → W cls d σ H'
  | .stuck => False
def PostA (L : LE) (F H : Hp) (bw : Bool) (r : R (List D)) (W : WX) (σ : L2.St) (Q : List V → Hp → Prop) : Prop := match r with
  | .ok ds => ∀ vs F' H', Ext L.T F H F' H' → DatL L.K (cond bw H' F') vs ds → Q vs H'
  | .err c fs => ∀ cls d F' H', Ext L.T F H F' H' → ErrOk L c fs cls d F' H' → W cls d σ H'
  | .stuck => False
def tD (L : LE) (fl : List Sh) (sh : Sh) (W : WX) (f : Env → R D) : TE := fun σ H Q => ∃ F B ρ, Rep L fl F B σ H ρ ∧ PostE L F H sh (f ρ) W σ Q
def tT (L : LE) (fl : List Sh) (W : WX) (f : Env → R Bool) : TT := fun σ H Q => ∃ F B ρ, Rep L fl F B σ H ρ ∧ PostT L F H (f ρ) W σ Q
def tA (L : LE) (fl : List Sh) (bw : Bool) (W : WX) (f : Env → R (List D)) : TA := fun σ H Q => ∃ F B ρ, Rep L fl F B σ H ρ ∧ PostA L F H bw (f ρ) W σ Q

/-! ### mirrors of expressions -/
def oR {α : Type} : Option α → R α
  | some a => .ok a
  | none => .stuck
def mV (i : Nat) : Env → R D := fun ρ => match ρ[i]? with
  | some (some d) => .ok d
  | _ => .stuck
def mC (d : D) : Env → R D := fun _ => .ok d
def m1 (g : D → Option D) (fa : Env → R D) : Env → R D := fun ρ => fa ρ >>= fun x => oR (g x)
def m2 (g : D → D → Option D) (fa fb : Env → R D) : Env → R D := fun ρ => fa ρ >>= fun x => fb ρ >>= fun y => oR (g x y)
def mN (g : List D → Option D) (fs : Env → R (List D)) : Env → R D := fun ρ => fs ρ >>= fun xs => oR (g xs)
def mNil : Env → R (List D) := fun _ => .ok []
def mCons (fa : Env → R D) (fr : Env → R (List D)) : Env → R (List D) := fun ρ => fa ρ >>= fun x => fr ρ >>= fun xs => .ok (x :: xs)
def dBool : D → Option Bool
  | .bl b => some b
  | _ => none
def mB (f : Env → R D) : Env → R Bool := fun ρ => f ρ >>= fun d => oR (dBool d)
def mBV (f : Env → R Bool) : Env → R D := fun ρ => f ρ >>= fun b => .ok (.bl b)
def mAnd (f g : Env → R Bool) : Env → R Bool := fun ρ => f ρ >>= fun b => if b = true then g ρ else .ok false
def mOr (f g : Env → R Bool) : Env → R Bool := fun ρ => f ρ >>= fun b => if b = true then .ok true else g ρ
def mNot (f : Env → R Bool) : Env → R Bool := fun ρ => f ρ >>= fun b => .ok (!b)
def mIf (c : Env → R Bool) (f g : Env → R D) : Env → R D := fun ρ => c ρ >>= fun b => if b = true then f ρ else g ρ
def mAndV (f g : Env → R D) : Env → R D := fun ρ => f ρ >>= fun d => oR (dBool d) >>= fun b => if b = true then g ρ else .ok (.bl false)
def mOrV (f g : Env → R D) : Env → R D := fun ρ => f ρ >>= fun d => oR (dBool d) >>= fun b => if b = true then .ok (.bl true) else g ρ

section
variable {L : LE} {fl : List Sh} {W : WX} {F F' H H' B : Hp} {sh : Sh} {σ : L2.St} {ρ : Env} {r : R D}
theorem dat_cond {K : PySem.W.Frag} {T : List Addr} {bw : Bool} {F H F' H' : Hp} {v : V} {d : D} (h : Dat K (cond bw H F) v d) (e : Ext T F H F' H') : Dat K (cond bw H' F') v d := by
  cases bw with
  | true => exact Dat.mono e.hh h
  | false => exact Dat.mono e.ff.sm h
theorem datL_cond {K : PySem.W.Frag} {T : List Addr} {bw : Bool} {F H F' H' : Hp} {v : List V} {d : List D} (h : DatL K (cond bw H F) v d) (e : Ext T F H F' H') : DatL K (cond bw H' F') v d := by
  cases bw with
  | true => exact DatL.mono e.hh h
  | false => exact DatL.mono e.ff.sm h
theorem dat_lift {K : PySem.W.Frag} {bw : Bool} {F H : Hp} {v : V} {d : D} (s : Same F H) (h : Dat K F v d) : Dat K (cond bw H F) v d := by
  cases bw with
  | true => exact Dat.mono s.sm h
  | false => exact h
/-- an atom is shared, wherever it is read -/
theorem dat_atom {K : PySem.W.Frag} {F H : Hp} {v : V} {d : D} (a : isAtom d = true) (h : Dat K H v d) : Dat K F v d := by
  cases h with
  | non => exact .non
  | bl => exact .bl
  | int => exact .int
  | str => exact .str
  | lst _ _ => cases a
  | tup _ _ => cases a
  | scr _ => cases a
  | rng _ => cases a
  | obj _ _ _ _ => cases a
  | dic _ _ _ => cases a
  | dct _ _ _ => cases a
theorem own_d {K : PySem.W.Frag} {bw : Bool} {F H : Hp} {v : V} {d : D} {S : List Addr} (h : Own K F H (.d bw) v d S) : Dat K (cond bw H F) v d ∧ S = [] := by
  cases h with
  | d h => exact ⟨h, rfl⟩
/-- an expression's result, atomic or shared -/
theorem postE_ok {d : D} {v : V} {Q : VK} {bw : Bool} (p : PostE L F H (.d bw) (.ok d) W σ Q) (e : Ext L.T F H F' H') (h : Dat L.K (cond bw H' F') v d) : Q v H' :=
  p v F' H' [] e (.d h) List.nodup_nil (fun a m => nomatch m)
end

/-! ### rules for expressions -/
section
variable {X : Cx} {L : LE} {fl : List Sh} {W : WX} {pos : Pos}
theorem e_var (i : Nat) {x : Str} {pos : Pos} (hN : X.N[i]? = some x := by rfl) (hv : Vis X.env.scope x := by first | exact Or.inl rfl | exact Or.inr (Or.inl rfl) | exact Or.inr (Or.inr rfl)) (hd : (x == ("__debug__" : Str)) = false := by decide)
    (hcd : (x == ("__classdict__" : Str)) = false := by decide) : PE X (.Name x pos) (tD L fl .b W (mV i)) := by
  refine (pv i hN hv hd hcd).imp fun σ H Q ⟨F, B, ρ, r, p⟩ => ?_
  unfold mV at p
  split at p
  · rename_i d e
    obtain ⟨v, a1, a2⟩ := r.get e
    exact ⟨v, a1, postE_ok p r.refl a2⟩
  · exact p.elim
theorem e_varS (i : Nat) {x : Str} {pos : Pos} (hs : fl[i]? = some .s := by rfl) (hN : X.N[i]? = some x := by rfl) (hv : Vis X.env.scope x := by first | exact Or.inl rfl | exact Or.inr (Or.inl rfl) | exact Or.inr (Or.inr rfl)) (hd : (x == ("__debug__" : Str)) = false := by decide)
    (hcd : (x == ("__classdict__" : Str)) = false := by decide) {bw : Bool} : PE X (.Name x pos) (tD L fl (.d bw) W (mV i)) := by
  refine (pv i hN hv hd hcd).imp fun σ H Q ⟨F, B, ρ, r, p⟩ => ?_
  unfold mV at p
  split at p
  · rename_i d e
    obtain ⟨v, a1, a2⟩ := r.getS e hs
    exact ⟨v, a1, postE_ok p r.refl (dat_lift r.bs.fh a2)⟩
  · exact p.elim
theorem e_int {i : Int} {j : Nat} {bw : Bool} : PE X (.Constant (.int i) j pos) (tD L fl (.d bw) W (mC (.int i))) :=
  pe_int.imp fun σ H Q ⟨F, B, ρ, r, p⟩ => postE_ok p r.refl .int
theorem e_bl {b : Bool} {j : Nat} {bw : Bool} : PE X (.Constant (.bool b) j pos) (tD L fl (.d bw) W (mC (.bl b))) :=
  pe_bl.imp fun σ H Q ⟨F, B, ρ, r, p⟩ => postE_ok p r.refl .bl
theorem e_non {j : Nat} {bw : Bool} : PE X (.Constant .none j pos) (tD L fl (.d bw) W (mC .non)) :=
  pe_non.imp fun σ H Q ⟨F, B, ρ, r, p⟩ => postE_ok p r.refl .non
theorem str_eq {x : Str} {s : List Nat} (h : x.cps.toList = s) : (⟨s.toArray⟩ : Str) = x := by
  subst h
  cases x
  simp
theorem e_str (s : List Nat) {x : Str} {j : Nat} {bw : Bool} (hx : x.cps.toList = s := by decide +kernel) : PE X (.Constant (.str x) j pos) (tD L fl (.d bw) W (mC (.str s))) :=
  pe_str.imp fun σ H Q ⟨F, B, ρ, r, p⟩ => postE_ok p r.refl (by rw [← str_eq hx]; exact .str)
/-- a module's constant: an int, a text -/
theorem e_gint {i : Int} {t : Tok} {x : Str} {bw : Bool} (hm : X.mg x = some (.int i t)) (hg : Gl X x := by rfl) (hd : (x == ("__debug__" : Str)) = false := by decide) : PE X (.Name x pos) (tD L fl (.d bw) W (mC (.int i))) :=
  (pe_glob (v := .int i) hg hm ⟨t, rfl⟩ hd).imp fun σ H Q ⟨F, B, ρ, r, p⟩ => postE_ok p r.refl .int
theorem e_gstr (s : List Nat) {y : Str} {t : Tok} {x : Str} {bw : Bool} (hm : X.mg x = some (.str y t)) (hy : y.cps.toList = s) (hg : Gl X x := by rfl) (hd : (x == ("__debug__" : Str)) = false := by decide) : PE X (.Name x pos) (tD L fl (.d bw) W (mC (.str s))) :=
  (pe_glob (v := .str y) hg hm ⟨t, rfl⟩ hd).imp fun σ H Q ⟨F, B, ρ, r, p⟩ => postE_ok p r.refl (by rw [← str_eq hy]; exact .str)
/-- what is shared or owned may be borrowed -/
theorem e_toB {e : Expr} {sh : Sh} {f : Env → R D} (h : PE X e (tD L fl sh W f)) : PE X e (tD L fl .b W f) :=
  h.imp fun σ H Q ⟨F, B, ρ, r, p⟩ => ⟨F, B, ρ, r, by
    unfold PostE at p ⊢
    split at p
    · exact fun v F' H' S e o nd fr => p v F' H' [] e (.d (bw := true) (o.toB e.fh.sm)) List.nodup_nil (fun a m => nomatch m)
    · exact p
    · exact p⟩
/-- what is owned and new is frozen -/
theorem e_frz {e : Expr} {sh : Sh} {f : Env → R D} (h : PE X e (tD L fl sh W f)) (n : sh.noB = true := by rfl) {bw : Bool} : PE X e (tD L fl (.d bw) W f) :=
  h.imp fun σ H Q ⟨F, B, ρ, r, p⟩ => ⟨F, B, ρ, r, by
    unfold PostE at p ⊢
    split at p
    · refine fun v F' H' S e o nd fr => ?_
      have s1 : Same F' (frzH F' H' S) := frzH_same fun a m => (fr a m).1
      have s2 : Same (frzH F' H' S) H' := frzH_to e.fh
      refine p v (frzH F' H' S) H' [] ⟨e.hh, e.ht, e.ff.trans s1, s2, fun a o' h1 t1 h2 => ?_, frzH_nt e.nt o.there⟩ (.d (dat_lift s2 (o.frz s1.sm n fun a m => frzH_in m))) List.nodup_nil (fun a m => nomatch m)
      by_cases m : a ∈ S
      · exact ((fr a m).2.no h1 t1).elim
      · rw [frzH_out m]; exact e.hid a o' h1 t1 h2
    · exact p
    · exact p⟩
/-- a borrowed atom is shared -/
def mAt (f : Env → R D) : Env → R D := fun ρ => f ρ >>= fun d => if isAtom d = true then .ok d else .stuck
theorem e_atom {e : Expr} {f : Env → R D} {bw : Bool} (h : PE X e (tD L fl .b W f)) : PE X e (tD L fl (.d bw) W (mAt f)) :=
  h.imp fun σ H Q ⟨F, B, ρ, r, p⟩ => ⟨F, B, ρ, r, by
    unfold mAt at p
    cases q : f ρ with
    | ok d =>
      rw [q, bind_ok] at p
      by_cases a : isAtom d = true
      · rw [if_pos a] at p
        exact fun v F' H' S e o nd fr => postE_ok p e (dat_atom a (own_d o).1)
      · rw [if_neg a] at p
        exact p.elim
    | err c fs => rw [q, bind_err] at p; exact p
    | stuck => rw [q, bind_stuck] at p; exact p⟩

/-- running one expression, then going on -/
theorem tD_bind {ta : TE} {sh : Sh} {f : Env → R D} {F B H : Hp} {σ : L2.St} {ρ : Env} (hta : ta = tD L fl sh W f) (r : Rep L fl F B σ H ρ) {Q Q' : VK} {k : D → R D} {sh' : Sh}
    (p : PostE L F H sh' (f ρ >>= k) W σ Q')
    (hk : ∀ d v F' H' S, f ρ = .ok d → Ext L.T F H F' H' → Rep L fl F' B σ H' ρ → Own L.K F' H' sh v d S → S.Nodup → (∀ a ∈ S, F' a = none ∧ Nw H a) → PostE L F H sh' (k d) W σ Q' → Q v H') : ta σ H Q := by
  subst hta
  refine ⟨F, B, ρ, r, ?_⟩
  cases q : f ρ with
  | ok d =>
    rw [q, bind_ok] at p
    exact fun v F' H' S e o nd fr => hk d v F' H' S q e (r.ext e) o nd fr p
  | err c fs => rw [q, bind_err] at p; exact p
  | stuck => rw [q, bind_stuck] at p; exact p
theorem PostE.weak {F H F' H' : Hp} {sh : Sh} {r : R D} {σ : L2.St} {Q : VK} (p : PostE L F H sh r W σ Q) (e : Ext L.T F H F' H') : PostE L F' H' sh r W σ Q := by
  unfold PostE at p ⊢
  split at p
  · exact fun v F2 H2 S e2 o nd fr => p v F2 H2 S (e.trans e2) o nd fun a m => ⟨(fr a m).1, e.back (fr a m).2⟩
  · exact fun cls d F2 H2 e2 x => p cls d F2 H2 (e.trans e2) x
  · exact p
theorem PostT.weak {F H F' H' : Hp} {r : R Bool} {σ : L2.St} {Q : Bool → Hp → Prop} (p : PostT L F H r W σ Q) (e : Ext L.T F H F' H') : PostT L F' H' r W σ Q := by
  unfold PostT at p ⊢
  split at p
  · exact fun F2 H2 e2 => p F2 H2 (e.trans e2)
  · exact fun cls d F2 H2 e2 x => p cls d F2 H2 (e.trans e2) x
  · exact p
theorem PostA.weak {F H F' H' : Hp} {bw : Bool} {r : R (List D)} {σ : L2.St} {Q : List V → Hp → Prop} (p : PostA L F H bw r W σ Q) (e : Ext L.T F H F' H') : PostA L F' H' bw r W σ Q := by
  unfold PostA at p ⊢
  split at p
  · exact fun vs F2 H2 e2 d => p vs F2 H2 (e.trans e2) d
  · exact fun cls d F2 H2 e2 x => p cls d F2 H2 (e.trans e2) x
  · exact p

/-- a two-place operation on values: operands borrowed (bw) or shared -/
def OpD (L : LE) (r : R2) (bw : Bool) (sh : Sh) (g : D → D → Option D) : Prop := ∀ (F H : Hp) (x y : V) (dx dy d : D), Same F H → NoT F → Dat L.K (cond bw H F) x dx → Dat L.K (cond bw H F) y dy → g dx dy = some d →
  ∀ Q : VK, (∀ v F' H' S, Ext L.T F H F' H' → Own L.K F' H' sh v d S → S.Nodup → (∀ a ∈ S, F' a = none ∧ Nw H a) → Q v H') → r x y H Q
theorem t_op2 {r : R2} {bw : Bool} {sh : Sh} {g : D → D → Option D} {fa fb : Env → R D} (hd : OpD L r bw sh g) {σ : L2.St} {H : Hp} {Q : VK} (h : tD L fl sh W (m2 g fa fb) σ H Q) :
    tOp r (tD L fl (.d bw) W fa) (tD L fl (.d bw) W fb) σ H Q := by
  obtain ⟨F, B, ρ, rp, p⟩ := h
  refine tD_bind rfl rp (k := fun x => fb ρ >>= fun y => oR (g x y)) p fun dx x F1 H1 S1 _ e1 r1 o1 _ _ p1 => ?_
  refine tD_bind rfl r1 (k := fun y => oR (g dx y)) (p1.weak e1) fun dy y F2 H2 S2 _ e2 r2 o2 _ _ p2 => ?_
  have p3 := p2.weak e2
  cases q : g dx dy with
  | none => rw [q] at p3; exact p3.elim
  | some d =>
    rw [q] at p3
    exact hd F2 H2 x y dx dy d r2.bs.fh r2.bs.nf (dat_cond (own_d o1).1 e2) (own_d o2).1 q Q p3
theorem e_op2 {a b : Expr} {op : Operator} {r : R2} {bw : Bool} {sh : Sh} {g : D → D → Option D} {fa fb : Env → R D} (ho : OpR X (binaryOp op) r) (hd : OpD L r bw sh g)
    (ha : PE X a (tD L fl (.d bw) W fa)) (hb : PE X b (tD L fl (.d bw) W fb)) : PE X (.BinOp a op b pos) (tD L fl sh W (m2 g fa fb)) := (pe_op ho ha hb).imp fun _ _ _ h => t_op2 hd h
theorem e_cmp {a b : Expr} {op : CmpOp} {r : R2} {bw : Bool} {sh : Sh} {g : D → D → Option D} {fa fb : Env → R D} (ho : OpR X (compareOp op) r) (hd : OpD L r bw sh g)
    (ha : PE X a (tD L fl (.d bw) W fa)) (hb : PE X b (tD L fl (.d bw) W fb)) (hm : behindInMarks op b = false := by first | exact nomark _ | rfl) : PE X (.Compare a [op] [b] pos) (tD L fl sh W (m2 g fa fb)) := (pe_cmpR ho ha hb hm).imp fun _ _ _ h => t_op2 hd h
/-- a bool's reading as a test -/
theorem tT_of {f : Env → R D} {σ : L2.St} {H : Hp} {Q : Bool → Hp → Prop} (h : tT L fl W (mB f) σ H Q) : tD L fl .s W f σ H fun v H' => ∃ k, v = .bl k ∧ Q k H' := by
  obtain ⟨F, B, ρ, r, p⟩ := h
  refine ⟨F, B, ρ, r, ?_⟩
  unfold mB at p
  cases q : f ρ with
  | ok d =>
    rw [q, bind_ok] at p
    intro v F' H' S e o _ _
    have dv := (own_d o).1
    cases d with
    | bl b =>
      cases dv
      exact ⟨b, rfl, p F' H' e⟩
    | _ => exact p.elim
  | err c fs => rw [q, bind_err] at p; exact p
  | stuck => rw [q, bind_stuck] at p; exact p
theorem t_cmp {a b : Expr} {op : CmpOp} {r : R2} {bw : Bool} {g : D → D → Option D} {fa fb : Env → R D} (ho : OpR X (compareOp op) r) (hd : OpD L r bw .s g)
    (ha : PE X a (tD L fl (.d bw) W fa)) (hb : PE X b (tD L fl (.d bw) W fb)) (hm : behindInMarks op b = false := by first | exact nomark _ | rfl) : PT X (.Compare a [op] [b] pos) (tT L fl W (mB (m2 g fa fb))) :=
  (pt_cmpR ho ha hb hm).imp fun _ _ _ h => t_op2 hd (tT_of h)
/-- an expression that yields a bool, as a test -/
theorem t_val {e : Expr} {f : Env → R D} (he : PE X e (tD L fl .s W f)) (hw : ∀ whole, isTrue e X.env whole = (do let v ← whole; standAt e.pos; holding [v] (truthy v)) := by intro _; rfl) : PT X e (tT L fl W (mB f)) :=
  (pt_val he hw).imp fun _ _ _ h => tT_of h
theorem t_and2 {a : Expr} {b : Expr} {rest : List Expr} {f g : Env → R Bool} (ha : PT X a (tT L fl W f)) (hb : PW X (.BoolOp .And (b :: rest) pos) (tT L fl W g)) : PW X (.BoolOp .And (a :: b :: rest) pos) (tT L fl W (mAnd f g)) :=
  (pw_and ha hb).imp fun σ H Q ⟨F, B, ρ, r, p⟩ => ⟨F, B, ρ, r, by
    unfold mAnd at p
    cases q : f ρ with
    | ok c =>
      rw [q, bind_ok] at p
      intro F' H' e
      cases c with
      | true => rw [if_pos rfl] at p ⊢; exact ⟨F', B, ρ, r.ext e, p.weak e⟩
      | false => rw [if_neg Bool.false_ne_true] at p ⊢; exact p F' H' e
    | err c fs => rw [q, bind_err] at p; exact p
    | stuck => rw [q, bind_stuck] at p; exact p⟩
theorem t_or2 {a : Expr} {b : Expr} {rest : List Expr} {f g : Env → R Bool} (ha : PT X a (tT L fl W f)) (hb : PW X (.BoolOp .Or (b :: rest) pos) (tT L fl W g)) : PW X (.BoolOp .Or (a :: b :: rest) pos) (tT L fl W (mOr f g)) :=
  (pw_or ha hb).imp fun σ H Q ⟨F, B, ρ, r, p⟩ => ⟨F, B, ρ, r, by
    unfold mOr at p
    cases q : f ρ with
    | ok c =>
      rw [q, bind_ok] at p
      intro F' H' e
      cases c with
      | true => rw [if_pos rfl] at p ⊢; exact p F' H' e
      | false => rw [if_neg Bool.false_ne_true] at p ⊢; exact ⟨F', B, ρ, r.ext e, p.weak e⟩
    | err c fs => rw [q, bind_err] at p; exact p
    | stuck => rw [q, bind_stuck] at p; exact p⟩
theorem t_and1 {a : Expr} {f : Env → R Bool} (ha : PT X a (tT L fl W f)) : PW X (.BoolOp .And [a] pos) (tT L fl W f) := pw_and1 ha
theorem t_or1 {a : Expr} {f : Env → R Bool} (ha : PT X a (tT L fl W f)) : PW X (.BoolOp .Or [a] pos) (tT L fl W f) := pw_or1 ha
theorem t_not {a : Expr} {f : Env → R Bool} (ha : PT X a (tT L fl W f)) : PT X (.UnaryOp .Not a pos) (tT L fl W (mNot f)) :=
  (pt_not ha).imp fun σ H Q ⟨F, B, ρ, r, p⟩ => ⟨F, B, ρ, r, by
    unfold mNot at p
    cases q : f ρ with
    | ok c => rw [q, bind_ok] at p; exact fun F' H' e => p F' H' e
    | err c fs => rw [q, bind_err] at p; exact p
    | stuck => rw [q, bind_stuck] at p; exact p⟩
theorem e_if {c a b : Expr} {fc : Env → R Bool} {fa fb : Env → R D} {sh : Sh} (hc : PT X c (tT L fl W fc)) (ha : PE X a (tD L fl sh W fa)) (hb : PE X b (tD L fl sh W fb)) : PE X (.IfExp c a b pos) (tD L fl sh W (mIf fc fa fb)) :=
  (pe_ifExp hc ha hb).imp fun σ H Q ⟨F, B, ρ, r, p⟩ => ⟨F, B, ρ, r, by
    unfold mIf at p
    cases q : fc ρ with
    | ok c =>
      rw [q, bind_ok] at p
      intro F' H' e
      cases c with
      | true => rw [if_pos rfl] at p ⊢; exact ⟨F', B, ρ, r.ext e, p.weak e⟩
      | false => rw [if_neg Bool.false_ne_true] at p ⊢; exact ⟨F', B, ρ, r.ext e, p.weak e⟩
    | err c fs => rw [q, bind_err] at p; exact p
    | stuck => rw [q, bind_stuck] at p; exact p⟩
/-- and, or, not as values -/
theorem e_one {op : BoolOp} {a : Expr} {sh : Sh} {f : Env → R D} (h : PE X a (tD L fl sh W f)) : PE X (.BoolOp op [a] pos) (tD L fl sh W f) := pe_one h
theorem e_and {a b : Expr} {rest : List Expr} {f g : Env → R D} {bw : Bool} (ha : PE X a (tD L fl .s W f)) (hb : PE X (.BoolOp .And (b :: rest) pos) (tD L fl (.d bw) W g)) : PE X (.BoolOp .And (a :: b :: rest) pos) (tD L fl (.d bw) W (mAndV f g)) :=
  (pe_and ha hb).imp fun σ H Q ⟨F, B, ρ, r, p⟩ => by
    refine tD_bind rfl r (k := fun d => oR (dBool d) >>= fun b => if b = true then g ρ else .ok (.bl false)) p fun d v F1 H1 S1 _ e1 r1 o1 _ _ p1 => ?_
    have dv := (own_d o1).1
    cases d with
    | bl c =>
      cases dv
      refine ⟨c, rfl, ?_⟩
      have p2 : PostE L F H (.d bw) (if c = true then g ρ else .ok (.bl false)) W σ Q := p1
      cases c with
      | true => rw [if_pos rfl] at p2 ⊢; exact ⟨F1, B, ρ, r1, p2.weak e1⟩
      | false => rw [if_neg Bool.false_ne_true] at p2 ⊢; exact postE_ok p2 e1 .bl
    | _ => exact p1.elim
theorem e_or {a b : Expr} {rest : List Expr} {f g : Env → R D} {bw : Bool} (ha : PE X a (tD L fl .s W f)) (hb : PE X (.BoolOp .Or (b :: rest) pos) (tD L fl (.d bw) W g)) : PE X (.BoolOp .Or (a :: b :: rest) pos) (tD L fl (.d bw) W (mOrV f g)) :=
  (pe_or ha hb).imp fun σ H Q ⟨F, B, ρ, r, p⟩ => by
    refine tD_bind rfl r (k := fun d => oR (dBool d) >>= fun b => if b = true then .ok (.bl true) else g ρ) p fun d v F1 H1 S1 _ e1 r1 o1 _ _ p1 => ?_
    have dv := (own_d o1).1
    cases d with
    | bl c =>
      cases dv
      refine ⟨c, rfl, ?_⟩
      have p2 : PostE L F H (.d bw) (if c = true then .ok (.bl true) else g ρ) W σ Q := p1
      cases c with
      | true => rw [if_pos rfl] at p2 ⊢; exact postE_ok p2 e1 .bl
      | false => rw [if_neg Bool.false_ne_true] at p2 ⊢; exact ⟨F1, B, ρ, r1, p2.weak e1⟩
    | _ => exact p1.elim
def dNot : D → Option D
  | .bl b => some (.bl !b)
  | _ => none
theorem e_not {a : Expr} {f : Env → R D} {bw : Bool} (ha : PE X a (tD L fl .s W f)) : PE X (.UnaryOp .Not a pos) (tD L fl (.d bw) W (m1 dNot f)) :=
  (pe_not ha).imp fun σ H Q ⟨F, B, ρ, r, p⟩ => by
    refine tD_bind rfl r (k := fun d => oR (dNot d)) p fun d v F1 H1 S1 _ e1 r1 o1 _ _ p1 => ?_
    have dv := (own_d o1).1
    cases d with
    | bl c =>
      cases dv
      exact ⟨c, rfl, postE_ok (d := .bl (!c)) p1 e1 .bl⟩
    | _ => exact p1.elim
/-- a chain of two comparisons -/
def mChain (g g' : D → D → Option D) (fa fb fc : Env → R D) : Env → R D := fun ρ => fa ρ >>= fun x => fb ρ >>= fun y => oR (g x y) >>= fun z => oR (dBool z) >>= fun k => if k = true then fc ρ >>= fun u => oR (g' y u) else .ok (.bl false)
theorem t_chain {r r' : R2} {bw : Bool} {g g' : D → D → Option D} {fa fb fc : Env → R D} (hd : OpD L r bw .s g) (hd' : OpD L r' bw .s g') {σ : L2.St} {H : Hp} {Q : VK} {bw2 : Bool}
    (h : tD L fl (.d bw2) W (mChain g g' fa fb fc) σ H Q) : tChain r r' (tD L fl (.d bw) W fa) (tD L fl (.d bw) W fb) (tD L fl (.d bw) W fc) σ H Q := by
  obtain ⟨F, B, ρ, rp, p⟩ := h
  refine tD_bind rfl rp (k := fun x => fb ρ >>= fun y => oR (g x y) >>= fun z => oR (dBool z) >>= fun k => if k = true then fc ρ >>= fun u => oR (g' y u) else .ok (.bl false)) p fun dx x F1 H1 S1 _ e1 r1 o1 _ _ p1 => ?_
  refine tD_bind rfl r1 (k := fun y => oR (g dx y) >>= fun z => oR (dBool z) >>= fun k => if k = true then fc ρ >>= fun u => oR (g' y u) else .ok (.bl false)) (p1.weak e1) fun dy y F2 H2 S2 _ e2 r2 o2 _ _ p2 => ?_
  have p3 := p2.weak e2
  cases q : g dx dy with
  | none => rw [q] at p3; exact p3.elim
  | some d =>
    rw [q] at p3
    refine hd F2 H2 x y dx dy d r2.bs.fh r2.bs.nf (dat_cond (own_d o1).1 e2) (own_d o2).1 q _ fun v F3 H3 S3 e3 o3 _ _ => ?_
    have dv := (own_d o3).1
    cases d with
    | bl c =>
      cases dv
      refine ⟨c, rfl, ?_⟩
      have p4 : PostE L F2 H2 (.d bw2) (if c = true then fc ρ >>= fun u => oR (g' dy u) else .ok (.bl false)) W σ Q := p3
      cases c with
      | true =>
        rw [if_pos rfl] at p4 ⊢
        refine tD_bind rfl (r2.ext e3) (k := fun u => oR (g' dy u)) (p4.weak e3) fun du u F4 H4 S4 _ e4 r4 o4 _ _ p5 => ?_
        have p6 := p5.weak e4
        cases q' : g' dy du with
        | none => rw [q'] at p6; exact p6.elim
        | some d' =>
          rw [q'] at p6
          refine hd' F4 H4 y u dy du d' r4.bs.fh r4.bs.nf (dat_cond (dat_cond (own_d o2).1 e3) e4) (own_d o4).1 q' _ fun v F5 H5 S5 e5 o5 _ _ => ?_
          obtain ⟨dv, _⟩ := own_d o5
          exact postE_ok p6 e5 (dat_lift e5.fh dv)
      | false => rw [if_neg Bool.false_ne_true] at p4 ⊢; exact postE_ok p4 e3 .bl
    | _ => exact p3.elim
theorem e_chain {a b c : Expr} {op op' : CmpOp} {r r' : R2} {bw bw2 : Bool} {g g' : D → D → Option D} {fa fb fc : Env → R D} (ho : OpR X (compareOp op) r) (hd : OpD L r bw .s g) (ho' : OpR X (compareOp op') r') (hd' : OpD L r' bw .s g')
    (ha : PE X a (tD L fl (.d bw) W fa)) (hb : PE X b (tD L fl (.d bw) W fb)) (hc : PE X c (tD L fl (.d bw) W fc)) (hm : lastMarks [op, op'] [b, c] = false := by with_unfolding_all rfl) : PE X (.Compare a [op, op'] [b, c] pos) (tD L fl (.d bw2) W (mChain g g' fa fb fc)) :=
  (pe_chain ho ho' ha hb hc hm).imp fun _ _ _ h => t_chain hd hd' h
theorem t_chainT {a b c : Expr} {op op' : CmpOp} {r r' : R2} {bw : Bool} {g g' : D → D → Option D} {fa fb fc : Env → R D} (ho : OpR X (compareOp op) r) (hd : OpD L r bw .s g) (ho' : OpR X (compareOp op') r') (hd' : OpD L r' bw .s g')
    (ha : PE X a (tD L fl (.d bw) W fa)) (hb : PE X b (tD L fl (.d bw) W fb)) (hc : PE X c (tD L fl (.d bw) W fc)) (hm : lastMarks [op, op'] [b, c] = false := by with_unfolding_all rfl) : PT X (.Compare a [op, op'] [b, c] pos) (tT L fl W (mB (mChain g g' fa fb fc))) :=
  (pt_chain ho ho' ha hb hc hm).imp fun _ _ _ h => t_chain hd hd' (tT_of h)

/-! ### truth -/
def LN : Nat := 1000000
theorem LN_le : LN ≤ sizeLine := by rw [sizeLine_eq]; decide
theorem le_line {n : Nat} (h : n ≤ LN) : n ≤ sizeLine := Nat.le_trans h LN_le
theorem lt_line {n : Nat} (h : n < LN) : n < sizeLine := Nat.lt_of_lt_of_le h LN_le
def dTru : D → Option Bool
  | .non => some false
  | .bl b => some b
  | .int i => some (i != 0)
  | .str s => if s.length ≤ LN then some (!s.isEmpty) else none
  | .lst xs => some (!xs.isEmpty)
  | .tup xs => some (!xs.isEmpty)
  | .scr xs => some (!xs.isEmpty)
  | .rng _ _ => none
  | .obj _ _ _ => none
  | .dic _ _ => none
  | .dct _ _ => none
def mTru (f : Env → R D) : Env → R Bool := fun ρ => f ρ >>= fun d => oR (dTru d)
theorem isEmpty_len {α β : Type} {xs : List α} {ys : List β} (h : xs.length = ys.length) : xs.isEmpty = ys.isEmpty := by
  cases xs <;> cases ys <;> simp at h ⊢
theorem tru_of {K : PySem.W.Frag} {H : Hp} {v : V} {d : D} {k : Bool} (h : Dat K H v d) (e : dTru d = some k) : TruV K v H k := by
  cases h with
  | non => exact (Option.some.inj e).symm
  | bl => exact (Option.some.inj e).symm
  | int => exact (Option.some.inj e).symm
  | str =>
    rename_i s
    unfold dTru at e
    dsimp only at e
    by_cases q : s.length ≤ LN
    · rw [if_pos q] at e
      refine ⟨le_line (by simpa [Str.length] using q), ?_⟩
      rw [← Option.some.inj e]
      cases s <;> simp [Str.length]
      omega
    · rw [if_neg q] at e; cases e
  | lst h r => exact .inl ⟨_, SqL.of h, by rw [← Option.some.inj e, isEmpty_len r.length]⟩
  | tup h r => exact .inr (.inl ⟨_, h, by rw [← Option.some.inj e, isEmpty_len r.length]⟩)
  | scr h => exact .inl ⟨_, h, by rw [← Option.some.inj e, isEmpty_len (List.length_map ..)]⟩
  | rng _ => cases e
  | obj _ _ _ _ => cases e
  | dic _ _ _ => cases e
  | dct _ _ _ => cases e
theorem t_tru {e : Expr} {f : Env → R D} (he : PE X e (tD L fl .b W f)) (hK : X.K = L.K := by rfl) (hw : ∀ whole, isTrue e X.env whole = (do let v ← whole; standAt e.pos; holding [v] (truthy v)) := by intro _; rfl) : PT X e (tT L fl W (mTru f)) :=
  (pt_truth he hw).imp fun σ H Q ⟨F, B, ρ, r, p⟩ => ⟨F, B, ρ, r, by
    unfold mTru at p
    cases q : f ρ with
    | ok d =>
      rw [q, bind_ok] at p
      intro v F' H' S e o _ _
      cases q2 : dTru d with
      | none => rw [q2] at p; exact p.elim
      | some k =>
        rw [q2] at p
        exact ⟨k, by rw [hK]; exact tru_of (own_d o).1 q2, p F' H' e⟩
    | err c fs => rw [q, bind_err] at p; exact p
    | stuck => rw [q, bind_stuck] at p; exact p⟩

/-! ### arguments -/
theorem a_nil {bw : Bool} : PA X [] (tA L fl bw W mNil) := pa_nil.imp fun σ H Q ⟨F, B, ρ, r, p⟩ => p [] F H r.refl .nil
theorem PostA.bindE {F H : Hp} {bw : Bool} {σ : L2.St} {Q : List V → Hp → Prop} {r : R D} {k : D → R (List D)} {P : VK} (p : PostA L F H bw (r >>= k) W σ Q) (h : ∀ d v F' H', r = .ok d → PostA L F H bw (k d) W σ Q → Ext L.T F H F' H' → Dat L.K (cond bw H' F') v d → P v H') : PostE L F H (.d bw) r W σ P := by
  cases r with
  | ok d => exact fun v F' H' S e o _ _ => h d v F' H' rfl p e (own_d o).1
  | err c fs => exact p
  | stuck => exact p
theorem a_cons {e : Expr} {es : List Expr} {bw : Bool} {f : Env → R D} {fs : Env → R (List D)} (he : PE X e (tD L fl (.d bw) W f)) (hr : PA X es (tA L fl bw W fs)) (hs : starEach (e :: es) X.env = (false, eval e X.env) :: starEach es X.env := by rfl) :
    PA X (e :: es) (tA L fl bw W (mCons f fs)) :=
  (pa_cons he hr hs).imp fun σ H Q ⟨F, B, ρ, r, p⟩ => ⟨F, B, ρ, r, PostA.bindE p fun d v F1 H1 _ p1 e1 d1 => ⟨F1, B, ρ, r.ext e1, by
    have p2 := p1.weak e1
    cases q : fs ρ with
    | ok ds =>
      rw [q, bind_ok] at p2
      exact fun vs F2 H2 e2 d2 => p2 (v :: vs) F2 H2 e2 (.cons (dat_cond d1 e2) d2)
    | err c xs => rw [q, bind_err] at p2; exact p2
    | stuck => rw [q, bind_stuck] at p2; exact p2⟩⟩
/-- displays -/
def dTup (xs : List D) : Option D := if xs.length ≤ LN then some (.tup xs) else none
def dLst (xs : List D) : Option D := if xs.length ≤ LN then some (.lst xs) else none
theorem tA_bind {ta : TA} {bw : Bool} {f : Env → R (List D)} {F B H : Hp} {σ : L2.St} {ρ : Env} (hta : ta = tA L fl bw W f) (r : Rep L fl F B σ H ρ) {Q : List V → Hp → Prop} {Q' : VK} {k : List D → R D} {sh' : Sh}
    (p : PostE L F H sh' (f ρ >>= k) W σ Q')
    (hk : ∀ ds vs F' H', f ρ = .ok ds → Ext L.T F H F' H' → Rep L fl F' B σ H' ρ → DatL L.K (cond bw H' F') vs ds → PostE L F' H' sh' (k ds) W σ Q' → Q vs H') : ta σ H Q := by
  subst hta
  refine ⟨F, B, ρ, r, ?_⟩
  cases q : f ρ with
  | ok ds =>
    rw [q, bind_ok] at p
    exact fun vs F' H' e o => hk ds vs F' H' q e (r.ext e) o (p.weak e)
  | err c fs => rw [q, bind_err] at p; exact p
  | stuck => rw [q, bind_stuck] at p; exact p
theorem e_tup {es : List Expr} {x1 : Nat} {bw : Bool} {fs : Env → R (List D)} (h : PA X es (tA L fl false W fs)) : PE X (.Tuple es x1 pos) (tD L fl (.d bw) W (mN dTup fs)) :=
  (pe_tup h).imp fun σ H Q ⟨F, B, ρ, r, p⟩ => by
    refine tA_bind rfl r (k := fun xs => oR (dTup xs)) p fun ds vs F1 H1 _ e1 r1 d1 p1 => ?_
    have hl := d1.length
    unfold dTup at p1
    by_cases q : ds.length ≤ LN
    · rw [if_pos q] at p1
      refine ⟨le_line (by omega), fun a hp => ?_⟩
      have e2 := Ext.newF (T := L.T) (o := .tup vs) r1.bs.fh r1.bs.nf hp rfl
      exact postE_ok p1 e2 (dat_lift e2.fh (.tup (SqT.of upd_same) (d1.mono e2.ff.sm)))
    · rw [if_neg q] at p1; exact p1.elim
theorem e_lst {es : List Expr} {fs : Env → R (List D)} (h : PA X es (tA L fl false W fs)) : PE X (.List es pos) (tD L fl (.l .s) W (mN dLst fs)) :=
  (pe_lst h).imp fun σ H Q ⟨F, B, ρ, r, p⟩ => by
    refine tA_bind rfl r (k := fun xs => oR (dLst xs)) p fun ds vs F1 H1 _ e1 r1 d1 p1 => ?_
    have hl := d1.length
    unfold dLst at p1
    by_cases q : ds.length ≤ LN
    · rw [if_pos q] at p1
      refine ⟨le_line (by omega), fun a hp => ?_⟩
      refine p1 _ F1 _ [a] (Ext.newH (T := L.T) r1.bs.fh r1.bs.nf hp) (.l upd_same (OwnL.ofDat d1)) (by simp) fun b m => ?_
      have e : b = a := by simpa using m
      subst e
      exact ⟨r1.bs.fh.free hp, .of hp⟩
    · rw [if_neg q] at p1; exact p1.elim
/-- built-ins on values -/
def CallD (L : LE) (r : List V → Hp → VK → Prop) (bw : Bool) (sh : Sh) (g : List D → Option D) : Prop := ∀ (F H : Hp) (vs : List V) (ds : List D) (d : D), Same F H → NoT F → DatL L.K (cond bw H F) vs ds → g ds = some d →
  ∀ Q : VK, (∀ v F' H' S, Ext L.T F H F' H' → Own L.K F' H' sh v d S → S.Nodup → (∀ a ∈ S, F' a = none ∧ Nw H a) → Q v H') → r vs H Q
theorem t_call {r : List V → Hp → VK → Prop} {bw : Bool} {sh : Sh} {g : List D → Option D} {fs : Env → R (List D)} (hd : CallD L r bw sh g) {σ : L2.St} {H : Hp} {Q : VK} (h : tD L fl sh W (mN g fs) σ H Q) : tCB r (tA L fl bw W fs) σ H Q := by
  obtain ⟨F, B, ρ, rp, p⟩ := h
  refine tA_bind rfl rp (k := fun xs => oR (g xs)) p fun ds vs F1 H1 _ e1 r1 d1 p1 => ?_
  cases q : g ds with
  | none => rw [q] at p1; exact p1.elim
  | some d => rw [q] at p1; exact hd F1 H1 vs ds d r1.bs.fh r1.bs.nf d1 q Q p1
theorem e_callB {id : String} {x : Str} {p : Pos} {e : Expr} {es : List Expr} {r : List V → Hp → VK → Prop} {bw : Bool} {sh : Sh} {g : List D → Option D} {fs : Env → R (List D)} (hc : CallR X (.builtin id) r) (hd : CallD L r bw sh g) (hm : X.mg x = none) (hv : bootBuiltins x = some (.builtin id))
    (ha : PA X (e :: es) (tA L fl bw W fs)) (hg : Gl X x := by rfl) (hn : x ≠ "__name__" := by decide) (hdb : (x == ("__debug__" : Str)) = false := by decide) (he : starEach (e :: es) X.env = (false, eval e X.env) :: starEach es X.env := by rfl) (hpl : (backTo pos (starEach es X.env)).any (·.1) = false := by rfl) :
    PE X (.Call (.Name x p) (e :: es) [] pos) (tD L fl sh W (mN g fs)) := (pe_callB hc hg hm hv ha hn hdb he hpl).imp fun _ _ _ h => t_call hd h
theorem e_callT {T : String} {x : Str} {p : Pos} {e : Expr} {es : List Expr} {r : List V → Hp → VK → Prop} {bw : Bool} {sh : Sh} {g : List D → Option D} {fs : Env → R (List D)} (hc : CallR X (.type T) r) (hd : CallD L r bw sh g) (hm : X.mg x = none) (hv : bootBuiltins x = some (.type T))
    (ha : PA X (e :: es) (tA L fl bw W fs)) (hg : Gl X x := by rfl) (hn : x ≠ "__name__" := by decide) (hdb : (x == ("__debug__" : Str)) = false := by decide) (he : starEach (e :: es) X.env = (false, eval e X.env) :: starEach es X.env := by rfl) (hpl : (backTo pos (starEach es X.env)).any (·.1) = false := by rfl) :
    PE X (.Call (.Name x p) (e :: es) [] pos) (tD L fl sh W (mN g fs)) := (pe_callTy hc hg hm hv ha hn hdb he hpl).imp fun _ _ _ h => t_call hd h
end
end PD
set_option Elab.async false
set_option linter.all false
set_option maxRecDepth 100000
set_option maxHeartbeats 1000000
namespace PD
open PySem PySem.Spec PyProof.Rows L2

structure Jn where
  rs : Sh
  fk : List Sh
  fc : List Sh
def PostS (L : LE) (J : Jn) (fl' : List Sh) (F B : Hp) (W : WX) (D : Ends) (r : R Fl) : Prop := match r with
  | .ok (.nx ρ) => ∀ σ' F' H', Same F F' → Rep L fl' F' B σ' H' ρ → D.nx σ' H'
  | .ok (.rt d) => ∀ v F' H' S, Same F F' → Bs L F' B H' → Own L.K F' H' J.rs v d S → S.Nodup → (∀ a ∈ S, F' a = none ∧ B a = none) → D.rt v H'
  | .ok (.bk ρ) => ∀ σ' F' H', Same F F' → Rep L J.fk F' B σ' H' ρ → D.bk σ' H'
  | .ok (.ct ρ) => ∀ σ' F' H', Same F F' → Rep L J.fc F' B σ' H' ρ → D.ct σ' H'
  | .ok (.ex c fs ρ) => ∀ cls d fl0 σ' F' H', Same F F' → Rep L fl0 F' B σ' H' ρ → ErrOk L c fs cls d F' H' → W cls d σ' H'
  | .err _ _ => False
  | .stuck => False
def tS (L : LE) (J : Jn) (fl fl' : List Sh) (W : WX) (f : Env → R Fl) : TS := fun D σ H => ∃ F B ρ, Rep L fl F B σ H ρ ∧ PostS L J fl' F B W D (f ρ)

/-! ### mirrors of statements -/
def liftE {α : Type} (r : R α) (ρ : Env) (k : α → R Fl) : R Fl := match r with
  | .ok d => k d
  | .err c fs => .ok (.ex c fs ρ)
  | .stuck => .stuck
def sNx : Env → R Fl := fun ρ => .ok (.nx ρ)
def sSeq (f g : Env → R Fl) : Env → R Fl := fun ρ => f ρ >>= fun r => match r with
  | .nx ρ' => g ρ'
  | r => .ok r
def sSet (i : Nat) (f : Env → R D) : Env → R Fl := fun ρ => liftE (f ρ) ρ fun d => .ok (.nx (ρ.set i (some d)))
def sDrop (f : Env → R D) : Env → R Fl := fun ρ => liftE (f ρ) ρ fun _ => .ok (.nx ρ)
def sRet (f : Env → R D) : Env → R Fl := fun ρ => liftE (f ρ) ρ fun d => .ok (.rt d)
def sRetN : Env → R Fl := fun _ => .ok (.rt .non)
def sIf (c : Env → R Bool) (f g : Env → R Fl) : Env → R Fl := fun ρ => liftE (c ρ) ρ fun b => if b = true then f ρ else g ρ
def sBk : Env → R Fl := fun ρ => .ok (.bk ρ)
def sCt : Env → R Fl := fun ρ => .ok (.ct ρ)
def sRaise (c : Str) : Env → R Fl := fun ρ => .ok (.ex c [] ρ)
def asLst : D → Option (List D)
  | .lst xs => some xs
  | _ => none
def getL (ρ : Env) (i : Nat) : Option (List D) := match ρ[i]? with
  | some (some d) => asLst d
  | _ => none
def sApp (i : Nat) (f : Env → R D) : Env → R Fl := fun ρ => match getL ρ i with
  | some xs => liftE (f ρ) ρ fun d => if xs.length < LN then .ok (.nx (ρ.set i (some (.lst (xs ++ [d]))))) else .stuck
  | none => .stuck

section
variable {L : LE} {J : Jn} {fl fl' : List Sh} {W : WX} {F B H F' H' : Hp} {σ σ' : L2.St} {ρ ρ' : Env} {D : Ends}
theorem PostS.weak {r : R Fl} (p : PostS L J fl' F B W D r) (e : Same F F') : PostS L J fl' F' B W D r := by
  unfold PostS at p ⊢
  split at p
  · exact fun σ2 F2 H2 s r => p σ2 F2 H2 (e.trans s) r
  · exact fun v F2 H2 S s b o nd fr => p v F2 H2 S (e.trans s) b o nd fr
  · exact fun σ2 F2 H2 s r => p σ2 F2 H2 (e.trans s) r
  · exact fun σ2 F2 H2 s r => p σ2 F2 H2 (e.trans s) r
  · exact fun cls d fl0 σ2 F2 H2 s r x => p cls d fl0 σ2 F2 H2 (e.trans s) r x
  · exact p
  · exact p
/-- a statement's expression, then its rest -/
theorem PostS.bindE {r : R PD.D} {k : PD.D → R Fl} {sh : Sh} {P : VK} (rp : Rep L fl F B σ H ρ) (p : PostS L J fl' F B W D (liftE r ρ k))
    (h : ∀ d v F' H' S, r = .ok d → Ext L.T F H F' H' → Rep L fl F' B σ H' ρ → Own L.K F' H' sh v d S → S.Nodup → (∀ a ∈ S, F' a = none ∧ Nw H a) → PostS L J fl' F' B W D (k d) → P v H') : PostE L F H sh r W σ P := by
  cases r with
  | ok d => exact fun v F' H' S e o nd fr => h d v F' H' S rfl e (rp.ext e) o nd fr (PostS.weak p e.ff)
  | err c fs => exact fun cls d F' H' e x => p cls d fl σ F' H' e.ff (rp.ext e) x
  | stuck => exact p
theorem PostS.bindT {r : R Bool} {k : Bool → R Fl} {P : Bool → Hp → Prop} (rp : Rep L fl F B σ H ρ) (p : PostS L J fl' F B W D (liftE r ρ k))
    (h : ∀ b F' H', r = .ok b → Ext L.T F H F' H' → Rep L fl F' B σ H' ρ → PostS L J fl' F' B W D (k b) → P b H') : PostT L F H r W σ P := by
  cases r with
  | ok d => exact fun F' H' e => h d F' H' rfl e (rp.ext e) (PostS.weak p e.ff)
  | err c fs => exact fun cls d F' H' e x => p cls d fl σ F' H' e.ff (rp.ext e) x
  | stuck => exact p
def fput (Ss : Nat → List Addr) (i : Nat) (S : List Addr) : Nat → List Addr := fun j => if j = i then S else Ss j
theorem fput_eq {Ss : Nat → List Addr} {i j : Nat} {S : List Addr} (h : j = i) : fput Ss i S j = S := if_pos h
theorem fput_ne {Ss : Nat → List Addr} {i j : Nat} {S : List Addr} (h : ¬ j = i) : fput Ss i S j = Ss j := if_neg h
/-- a name gets a value -/
theorem Rep.setE {sh : Sh} {v : V} {d : PD.D} {S : List Addr} {i : Nat} (r : Rep L fl F B σ H ρ) (e : Ext L.T F H F' H') (o : Own L.K F' H' sh v d S) (nb : sh.noB = true) (nd : S.Nodup) (fr : ∀ a ∈ S, F' a = none ∧ Nw H a) :
    Rep L (fl.set i sh) F' B (σ.set i (some v)) H' (ρ.set i (some d)) := by
  have r' := r.ext e
  refine ⟨r'.bs, by rw [List.length_set, List.length_set]; exact r.ls, by rw [List.length_set, List.length_set]; exact r.lr, fun j u eo q => ?_, ?_⟩
  · by_cases z : j = i
    · subst z
      have hl : j < fl.length := by
        have := (List.getElem?_eq_some_iff.mp q).1
        rwa [List.length_set] at this
      rw [List.getElem?_set_self hl] at q
      cases q
      cases nb
    · rw [List.getElem?_set_ne (Ne.symm z)] at q ⊢
      exact r'.px j u eo q
  obtain ⟨Ss, h1, h2, h3, h4⟩ := r.sl
  have new : ∀ j a, a ∈ Ss j → a ∉ S := fun j a m z => by
    obtain ⟨_, _, u, q, t⟩ := h4 j a m
    exact (fr a z).2.no q t
  refine ⟨fput Ss i S, fun j d' q => ?_, fun j k a m1 m2 => ?_, fun j => ?_, fun j a m => ?_⟩
  · by_cases z : j = i
    · subst z
      rw [fput_eq rfl]
      have hl : j < ρ.length := by
        have := (List.getElem?_eq_some_iff.mp q).1
        rwa [List.length_set] at this
      rw [List.getElem?_set_self hl] at q
      cases q
      refine ⟨v, sh, List.getElem?_set_self (by rw [r.ls, ← r.lr]; exact hl), List.getElem?_set_self (by rw [← r.lr]; exact hl), nb, o⟩
    · rw [fput_ne z]
      rw [List.getElem?_set_ne (Ne.symm z)] at q
      obtain ⟨v', sh', a1, a2, a3, a4⟩ := h1 j d' q
      exact ⟨v', sh', by rw [List.getElem?_set_ne (Ne.symm z)]; exact a1, by rw [List.getElem?_set_ne (Ne.symm z)]; exact a2, a3, a4.mono e.ff.sm e.hh⟩
  · by_cases z1 : j = i <;> by_cases z2 : k = i
    · rw [z1, z2]
    · rw [fput_eq z1] at m1; rw [fput_ne z2] at m2; exact (new k a m2 m1).elim
    · rw [fput_ne z1] at m1; rw [fput_eq z2] at m2; exact (new j a m1 m2).elim
    · rw [fput_ne z1] at m1; rw [fput_ne z2] at m2; exact h2 j k a m1 m2
  · by_cases z : j = i
    · rw [fput_eq z]; exact nd
    · rw [fput_ne z]; exact h3 j
  · by_cases z : j = i
    · rw [fput_eq z] at m
      obtain ⟨q1, q2⟩ := fr a m
      exact ⟨q1, q2.none r.bs.bh r.bs.nb, o.there a m⟩
    · rw [fput_ne z] at m
      obtain ⟨q1, q2, u, q3, q4⟩ := h4 j a m
      exact ⟨e.hid a u q3 q4 q1, q2, u, e.hh a u q3 q4, q4⟩
/-- what a slot owns becomes shared -/
theorem Rep.frz {sh : Sh} {i : Nat} (r : Rep L fl F B σ H ρ) : ∃ F', Same F F' ∧ Rep L (fl.set i .s) F' B σ H ρ := by
  obtain ⟨Ss, h1, h2, h3, h4⟩ := r.sl
  have hS : ∀ a ∈ Ss i, F a = none := fun a m => (h4 i a m).1
  have s1 : Same F (frzH F H (Ss i)) := frzH_same hS
  have s2 : Same (frzH F H (Ss i)) H := frzH_to r.bs.fh
  refine ⟨frzH F H (Ss i), s1, ⟨s2, r.bs.bh, fun a o q => ?_, frzH_nt r.bs.nf fun a m => (h4 i a m).2.2, r.bs.nb, r.bs.tab⟩, by rw [List.length_set]; exact r.ls, by rw [List.length_set]; exact r.lr, fun j u eo q => ?_, ?_⟩
  · by_cases m : a ∈ Ss i
    · rw [(h4 i a m).2.1] at q; cases q
    · rw [frzH_out m]; exact r.bs.fb a o q
  · by_cases z : j = i
    · subst z
      have hl : j < fl.length := by
        have := (List.getElem?_eq_some_iff.mp q).1
        rwa [List.length_set] at this
      rw [List.getElem?_set_self hl] at q
      cases q
    · rw [List.getElem?_set_ne (Ne.symm z)] at q
      exact ⟨(r.px j u eo q).1, fun dx ws h => s1 _ _ ((r.px j u eo q).2 dx ws h)⟩
  · refine ⟨fput Ss i [], fun j d' q => ?_, fun j k a m1 m2 => ?_, fun j => ?_, fun j a m => ?_⟩
    · obtain ⟨v', sh', a1, a2, a3, a4⟩ := h1 j d' q
      by_cases z : j = i
      · subst z
        rw [fput_eq rfl]
        exact ⟨v', .s, a1, List.getElem?_set_self (List.getElem?_eq_some_iff.mp a2).1, rfl, .d (bw := false) (a4.frz s1.sm a3 fun a m => frzH_in m)⟩
      · rw [fput_ne z]
        exact ⟨v', sh', a1, by rw [List.getElem?_set_ne (Ne.symm z)]; exact a2, a3, a4.mono s1.sm (Sm.refl _)⟩
    · by_cases z1 : j = i
      · rw [fput_eq z1] at m1; cases m1
      · by_cases z2 : k = i
        · rw [fput_eq z2] at m2; cases m2
        · rw [fput_ne z1] at m1; rw [fput_ne z2] at m2; exact h2 j k a m1 m2
    · by_cases z : j = i
      · rw [fput_eq z]; exact List.nodup_nil
      · rw [fput_ne z]; exact h3 j
    · by_cases z : j = i
      · rw [fput_eq z] at m; cases m
      · rw [fput_ne z] at m
        obtain ⟨q1, q2, q3⟩ := h4 j a m
        refine ⟨?_, q2, q3⟩
        rw [frzH_out fun m2 => z (h2 j i a m m2)]
        exact q1
/-- a slot's own list changes -/
theorem Rep.mut {e : Sh} {i : Nat} {xs : List PD.D} (r : Rep L fl F B σ H ρ) (hs : fl[i]? = some (.l e)) (hx : ρ[i]? = some (some (.lst xs))) :
    ∃ p vs S, σ[i]? = some (some (.ref p)) ∧ H p = some (.lst vs) ∧ OwnL L.K F H e vs xs S ∧ p ∉ S ∧ F p = none ∧ B p = none ∧ S.Nodup ∧ (∀ a ∈ S, F a = none ∧ B a = none) ∧
      ∀ F' H0 vs' xs' S', Ext L.T F H F' H0 → OwnL L.K F' H0 e vs' xs' S' → p ∉ S' → S'.Nodup → (∀ a ∈ S', F' a = none ∧ B a = none) → (∀ a ∈ S', a ∈ S ∨ Nw H a) →
        Rep L fl F' B σ (upd H0 p (.lst vs')) (ρ.set i (some (.lst xs'))) := by
  obtain ⟨Ss, h1, h2, h3, h4⟩ := r.sl
  obtain ⟨v, sh, a1, a2, a3, a4⟩ := h1 i _ hx
  rw [hs] at a2
  cases a2
  have n3 := h3 i
  have n4 := h4 i
  have n2 := fun j a => h2 i j a
  generalize hS : Ss i = S0 at a4 n3 n4 n2
  cases a4 with
  | l hp ho =>
    rename_i p vs S
    have hpS : p ∉ S ∧ S.Nodup := List.nodup_cons.mp n3
    refine ⟨p, vs, S, a1, hp, ho, hpS.1, (n4 p List.mem_cons_self).1, (n4 p List.mem_cons_self).2.1, hpS.2, fun a m => ⟨(n4 a (List.mem_cons_of_mem _ m)).1, (n4 a (List.mem_cons_of_mem _ m)).2.1⟩, ?_⟩
    intro F' H0 vs' xs' S' ex ho' np' nd' fr' from_
    have r' := r.ext ex
    have Fp : F' p = none := ex.hid p _ hp rfl (n4 p List.mem_cons_self).1
    have Bp : B p = none := (n4 p List.mem_cons_self).2.1
    have at_ : ∀ a, a ≠ p → upd H0 p (.lst vs') a = H0 a := fun a z => upd_ne z
    have Sle : e.noB = true := a3
    refine ⟨⟨fun a o q => ?_, fun a o q => ?_, r'.bs.fb, r'.bs.nf, r'.bs.nb, fun P hP => ?_⟩, r.ls, by rw [List.length_set]; exact r.lr, r'.px, ?_⟩
    · rw [at_ a fun z => by rw [z, Fp] at q; cases q]; exact r'.bs.fh a o q
    · rw [at_ a fun z => by rw [z, Bp] at q; cases q]; exact r'.bs.bh a o q
    · obtain ⟨ps, q, k⟩ := r'.bs.tab P hP
      have hp0 := ex.hh p _ hp rfl
      exact ⟨ps, by rw [at_ P fun z => by rw [z, hp0] at q; cases q]; exact q, k⟩
    · refine ⟨fput Ss i (p :: S'), fun j d' q => ?_, fun j k a m1 m2 => ?_, fun j => ?_, fun j a m => ?_⟩
      · by_cases z : j = i
        · subst z
          rw [fput_eq rfl]
          have hl : j < ρ.length := (List.getElem?_eq_some_iff.mp hx).1
          rw [List.getElem?_set_self hl] at q
          cases q
          exact ⟨_, _, a1, hs, a3, .l upd_same (OwnL.at (Sm.refl _) Sle ho' fun a m => at_ a fun z => np' (z ▸ m))⟩
        · rw [fput_ne z]
          rw [List.getElem?_set_ne (Ne.symm z)] at q
          obtain ⟨v', sh', b1, b2, b3, b4⟩ := h1 j d' q
          refine ⟨v', sh', b1, b2, b3, Own.at ex.ff.sm b3 b4 fun a m => ?_⟩
          have na : a ≠ p := fun w => z (h2 j i a m (by rw [hS, w]; exact List.mem_cons_self))
          rw [at_ a na]
          obtain ⟨_, _, u, q3, q4⟩ := h4 j a m
          rw [q3]
          exact ex.hh a u q3 q4
      · have key : ∀ j a, j ≠ i → a ∈ Ss j → a ∉ p :: S' := fun j a z m w => by
          rcases List.mem_cons.mp w with w | w
          · exact z (h2 j i a m (by rw [hS, w]; exact List.mem_cons_self))
          · rcases from_ a w with w | w
            · exact z (h2 j i a m (by rw [hS]; exact List.mem_cons_of_mem _ w))
            · obtain ⟨_, _, u, q, t⟩ := h4 j a m
              exact w.no q t
        by_cases z1 : j = i <;> by_cases z2 : k = i
        · rw [z1, z2]
        · rw [fput_eq z1] at m1; rw [fput_ne z2] at m2; exact (key k a z2 m2 m1).elim
        · rw [fput_ne z1] at m1; rw [fput_eq z2] at m2; exact (key j a z1 m1 m2).elim
        · rw [fput_ne z1] at m1; rw [fput_ne z2] at m2; exact h2 j k a m1 m2
      · by_cases z : j = i
        · rw [fput_eq z]; exact List.nodup_cons.mpr ⟨np', nd'⟩
        · rw [fput_ne z]; exact h3 j
      · by_cases z : j = i
        · rw [fput_eq z] at m
          rcases List.mem_cons.mp m with w | w
          · subst w; exact ⟨Fp, Bp, _, upd_same, rfl⟩
          · obtain ⟨o, q1, q2⟩ := ho'.there a w
            exact ⟨(fr' a w).1, (fr' a w).2, o, by rw [at_ a fun y => np' (y ▸ w)]; exact q1, q2⟩
        · rw [fput_ne z] at m
          obtain ⟨q1, q2, u, q3, q4⟩ := h4 j a m
          have na : a ≠ p := fun w => z (h2 j i a m (by rw [hS, w]; exact List.mem_cons_self))
          exact ⟨ex.hid a u q3 q4 q1, q2, u, by rw [at_ a na]; exact ex.hh a u q3 q4, q4⟩
end

/-! ### rules for statements -/
section
variable {X : Cx} {L : LE} {J : Jn} {fl fl1 fl' : List Sh} {W : WX} {pos : Pos}
theorem s_nil : PSs X [] (tS L J fl fl W sNx) := pss_nil.imp fun D σ H ⟨F, B, ρ, r, p⟩ => p σ F H (.refl _) r
theorem ss_frz (i : Nat) {st : List Stmt} {f : Env → R Fl} (h : PSs X st (tS L J (fl.set i .s) fl' W f)) : PSs X st (tS L J fl fl' W f) :=
  h.imp fun D σ H ⟨F, B, ρ, r, p⟩ => by
    obtain ⟨F', s, r'⟩ := r.frz (sh := .s) (i := i)
    exact ⟨F', B, ρ, r', p.weak s⟩
theorem s_cons {st : Stmt} {rest : List Stmt} {f g : Env → R Fl} (h1 : PS X st (tS L J fl fl1 W f)) (h2 : PSs X rest (tS L J fl1 fl' W g)) : PSs X (st :: rest) (tS L J fl fl' W (sSeq f g)) :=
  (pss_cons h1 h2).imp fun D σ H ⟨F, B, ρ, r, p⟩ => ⟨F, B, ρ, r, by
    unfold sSeq at p
    cases q : f ρ with
    | ok y =>
      rw [q, bind_ok] at p
      cases y with
      | nx ρ' => exact fun σ' F' H' s r' => ⟨F', B, ρ', r', p.weak s⟩
      | rt d => exact p
      | bk ρ' => exact p
      | ct ρ' => exact p
      | ex c fs ρ' => exact p
    | err c fs => rw [q, bind_err] at p; exact p
    | stuck => rw [q, bind_stuck] at p; exact p⟩
theorem s_one {st : Stmt} {f : Env → R Fl} (h1 : PS X st (tS L J fl fl' W f)) : PSs X [st] (tS L J fl fl' W f) := pss_one h1
/-- a way that ends (its flags behind do not matter) -/
theorem s_pass : PS X (.Pass pos) (tS L J fl fl W sNx) := ps_pass.imp fun D σ H ⟨F, B, ρ, r, p⟩ => p σ F H (.refl _) r
theorem s_break : PS X (.Break pos) (tS L { J with fk := fl } fl fl' W sBk) := ps_break.imp fun D σ H ⟨F, B, ρ, r, p⟩ => p σ F H (.refl _) r
theorem s_continue : PS X (.Continue pos) (tS L { J with fc := fl } fl fl' W sCt) := ps_continue.imp fun D σ H ⟨F, B, ρ, r, p⟩ => p σ F H (.refl _) r
theorem s_set (i : Nat) {x : Str} {e : Expr} {sh : Sh} {f : Env → R D} {pos' : Pos} (hN : X.N.Nodup) (he : PE X e (tD L fl sh W f)) (hf' : fl.set i sh = fl1 := by rfl) (hi : X.N[i]? = some x := by rfl) (hx : Loc X.env.scope x := by first | exact Or.inl rfl | exact Or.inr rfl) (nb : sh.noB = true := by rfl)
    (hs : swapsWith e (some (.Name x pos')) pos.line X.env = pure false := by rfl) (hf : X.fn x = true ∨ X.env.scope.names.lookup x = some .local := by first | exact .inl rfl | exact .inr rfl | assumption) :
    PS X (.Assign [.Name x pos'] e pos) (tS L J fl fl1 W (sSet i f)) :=
  (ps_set hN hi hx he hs hf).imp fun D σ H ⟨F, B, ρ, r, p⟩ => ⟨F, B, ρ, r, PostS.bindE r p fun d v F' H' S _ e _ o nd fr p1 => by
    subst hf'
    exact p1 _ F' H' (.refl _) (r.setE e o nb nd fr)⟩
theorem s_expr {e : Expr} {sh : Sh} {f : Env → R D} (he : PE X e (tD L fl sh W f)) (hs : swapsWith e none pos.line X.env = pure false := by rfl) : PS X (.Expr e pos) (tS L J fl fl W (sDrop f)) :=
  (ps_expr he hs).imp fun D σ H ⟨F, B, ρ, r, p⟩ => ⟨F, B, ρ, r, PostS.bindE r p fun d v F' H' S _ e r' o nd fr p1 => p1 σ F' H' (.refl _) r'⟩
theorem s_doc {x : Str} {j : Nat} {pos' : Pos} : PS X (.Expr (.Constant (.str x) j pos) pos') (tS L J fl fl W sNx) := ps_doc.imp fun D σ H ⟨F, B, ρ, r, p⟩ => p σ F H (.refl _) r
theorem s_ret {e : Expr} {f : Env → R D} (he : PE X e (tD L fl J.rs W f)) : PS X (.Return (some e) pos) (tS L J fl fl' W (sRet f)) :=
  (ps_ret he).imp fun D σ H ⟨F, B, ρ, r, p⟩ => ⟨F, B, ρ, r, PostS.bindE r p fun d v F' H' S _ e r' o nd fr p1 => p1 v F' H' S (.refl _) r'.bs o nd fun a m => ⟨(fr a m).1, (fr a m).2.none r.bs.bh r.bs.nb⟩⟩
theorem s_retN (hn : J.rs = .s := by rfl) : PS X (.Return none pos) (tS L J fl fl' W sRetN) :=
  ps_retN.imp fun D σ H ⟨F, B, ρ, r, p⟩ => p .non F H [] (.refl _) r.bs (by rw [hn]; exact .d (bw := false) .non) List.nodup_nil (fun a m => nomatch m)
/-- a slot's own list is handed back -/
theorem s_retO (i : Nat) {x : Str} {pos' : Pos} (hs : fl[i]? = some J.rs := by rfl) (hN : X.N[i]? = some x := by rfl) (hv : Vis X.env.scope x := by first | exact Or.inl rfl | exact Or.inr (Or.inl rfl) | exact Or.inr (Or.inr rfl)) (hd : (x == ("__debug__" : Str)) = false := by decide)
    (hcd : (x == ("__classdict__" : Str)) = false := by decide) : PS X (.Return (some (.Name x pos')) pos) (tS L J fl fl' W (sRet (mV i))) :=
  (ps_ret (pv i hN hv hd hcd)).imp fun D σ H ⟨F, B, ρ, r, p⟩ => by
    unfold sRet mV at p
    cases q : ρ[i]? with
    | none => rw [q] at p; exact p.elim
    | some o =>
      cases o with
      | none => rw [q] at p; exact p.elim
      | some d =>
        rw [q] at p
        obtain ⟨Ss, h1, h2, h3, h4⟩ := r.sl
        obtain ⟨v, sh, a1, a2, a3, a4⟩ := h1 i d q
        rw [hs] at a2
        cases a2
        exact ⟨v, a1, p v F H (Ss i) (.refl _) r.bs a4 (h3 i) fun a m => ⟨(h4 i a m).1, (h4 i a m).2.1⟩⟩
theorem s_if {c : Expr} {a b : List Stmt} {fc : Env → R Bool} {f g : Env → R Fl} (hc : PT X c (tT L fl W fc)) (ha : PSs X a (tS L J fl fl' W f)) (hb : PSs X b (tS L J fl fl' W g)) : PS X (.If c a b pos) (tS L J fl fl' W (sIf fc f g)) :=
  (ps_if hc ha hb).imp fun D σ H ⟨F, B, ρ, r, p⟩ => ⟨F, B, ρ, r, PostS.bindT r p fun b F' H' _ e r' p1 => by
    cases b with
    | true => rw [if_pos rfl] at p1 ⊢; exact ⟨F', B, ρ, r', p1⟩
    | false => rw [if_neg Bool.false_ne_true] at p1 ⊢; exact ⟨F', B, ρ, r', p1⟩⟩
theorem getL_some {ρ : Env} {i : Nat} {xs : List D} (h : getL ρ i = some xs) : ρ[i]? = some (some (.lst xs)) := by
  unfold getL at h
  split at h
  · rename_i d e
    rw [e]
    unfold asLst at h
    split at h
    · cases h; rfl
    · cases h
  · cases h
theorem OwnL.append {K : PySem.W.Frag} {F H : Hp} {e : Sh} : ∀ {vs ws : List V} {ds es : List D} {S S' : List Addr}, OwnL K F H e vs ds S → OwnL K F H e ws es S' → OwnL K F H e (vs ++ ws) (ds ++ es) (S ++ S')
  | _, _, _, _, _, _, .nil, s => s
  | _, _, _, _, _, _, .cons h r, s => by
    rw [List.append_assoc]
    exact .cons h (OwnL.append r s)
theorem OwnL.one {K : PySem.W.Frag} {F H : Hp} {e : Sh} {v : V} {d : D} {S : List Addr} (h : Own K F H e v d S) : OwnL K F H e [v] [d] S := by
  have z := OwnL.cons h (.nil (e := e))
  rw [List.append_nil] at z
  exact z
/-- x.append(e) -/
theorem s_append (i : Nat) {x : Str} {e : Expr} {sh : Sh} {f : Env → R D} {xp apos cpos : Pos} (he : PE X e (tD L fl sh W f)) (hK : X.K = L.K := by rfl) (hs : fl[i]? = some (.l sh) := by rfl) (hN : X.N[i]? = some x := by rfl) (hv : Vis X.env.scope x := by first | exact Or.inl rfl | exact Or.inr (Or.inl rfl) | exact Or.inr (Or.inr rfl)) (hd : (x == ("__debug__" : Str)) = false := by decide)
    (hcd : (x == ("__classdict__" : Str)) = false := by decide) (hbase : attributeBase (.Name x xp) "append" X.env (eval (.Name x xp) X.env) = eval (.Name x xp) X.env := by rfl)
    (hfew : ((backTo cpos (starEach [e] X.env)).all (fun x => !x.1) && (backToKw cpos (keywordEach [] X.env)).all (fun x => x.1.isSome) && decide (([e] : List Expr).length + ([] : List Keyword).length + (if ([] : List Keyword).isEmpty then 0 else 1) < 30)) = true := by rfl)
    (hline : (apos.endLine == cpos.line) = true := by rfl) (hse : starEach [e] X.env = (false, eval e X.env) :: starEach [] X.env := by rfl) (hplain : (backTo cpos (starEach [] X.env)).any (·.1) = false := by rfl)
    (hsw : swapsWith (.Call (.Attribute (.Name x xp) "append" apos) [e] [] cpos) none pos.line X.env = pure false := by rfl) :
    PS X (.Expr (.Call (.Attribute (.Name x xp) "append" apos) [e] [] cpos) pos) (tS L J fl fl W (sApp i f)) :=
  (ps_expr (pe_bm PySem.F.plainAttrs_list PySem.F.slot_list_append PySem.F.type_list_append mt_append (pv i hN hv hd hcd) (pa_cons he pa_nil hse) hbase hfew hline hse hplain) hsw).imp fun D σ H ⟨F, B, ρ, r, p⟩ => by
    unfold sApp at p
    cases q : getL ρ i with
    | none =>
      rw [q] at p
      exact p.elim
    | some xs =>
      rw [q] at p
      have hx := getL_some q
      obtain ⟨l, vs, S, a1, a2, a3, a4, a5, a6, a7, a8, go⟩ := r.mut hs hx
      refine ⟨.ref l, a1, .inl ⟨rfl, _, SqL.of a2⟩, F, B, ρ, r, PostS.bindE r p fun d v F' H' S' _ e r' o nd fr p1 => ?_⟩
      by_cases hl : xs.length < LN
      · rw [if_pos hl] at p1
        have hlv := a3.length
        refine ⟨l, vs, v, rfl, rfl, e.hh l _ a2 rfl, lt_line (by omega), ?_⟩
        refine p1 σ F' _ (.refl _) (go F' H' _ _ (S ++ S') e ((a3.mono e.ff.sm e.hh).append (.one o)) ?_ ?_ ?_ ?_)
        · intro m
          rcases List.mem_append.mp m with m | m
          · exact a4 m
          · exact (fr l m).2.no a2 rfl
        · refine List.nodup_append.mpr ⟨a7, nd, fun a m b m2 z => ?_⟩
          subst z
          obtain ⟨u, w, t⟩ := a3.there a m
          exact (fr a m2).2.no w t
        · intro a m
          rcases List.mem_append.mp m with m | m
          · obtain ⟨u, w, t⟩ := a3.there a m
            exact ⟨e.hid a u w t (a8 a m).1, (a8 a m).2⟩
          · exact ⟨(fr a m).1, (fr a m).2.none r.bs.bh r.bs.nb⟩
        · intro a m
          rcases List.mem_append.mp m with m | m
          · exact .inl m
          · exact .inr (fr a m).2
      · rw [if_neg hl] at p1; exact p1.elim
end
end PD
set_option Elab.async false
set_option linter.all false
set_option maxRecDepth 100000
set_option maxHeartbeats 1000000
namespace PD
open PySem PySem.Spec PyProof.Rows L2

/-! ### what is walked -/
/-- J hands out ds -/
def Wk (L : LE) (J : It) (F0 : Hp) (ds : List D) : Prop := ∀ F H, Same F0 F → Same F H → NoT F →
  (∀ i d, ds[i]? = some d → J.go i H ∧ ∀ x H', J.yld i H x H' → ∃ F', Ext L.T F H F' H' ∧ Dat L.K F' x d) ∧ ∀ i, ds.length ≤ i → J.stop i H
def PostI (L : LE) (F H : Hp) (r : R (List D)) (W : WX) (σ : L2.St) (Q : It → Hp → Prop) : Prop := match r with
  | .ok ds => ∀ J F' H', Ext L.T F H F' H' → Wk L J F' ds → Q J H'
  | .err c fs => ∀ cls d F' H', Ext L.T F H F' H' → ErrOk L c fs cls d F' H' → W cls d σ H'
  | .stuck => False
def tI (L : LE) (fl : List Sh) (W : WX) (f : Env → R (List D)) : TI := fun σ H Q => ∃ F B ρ, Rep L fl F B σ H ρ ∧ PostI L F H (f ρ) W σ Q
/-- targets -/
def tG (L : LE) (fl fl1 : List Sh) (vs : List Nat) (T : D → Env → Option Env) : TG := fun v σ H Q => ∃ F B ρ d, Rep L fl F B σ H ρ ∧ Dat L.K F v d ∧ ∃ ρ', T d ρ = some ρ' ∧
  ∀ σ', (σ'.length = σ.length ∧ ∀ j, j ∉ vs → σ'[j]? = σ[j]?) → Rep L fl1 F B σ' H ρ' → Q σ' H
def gL : D → Option (List D)
  | .lst xs => some xs
  | .scr ns => some (ns.map .int)
  | _ => none
def gT : D → Option (List D)
  | .tup xs => some xs
  | _ => none
def gS : D → Option (List D)
  | .str s => some (s.map fun c => .str [c])
  | _ => none
def iOf (g : D → Option (List D)) (f : Env → R D) : Env → R (List D) := fun ρ => f ρ >>= fun d => oR (g d)
def rngL (lo : Int) (n : Nat) : List D := (List.range n).map fun i => .int (lo + (i : Nat))
def LR : Int := 1000000000
def gR1 : List D → Option (List D)
  | [.int j] => if -LR ≤ j ∧ j ≤ LR then some (rngL 0 j.toNat) else none
  | _ => none
def gR2 : List D → Option (List D)
  | [.int i, .int j] => if (-LR ≤ i ∧ i ≤ LR) ∧ (-LR ≤ j ∧ j ≤ LR) then some (rngL i (j - i).toNat) else none
  | _ => none
theorem gR1_inv {ds xs : List D} (h : gR1 ds = some xs) : ∃ j, ds = [.int j] ∧ (-LR ≤ j ∧ j ≤ LR) ∧ xs = rngL 0 j.toNat := by
  unfold gR1 at h
  split at h
  · split at h
    · cases h; exact ⟨_, rfl, by assumption, rfl⟩
    · cases h
  · cases h
theorem gR2_inv {ds xs : List D} (h : gR2 ds = some xs) : ∃ i j, ds = [.int i, .int j] ∧ ((-LR ≤ i ∧ i ≤ LR) ∧ (-LR ≤ j ∧ j ≤ LR)) ∧ xs = rngL i (j - i).toNat := by
  unfold gR2 at h
  split at h
  · split at h
    · cases h; exact ⟨_, _, rfl, by assumption, rfl⟩
    · cases h
  · cases h
def iArgs (g : List D → Option (List D)) (f : Env → R (List D)) : Env → R (List D) := fun ρ => f ρ >>= fun d => oR (g d)

section
variable {X : Cx} {L : LE} {J : Jn} {fl fl1 fl' : List Sh} {W : WX} {pos : Pos} {tg : Expr}
theorem PostI.bindE {F H : Hp} {σ : L2.St} {Q : It → Hp → Prop} {r : R D} {k : D → R (List D)} {P : VK} {sh : Sh} (p : PostI L F H (r >>= k) W σ Q) (h : ∀ d v F' H' S, r = .ok d → PostI L F H (k d) W σ Q → Ext L.T F H F' H' → Own L.K F' H' sh v d S → P v H') : PostE L F H sh r W σ P := by
  cases r with
  | ok d => exact fun v F' H' S e o _ _ => h d v F' H' S rfl p e o
  | err c fs => exact p
  | stuck => exact p
theorem i_list {e : Expr} {f : Env → R D} (he : PE X e (tD L fl .s W f)) (hK : X.K = L.K := by rfl) : PI X tg e (tI L fl W (iOf gL f)) := by
  refine ⟨fun pins s σ H Q I h => (pi_list (tg := tg) he).run pins s σ H Q I ?_⟩
  obtain ⟨F, B, ρ, r, p⟩ := h
  refine ⟨F, B, ρ, r, PostI.bindE p fun d v F1 H1 S _ p1 e1 o1 => ?_⟩
  have dv := (own_d o1).1
  cases d with
  | lst xs =>
    cases dv with
    | lst hv hd =>
      rename_i a vs
      refine ⟨a, rfl, ⟨vs, SqL.of (e1.fh _ _ hv)⟩, p1 _ F1 H1 e1 fun F H s1 s2 nt => ⟨fun i d hi => ?_, fun i hi => ?_⟩⟩
      · obtain ⟨x, hx, hdx⟩ := hd.get hi
        refine ⟨⟨vs, x, SqL.of (s2 _ _ (s1 _ _ hv)), hx⟩, fun x' H' y => ?_⟩
        obtain ⟨rfl, y⟩ := y
        have ex : x' = x := Option.some.inj ((y vs (SqL.of (s2 _ _ (s1 _ _ hv)))).symm.trans hx)
        exact ⟨F, .refl s2 nt, by rw [ex]; exact hdx.mono s1.sm⟩
      · exact ⟨vs, SqL.of (s2 _ _ (s1 _ _ hv)), by rw [hd.length]; exact hi⟩
  | scr ns =>
    cases dv with
    | scr hv =>
      rename_i a
      refine ⟨a, rfl, ⟨_, by rw [hK]; exact sm_l e1.fh.sm hv⟩, p1 _ F1 H1 e1 fun F H s1 s2 nt => ⟨fun i d hi => ?_, fun i hi => ?_⟩⟩
      · have hq : SqL X.K H a (ns.map V.int) := by rw [hK]; exact sm_l s2.sm (sm_l s1.sm hv)
        rw [List.getElem?_map] at hi
        cases q : ns[i]? with
        | none => rw [q] at hi; cases hi
        | some n =>
          rw [q] at hi
          cases hi
          have hx : (ns.map V.int)[i]? = some (.int n) := by rw [List.getElem?_map, q]; rfl
          refine ⟨⟨_, _, hq, hx⟩, fun x' H' y => ?_⟩
          obtain ⟨rfl, y⟩ := y
          have ex : x' = .int n := Option.some.inj ((y _ hq).symm.trans hx)
          exact ⟨F, .refl s2 nt, by rw [ex]; exact .int⟩
      · exact ⟨_, by rw [hK]; exact sm_l s2.sm (sm_l s1.sm hv), by rw [List.length_map] at hi ⊢; exact hi⟩
  | _ => exact p1.elim
theorem i_tup {e : Expr} {f : Env → R D} (he : PE X e (tD L fl .s W f)) (hK : X.K = L.K := by rfl) : PI X tg e (tI L fl W (iOf gT f)) := by
  refine ⟨fun pins s σ H Q I h => (pi_tup (tg := tg) he).run pins s σ H Q I ?_⟩
  obtain ⟨F, B, ρ, r, p⟩ := h
  refine ⟨F, B, ρ, r, PostI.bindE p fun d v F1 H1 S _ p1 e1 o1 => ?_⟩
  have dv := (own_d o1).1
  cases d with
  | tup xs =>
    cases dv with
    | tup hv hd =>
      rename_i a vs
      have at_ : ∀ F H, Same F1 F → Same F H → SqT X.K H a vs := fun F H s1 s2 => by rw [hK]; exact sm_t s2.sm (sm_t s1.sm hv)
      refine ⟨a, rfl, ⟨vs, at_ F1 H1 (.refl _) e1.fh⟩, p1 _ F1 H1 e1 fun F H s1 s2 nt => ⟨fun i d hi => ?_, fun i hi => ?_⟩⟩
      · obtain ⟨x, hx, hdx⟩ := hd.get hi
        refine ⟨⟨vs, x, at_ F H s1 s2, hx⟩, fun x' H' y => ?_⟩
        obtain ⟨rfl, y⟩ := y
        have ex : x' = x := Option.some.inj ((y vs (at_ F _ s1 s2)).symm.trans hx)
        exact ⟨F, .refl s2 nt, by rw [ex]; exact hdx.mono s1.sm⟩
      · exact ⟨vs, at_ F H s1 s2, by rw [hd.length]; exact hi⟩
  | _ => exact p1.elim
theorem i_str {e : Expr} {f : Env → R D} (he : PE X e (tD L fl .s W f)) : PI X tg e (tI L fl W (iOf gS f)) := by
  refine ⟨fun pins s σ H Q I h => (pi_str (tg := tg) he).run pins s σ H Q I ?_⟩
  obtain ⟨F, B, ρ, r, p⟩ := h
  refine ⟨F, B, ρ, r, PostI.bindE p fun d v F1 H1 S _ p1 e1 o1 => ?_⟩
  have dv := (own_d o1).1
  cases d with
  | str z =>
    cases dv
    refine ⟨_, rfl, p1 _ F1 H1 e1 fun F H s1 s2 nt => ⟨fun i d hi => ?_, fun i hi => ?_⟩⟩
    · rw [List.getElem?_map] at hi
      cases q : z[i]? with
      | none => rw [q] at hi; cases hi
      | some c =>
        rw [q] at hi
        cases hi
        have hl := (List.getElem?_eq_some_iff.mp q).1
        refine ⟨(by show i < z.toArray.size; simpa using hl), fun x' H' y => ?_⟩
        obtain ⟨rfl, c', hc, rfl⟩ := y
        have ec : c' = c := by
          have hc2 : z[i]? = some c' := by simpa using hc
          rw [q] at hc2
          exact (Option.some.inj hc2).symm
        refine ⟨F, .refl s2 nt, ?_⟩
        rw [ec]
        exact .str (s := [c])
    · show z.toArray.size ≤ i
      simpa using hi
  | _ => exact p1.elim
theorem wk_rng (lo : Int) (n : Nat) (F : Hp) : Wk L (Itr lo n) F (rngL lo n) := fun F H s1 s2 nt => ⟨fun i d hi => by
    unfold rngL at hi
    rw [List.getElem?_map] at hi
    cases q : (List.range n)[i]? with
    | none => rw [q] at hi; cases hi
    | some k =>
      rw [q] at hi
      cases hi
      obtain ⟨hl, ek⟩ := List.getElem?_eq_some_iff.mp q
      rw [List.getElem_range] at ek
      rw [List.length_range] at hl
      refine ⟨hl, fun x' H' y => ?_⟩
      obtain ⟨rfl, rfl⟩ := y
      exact ⟨F, .refl s2 nt, by rw [ek]; exact .int⟩, fun i hi => by
    unfold rngL at hi
    rw [List.length_map, List.length_range] at hi
    exact hi⟩
theorem PostI.bindA {F H : Hp} {σ : L2.St} {Q : It → Hp → Prop} {r : R (List D)} {k : List D → R (List D)} {bw : Bool} {P : List V → Hp → Prop} (p : PostI L F H (r >>= k) W σ Q) (h : ∀ ds vs F' H', r = .ok ds → PostI L F H (k ds) W σ Q → Ext L.T F H F' H' → DatL L.K (cond bw H' F') vs ds → P vs H') : PostA L F H bw r W σ P := by
  cases r with
  | ok d => exact fun v F' H' e o => h d v F' H' rfl p e o
  | err c fs => exact p
  | stuck => exact p
theorem PostI.oR {F H : Hp} {σ : L2.St} {Q : It → Hp → Prop} {o : Option (List D)} (p : PostI L F H (oR o) W σ Q) : ∃ xs, o = some xs := by
  cases o with
  | none => exact p.elim
  | some xs => exact ⟨xs, rfl⟩
theorem i_range1 {a : Expr} {f : Env → R (List D)} {p : Pos} (hm : X.mg "range" = none) (ha : PA X [a] (tA L fl true W f)) (hg : Gl X "range" := by rfl) (hs : starEach [a] X.env = [(false, eval a X.env)] := by rfl) : PI X tg (.Call (.Name "range" p) [a] [] pos) (tI L fl W (iArgs gR1 f)) := by
  refine ⟨fun pins s σ H Q I h => (pi_range1 (tg := tg) hg hm ha hs).run pins s σ H Q I ?_⟩
  obtain ⟨F, B, ρ, r, p⟩ := h
  refine ⟨F, B, ρ, r, PostI.bindA p fun ds vs F1 H1 _ p1 e1 d1 => ?_⟩
  obtain ⟨xs, q⟩ := p1.oR
  rw [q] at p1
  obtain ⟨j, rfl, b, rfl⟩ := gR1_inv q
  have e : LR = 1000000000 := rfl
  cases d1 with
  | cons h1 h2 =>
    cases h2
    cases h1
    exact ⟨j, rfl, by omega, by omega, p1 _ F1 H1 e1 (wk_rng 0 j.toNat F1)⟩
theorem i_range2 {a b : Expr} {f : Env → R (List D)} {p : Pos} (hm : X.mg "range" = none) (ha : PA X [a, b] (tA L fl true W f)) (hg : Gl X "range" := by rfl) (hs : starEach [a, b] X.env = [(false, eval a X.env), (false, eval b X.env)] := by rfl) (hs2 : starEach [b] X.env = [(false, eval b X.env)] := by rfl) :
    PI X tg (.Call (.Name "range" p) [a, b] [] pos) (tI L fl W (iArgs gR2 f)) := by
  refine ⟨fun pins s σ H Q I h => (pi_range2 (tg := tg) hg hm ha hs hs2).run pins s σ H Q I ?_⟩
  obtain ⟨F, B, ρ, r, p⟩ := h
  refine ⟨F, B, ρ, r, PostI.bindA p fun ds vs F1 H1 _ p1 e1 d1 => ?_⟩
  obtain ⟨xs, q⟩ := p1.oR
  rw [q] at p1
  obtain ⟨i, j, rfl, b, rfl⟩ := gR2_inv q
  have e : LR = 1000000000 := rfl
  cases d1 with
  | cons h1 h2 =>
    cases h2 with
    | cons h2 h3 =>
      cases h3
      cases h1
      cases h2
      exact ⟨i, j, rfl, ⟨by omega, by omega, by omega, by omega⟩, p1 _ F1 H1 e1 (wk_rng i (j - i).toNat F1)⟩
/-! ### targets -/
def gSet (i : Nat) : D → Env → Option Env := fun d ρ => some (ρ.set i (some d))
def gTup (Ts : List D → Env → Option Env) : D → Env → Option Env := fun d ρ => match d with
  | .tup xs => Ts xs ρ
  | _ => none
def gsNil : List D → Env → Option Env
  | [], ρ => some ρ
  | _, _ => none
def gsCons (T : D → Env → Option Env) (Ts : List D → Env → Option Env) : List D → Env → Option Env
  | d :: ds, ρ => (T d ρ).bind fun ρ' => Ts ds ρ'
  | _, _ => none
theorem g_name (i : Nat) {x : Str} (hN : X.N.Nodup) (hf' : fl.set i .s = fl1 := by rfl) (hi : X.N[i]? = some x := by rfl) (hx : Loc X.env.scope x := by first | exact Or.inl rfl | exact Or.inr rfl) (hf : X.fn x = true ∨ X.env.scope.names.lookup x = some .local := by first | exact .inl rfl | exact .inr rfl | assumption) : PG X (.Name x pos) (tG L fl fl1 [i] (gSet i)) := by
  refine ⟨fun pins s σ H v u Q I rv h => (pg_name hN hi hx hf).run pins s σ H v u Q I rv ?_⟩
  obtain ⟨F, B, ρ, d, r, dv, ρ', e, go⟩ := h
  cases e
  subst hf'
  refine go _ ⟨List.length_set, fun j hj => ?_⟩ ?_
  · rw [List.getElem?_set_ne]
    intro z
    exact hj (by simp [z])
  · exact r.setE r.refl (.d (bw := false) dv) rfl List.nodup_nil (fun a m => nomatch m)
/-- several targets -/
def tGs (L : LE) (fl fl1 : List Sh) (vs : List Nat) (Ts : List D → Env → Option Env) : TGs := fun ws σ H Q => ∃ F B ρ ds, Rep L fl F B σ H ρ ∧ DatL L.K F ws ds ∧ ∃ ρ', Ts ds ρ = some ρ' ∧
  ∀ σ', (σ'.length = σ.length ∧ ∀ j, j ∉ vs → σ'[j]? = σ[j]?) → Rep L fl1 F B σ' H ρ' → Q σ' H
theorem gs_nil : PGs X [] (tGs L fl fl [] gsNil) := by
  refine ⟨fun pins s σ H vs us Q I rv h => pgs_nil.run pins s σ H vs us Q I rv ?_⟩
  obtain ⟨F, B, ρ, ds, r, dv, ρ', e, go⟩ := h
  cases dv with
  | nil => cases e; exact ⟨rfl, go σ ⟨rfl, fun _ _ => rfl⟩ r⟩
  | cons _ _ => cases e
theorem gs_cons {e : Expr} {es : List Expr} {fl2 : List Sh} {v1 v2 : List Nat} {T : D → Env → Option Env} {Ts : List D → Env → Option Env} (h1 : PG X e (tG L fl fl1 v1 T)) (h2 : PGs X es (tGs L fl1 fl2 v2 Ts))
    (hs : (assignEach (e :: es) X.env).map (·.2) = assign e X.env :: (assignEach es X.env).map (·.2) := by rfl) : PGs X (e :: es) (tGs L fl fl2 (v1 ++ v2) (gsCons T Ts)) := by
  refine ⟨fun pins s σ H vs us Q I rv h => (pgs_cons h1 h2 hs).run pins s σ H vs us Q I rv ?_⟩
  obtain ⟨F, B, ρ, ds, r, dv, ρ', e, go⟩ := h
  cases dv with
  | nil => cases e
  | cons hd hr =>
    rename_i v d vs ds
    refine ⟨v, vs, rfl, ?_⟩
    unfold gsCons at e
    cases q : T d ρ with
    | none => simp only [q] at e; cases e
    | some ρ1 =>
      simp only [q] at e
      refine ⟨F, B, ρ, d, r, hd, ρ1, q, fun σ1 ⟨l1, k1⟩ r1 => ⟨F, B, ρ1, ds, r1, hr, ρ', e, fun σ2 ⟨l2, k2⟩ r2 => go σ2 ⟨l2.trans l1, fun j hj => ?_⟩ r2⟩⟩
      rw [List.mem_append, not_or] at hj
      rw [k2 j hj.2, k1 j hj.1]
theorem g_tup {es : List Expr} {k : Nat} {vs : List Nat} {Ts : List D → Env → Option Env} (n : Nat) (hn0 : ∀ ds ρ ρ', Ts ds ρ = some ρ' → ds.length = n) (h : PGs X es (tGs L fl fl1 vs Ts)) (hK : X.K = L.K := by rfl) (hc : X.calm = true := by rfl)
    (hn : (assignEach es X.env).length = n := by rfl) (hst : (assignEach es X.env).findIdx? (·.1) = none := by rfl) : PG X (.Tuple es k pos) (tG L fl fl1 vs (gTup Ts)) := by
  refine ⟨fun pins s σ H v u Q I rv hh => (pg_tup hc h hn hst).run pins s σ H v u Q I rv ?_⟩
  obtain ⟨F, B, ρ, d, r, dv, ρ', e, go⟩ := hh
  cases dv with
  | tup hv hd =>
    refine ⟨_, _, rfl, by rw [hK]; exact sm_t r.bs.fh.sm hv, ?_, F, B, ρ, _, r, hd, ρ', e, go⟩
    rw [hd.length]
    exact hn0 _ _ _ e
  | _ => cases e
theorem gs_len0 : ∀ ds ρ ρ', gsNil ds ρ = some ρ' → ds.length = 0
  | [], _, _, _ => rfl
  | _ :: _, _, _, h => by cases h
theorem gs_lenS {T : D → Env → Option Env} {Ts : List D → Env → Option Env} {n : Nat} (h : ∀ ds ρ ρ', Ts ds ρ = some ρ' → ds.length = n) : ∀ ds ρ ρ', gsCons T Ts ds ρ = some ρ' → ds.length = n + 1
  | [], _, _, e => by cases e
  | d :: ds, ρ, ρ', e => by
    unfold gsCons at e
    cases q : T d ρ with
    | none => simp only [q] at e; cases e
    | some ρ1 =>
      simp only [q] at e
      rw [List.length_cons, h ds ρ1 ρ' e]

/-! ### for -/
def sLoop (T : D → Env → Option Env) (body : Env → R Fl) : List D → Env → R Fl
  | [], ρ => .ok (.nx ρ)
  | d :: ds, ρ => match T d ρ with
    | none => .stuck
    | some ρ1 => body ρ1 >>= fun r => match r with
      | .nx ρ' => sLoop T body ds ρ'
      | .ct ρ' => sLoop T body ds ρ'
      | .bk ρ' => .ok (.nx ρ')
      | r => .ok r
def sFor (f : Env → R (List D)) (T : D → Env → Option Env) (body : Env → R Fl) : Env → R Fl := fun ρ => liftE (f ρ) ρ fun ds => sLoop T body ds ρ
theorem PostS.bindI {F B H : Hp} {σ : L2.St} {ρ : Env} {D : Ends} {r : R (List PD.D)} {k : List PD.D → R Fl} {P : It → Hp → Prop} (rp : Rep L fl F B σ H ρ) (p : PostS L J fl' F B W D (liftE r ρ k))
    (h : ∀ ds Jt F' H', r = .ok ds → Ext L.T F H F' H' → Rep L fl F' B σ H' ρ → Wk L Jt F' ds → PostS L J fl' F' B W D (k ds) → P Jt H') : PostI L F H r W σ P := by
  cases r with
  | ok d => exact fun Jt F' H' e w => h d Jt F' H' rfl e (rp.ext e) w (PostS.weak p e.ff)
  | err c fs => exact fun cls d F' H' e x => p cls d fl σ F' H' e.ff (rp.ext e) x
  | stuck => exact p
theorem s_for {iter : Expr} {body : List Stmt} {f : Env → R (List D)} {vs : List Nat} {T : D → Env → Option Env} {b : Env → R Fl} (hp : PassesOwn (model X.prog X.w) X.A X.env X.xe) (hi : PI X tg iter (tI L fl W f)) (hg : PG X tg (tG L fl fl vs T))
    (hb : PSs X body (tS L { J with fk := fl, fc := fl } fl fl W b)) (hc : X.calm = true := by rfl) (hs : ∀ x, foldedSetIterable iter X.env x = pure x := by intro _; rfl) : PS X (.For tg iter body [] pos) (tS L J fl fl W (sFor f T b)) :=
  (ps_for hp hc hi hg hb hs).imp fun D σ H ⟨F, B, ρ, r, p⟩ => ⟨F, B, ρ, r, PostS.bindI r p fun ds Jt F1 H1 _ e1 r1 w p1 => by
    refine ⟨fun i m σ H => m = ds.length - i ∧ i ≤ ds.length ∧ ∃ F2 ρ2, Same F1 F2 ∧ Rep L fl F2 B σ H ρ2 ∧ PostS L J fl F2 B W D (sLoop T b (ds.drop i) ρ2), ⟨ds.length, rfl, Nat.zero_le _, F1, ρ, .refl _, r1, p1⟩, ?_⟩
    rintro i m σ2 H2 ⟨rfl, hle, F2, ρ2, s2, r2, p2⟩
    obtain ⟨w1, w2⟩ := w F2 H2 s2 r2.bs.fh r2.bs.nf
    by_cases hlt : i < ds.length
    · have hd : ds[i]? = some ds[i] := List.getElem?_eq_getElem hlt
      obtain ⟨go, yl⟩ := w1 i _ hd
      refine .inr ⟨go, fun σ' H' => ∃ F3 ρ3, Same F1 F3 ∧ Rep L fl F3 B σ' H' ρ3 ∧ PostS L J fl F3 B W D (sLoop T b (ds.drop (i + 1)) ρ3), fun σ' H' n => ⟨ds.length - (i + 1), by omega, rfl, hlt, n⟩, fun x H' y => ?_⟩
      obtain ⟨F3, e3, d3⟩ := yl x H' y
      rw [List.drop_eq_getElem_cons hlt] at p2
      unfold sLoop at p2
      cases q : T ds[i] ρ2 with
      | none => rw [q] at p2; exact p2.elim
      | some ρ3 =>
        rw [q] at p2
        dsimp only at p2
        refine ⟨F3, B, ρ2, ds[i], r2.ext e3, d3, ρ3, q, fun σ3 _ r3 => ⟨F3, B, ρ3, r3, ?_⟩⟩
        have p3 := p2.weak e3.ff
        have s3 : Same F1 F3 := s2.trans e3.ff
        cases qb : b ρ3 with
        | ok y =>
          rw [qb, bind_ok] at p3
          cases y with
          | nx ρ' => exact fun σ' F' H' s r' => ⟨F', ρ', s3.trans s, r', p3.weak s⟩
          | rt d => exact p3
          | bk ρ' => exact p3
          | ct ρ' => exact fun σ' F' H' s r' => ⟨F', ρ', s3.trans s, r', p3.weak s⟩
          | ex c fs ρ' => exact p3
        | err c fs => rw [qb, bind_err] at p3; exact p3
        | stuck => rw [qb, bind_stuck] at p3; exact p3
    · have e : i = ds.length := by omega
      subst e
      rw [List.drop_length] at p2
      exact .inl ⟨w2 _ (Nat.le_refl _), p2 σ2 F2 H2 (.refl _) r2⟩⟩

/-! ### while -/
def sWh (c : Env → R Bool) (body : Env → R Fl) : Nat → Env → R Fl
  | 0, _ => .stuck
  | n + 1, ρ => liftE (c ρ) ρ fun b => if b = true then body ρ >>= fun r => match r with
      | .nx ρ' => sWh c body n ρ'
      | .ct ρ' => sWh c body n ρ'
      | .bk ρ' => .ok (.nx ρ')
      | r => .ok r
    else .ok (.nx ρ)
def WF : Nat := 10000000
def sWhile (c : Env → R Bool) (body : Env → R Fl) : Env → R Fl := sWh c body WF
theorem s_while {c : Expr} {body : List Stmt} {fc : Env → R Bool} {b : Env → R Fl} (hp : PassesOwn (model X.prog X.w) X.A X.env X.xe) (hc : PT X c (tT L fl W fc)) (hb : PSs X body (tS L { J with fk := fl, fc := fl } fl fl W b)) : PS X (.While c body [] pos) (tS L J fl fl W (sWhile fc b)) :=
  (ps_while hp hc hb).imp fun D σ H ⟨F, B, ρ, r, p⟩ => by
    refine ⟨fun m σ H => ∃ F2 ρ2, Same F F2 ∧ Rep L fl F2 B σ H ρ2 ∧ PostS L J fl F2 B W D (sWh fc b m ρ2), ⟨WF, F, ρ, .refl _, r, p⟩, ?_⟩
    rintro m σ2 H2 ⟨F2, ρ2, s2, r2, p2⟩
    cases m with
    | zero => exact p2.elim
    | succ m =>
      unfold sWh at p2
      refine ⟨F2, B, ρ2, r2, PostS.bindT r2 p2 fun k F3 H3 _ e3 r3 p3 => ?_⟩
      have s3 : Same F F3 := s2.trans e3.ff
      cases k with
      | false => rw [if_neg Bool.false_ne_true] at p3 ⊢; exact p3 σ2 F3 H3 (.refl _) r3
      | true =>
        rw [if_pos rfl] at p3 ⊢
        refine ⟨fun σ' H' => ∃ F4 ρ4, Same F F4 ∧ Rep L fl F4 B σ' H' ρ4 ∧ PostS L J fl F4 B W D (sWh fc b m ρ4), fun σ' H' n => ⟨m, Nat.lt_succ_self m, n⟩, F3, B, ρ2, r3, ?_⟩
        cases qb : b ρ2 with
        | ok y =>
          rw [qb, bind_ok] at p3
          cases y with
          | nx ρ' => exact fun σ' F' H' s r' => ⟨F', ρ', s3.trans s, r', p3.weak s⟩
          | rt d => exact p3
          | bk ρ' => exact p3
          | ct ρ' => exact fun σ' F' H' s r' => ⟨F', ρ', s3.trans s, r', p3.weak s⟩
          | ex c fs ρ' => exact p3
        | err c fs => rw [qb, bind_err] at p3; exact p3
        | stuck => rw [qb, bind_stuck] at p3; exact p3
end
end PD
set_option Elab.async false
set_option linter.all false
set_option maxRecDepth 100000
set_option maxHeartbeats 1000000
namespace PD
open PySem PySem.Spec PyProof.Rows L2

/-! ### defs -/
def PostF (L : LE) (F B : Hp) (rs : Sh) (r : R D) (Q : VK) (E : XK) : Prop := match r with
  | .ok d => ∀ v F' H' S, Same F F' → Bs L F' B H' → Own L.K F' H' rs v d S → S.Nodup → (∀ a ∈ S, F' a = none ∧ B a = none) → Q v H'
  | .err c fs => ∀ cls d F' H', Same F F' → Bs L F' B H' → ErrOk L c fs cls d F' H' → E cls d H'
  | .stuck => False
def spD (L : LE) (rs : Sh) (n : Nat) (m : List D → R D) : Sp := fun vs H Q E => ∃ F B ds, Bs L F B H ∧ DatL L.K F vs ds ∧ ds.length = n ∧ PostF L F B rs (m ds) Q E
def mFn (n : Nat) (fall : Bool) (b : Env → R Fl) : List D → R D := fun ds => match b (ds.map some ++ List.replicate (n - ds.length) none) with
  | .ok (.nx _) => if fall = true then .ok .non else .stuck
  | .ok (.rt d) => .ok d
  | .ok (.ex c fs _) => .err c fs
  | _ => .stuck
/-- a def that may be called: its level k, its result's shape, its number of parameters, its mirror -/
structure Cal (P : Program) (w : World) (K : PySem.W.Frag) (mg : Str → Option Value) (base : Heap) (L : LE) (x : Str) (k : Nat) (rs : Sh) (n : Nat) (m : List D → R D) : Prop where
  ex : ∃ f fd ps, FnOk P w K mg base (L2.CX P w) k f fd ps (spD L rs n m) ∧ mg x = some (.ref f) ∧ PySem.W.keepIn K (.ref f) = true ∧ Binds K fd ps []
def WF' (E : XK) : WX := fun cls d _ H => E cls d H
section
variable {P : Program} {w : World} {K : PySem.W.Frag} {mg : Str → Option Value} {base : Heap} {L : LE}
theorem rep_start {N : List Str} {vs : List V} {ds : List D} {F B H : Hp} {fl rest : List Sh} (b : Bs L F B H) (d : DatL L.K F vs ds) (hf : fl = List.replicate ds.length .s ++ rest) (hn : fl.length = N.length) (hx : fl.all (fun sh => !sh.isX) = true) :
    Rep L fl F B (L2.start N vs) H (ds.map some ++ List.replicate (N.length - ds.length) none) := by
  have hl := d.length
  have h1 : ds.length ≤ N.length := by
    rw [← hn, hf, List.length_append, List.length_replicate]
    omega
  refine ⟨b, ?_, ?_, fun i u eo q => ?_, fun _ => [], fun i d' q => ?_, (fun i j a m => nomatch m), fun _ => List.nodup_nil, fun i a m => nomatch m⟩
  · unfold L2.start
    rw [List.length_append, List.length_map, List.length_replicate, hl, hn]
    omega
  · rw [List.length_append, List.length_map, List.length_replicate, hn]
    omega
  · have := List.all_eq_true.mp hx _ (List.mem_of_getElem? q)
    cases this
  · by_cases hi : i < ds.length
    · rw [List.getElem?_append_left (by rw [List.length_map]; exact hi), List.getElem?_map, List.getElem?_eq_getElem hi] at q
      cases q
      obtain ⟨v, e, dv⟩ := d.get (List.getElem?_eq_getElem hi)
      refine ⟨v, .s, ?_, ?_, rfl, .d (bw := false) dv⟩
      · unfold L2.start
        rw [List.getElem?_append_left (by rw [List.length_map, hl]; exact hi), List.getElem?_map, e]
        rfl
      · rw [hf, List.getElem?_append_left (by rw [List.length_replicate]; exact hi), List.getElem?_replicate, if_pos hi]
    · rw [List.getElem?_append_right (by rw [List.length_map]; omega), List.getElem?_replicate] at q
      split at q <;> cases q
theorem fnD {x qual : Str} {st : Stmt} {f : Addr} {fd : FuncData} {N ps : List Str} {k : Nat} (F : Fun K x qual st f fd) (S : FnScope N ps (defScope st)) (hL : L.K = K) {fl fl' rest : List Sh} {rs : Sh} {b : Env → R Fl} (fall : Bool)
    (hfl : fl = List.replicate ps.length .s ++ rest) (hln : fl.length = N.length) (hfall : fall = true → rs = .s)
    (hb : ∀ (cdv : Value) (A : Around) (outer : List PySem.Env) (s : Shared) (H : Hp) (E : XK), Room k (A.deeper (envOfC qual (defScope st) s.heap.objs.size f cdv)) →
      PSs (cxOf (L2.CX P w) P w K mg base N qual (defScope st) f cdv A outer s H E) (defBody st) (tS L ⟨rs, [], []⟩ fl fl' (WF' E) b))  (hnx : fl.all (fun sh => !sh.isX) = true := by rfl) :
    FnOk P w K mg base (L2.CX P w) (k + 1) f fd ps (spD L rs ps.length (mFn N.length fall b)) := by
  refine F.okX S (fun vs H Q E ⟨_, _, ds, _, d, hl, _⟩ => d.length.trans hl) (fun cdv A outer s H vs Q E hr ⟨F0, B, ds, bs, d, hl, p⟩ => ⟨_, hb cdv A outer s H E hr, ?_⟩)
  refine ⟨F0, B, _, rep_start (N := N) bs d (by rw [hl]; exact hfl) hln hnx, ?_⟩
  unfold mFn at p
  generalize b (ds.map some ++ List.replicate (N.length - ds.length) none) = r at p
  cases r with
  | ok y =>
    cases y with
    | nx ρ =>
      dsimp only at p
      cases fall with
      | false => rw [if_neg Bool.false_ne_true] at p; exact p.elim
      | true =>
        rw [if_pos rfl] at p
        have e := hfall rfl
        subst e
        exact fun σ' F' H' s r' => p .non F' H' [] s r'.bs (.d (bw := false) .non) List.nodup_nil (fun a m => nomatch m)
    | rt d => exact p
    | bk ρ => exact p.elim
    | ct ρ => exact p.elim
    | ex c fs ρ => exact fun cls d fl0 σ' F' H' s r' x => p cls d F' H' s r'.bs x
  | err c fs => exact p.elim
  | stuck => exact p.elim
theorem cal_of {x : Str} {f : Addr} {fd : FuncData} {ps : List Str} {k n : Nat} {rs : Sh} {m : List D → R D} {st : Stmt} {qual : Str} (G : FnOk P w K mg base (L2.CX P w) k f fd ps (spD L rs n m)) (F : Fun K x qual st f fd) (b : Binds K fd ps []) (hm : mg x = some (.ref f)) : Cal P w K mg base L x k rs n m :=
  ⟨f, fd, ps, G, hm, F.kp, b⟩
end

/-! ### calls -/
def mCall (n : Nat) (m : List D → R D) (fs : Env → R (List D)) : Env → R D := fun ρ => fs ρ >>= fun ds => if ds.length = n then m ds else .stuck
def noF {α : Type} (r : R α) : R α := match r with
  | .err c (_ :: _) => .stuck
  | r => r
def mCallA (n : Nat) (m : List D → R D) (fs : Env → R (List D)) : Env → R D := fun ρ => fs ρ >>= fun ds => if ds.length = n then noF (m ds) >>= fun d => if isAtom d = true then .ok d else .stuck else .stuck
open Classical in
noncomputable def offH (F H : Hp) : Hp := fun a => if F a = none then (match H a with
  | some o => if isTbl o = true then none else some o
  | none => none) else none
def visH (H : Hp) : Hp := fun a => match H a with
  | some o => if isTbl o = true then none else some o
  | none => none
section
variable {F H F' H' : Hp}
theorem visH_some {a : Addr} {o : HO} (h : H a = some o) (t : isTbl o = false) : visH H a = some o := by
  unfold visH; rw [h]; dsimp only; rw [if_neg (by rw [t]; exact Bool.false_ne_true)]
theorem visH_of {a : Addr} {o : HO} (h : visH H a = some o) : H a = some o ∧ isTbl o = false := by
  unfold visH at h
  cases q : H a with
  | none => rw [q] at h; cases h
  | some u =>
    rw [q] at h
    dsimp only at h
    by_cases t : isTbl u = true
    · rw [if_pos t] at h; cases h
    · rw [if_neg t] at h; cases h; exact ⟨rfl, by simpa using t⟩
theorem offH_some {a : Addr} {o : HO} (n : F a = none) (h : H a = some o) (t : isTbl o = false) : offH F H a = some o := by
  unfold offH; rw [if_pos n, h]; dsimp only; rw [if_neg (by rw [t]; exact Bool.false_ne_true)]
theorem offH_of {a : Addr} {o : HO} (h : offH F H a = some o) : F a = none ∧ H a = some o ∧ isTbl o = false := by
  unfold offH at h
  by_cases n : F a = none
  · rw [if_pos n] at h
    exact ⟨n, visH_of (H := H) h⟩
  · rw [if_neg n] at h; cases h
theorem offH_bs {L : LE} {B : Hp} (b : Bs L F B H) : Bs L F (offH F H) H :=
  ⟨b.fh, fun a o h => (offH_of h).2.1, fun a o h => (offH_of h).1, b.nf, fun a o h => (offH_of h).2.2, b.tab⟩
theorem visH_bs {L : LE} {B : Hp} (b : Bs L F B H) : Bs L (visH H) (fun _ => none) H :=
  ⟨fun a o h => (visH_of h).1, (fun a o h => nomatch h), (fun a o h => nomatch h), fun a o h => (visH_of h).2, (fun a o h => nomatch h), b.tab⟩
theorem offH_ext {L : LE} (s : Same F F') (fh0 : Same F H) (b : Bs L F' (offH F H) H') : Ext L.T F H F' H' := by
  refine ⟨fun a o h t => ?_, fun P m _ => b.tab P m, s, b.fh, fun a o h t n => b.fb a o (offH_some n h t), b.nf⟩
  cases q : F a with
  | none => exact b.bh a o (offH_some q h t)
  | some u =>
    have z := fh0 a u q
    rw [h] at z
    cases z
    exact b.fh a o (s a o q)
theorem visH_ext {L : LE} (s : Same (visH H) F') (fh0 : Same F H) (nf : NoT F) (b : Bs L F' (fun _ => none) H') : Ext L.T F H F H' :=
  ⟨fun a o h t => b.fh a o (s a o (visH_some h t)), fun P m _ => b.tab P m, .refl _, fun a o h => b.fh a o (s a o (visH_some (fh0 a o h) (nf a o h))), fun _ _ _ _ n => n, nf⟩
end
section
variable {X : Cx} {L : LE} {fl : List Sh} {W : WX} {pos : Pos}
theorem e_call {x : Str} {p : Pos} {e : Expr} {es : List Expr} {k j n : Nat} {rs : Sh} {m : List D → R D} {fs : Env → R (List D)} (c : Cal X.prog X.w X.K X.mg X.base L x k rs n m) (hr : Room j X.A) (tk : Takes X W)
    (ha : PA X (e :: es) (tA L fl false W fs)) (hk : k ≤ j := by first | decide | omega) (hg : Gl X x := by rfl) (hdb : (x == ("__debug__" : Str)) = false := by decide) (he : starEach (e :: es) X.env = (false, eval e X.env) :: starEach es X.env := by rfl) (hpl : (backTo pos (starEach es X.env)).any (·.1) = false := by rfl) :
    PE X (.Call (.Name x p) (e :: es) [] pos) (tD L fl rs W (mCall n m fs)) := by
  obtain ⟨f, fd, ps, G, hm, hkp, hb⟩ := c.ex
  refine (pe_callS G (hr.mono hk) hg hm hkp hb (fun σ => passAt tk σ) ha hdb he hpl).imp fun σ H Q ⟨F, B, ρ, r, p⟩ => ?_
  refine tA_bind rfl r (k := fun ds => if ds.length = n then m ds else .stuck) p fun ds vs F1 H1 _ e1 r1 d1 p1 => ?_
  by_cases hl : ds.length = n
  · rw [if_pos hl] at p1
    refine ⟨F1, offH F1 H1, ds, offH_bs r1.bs, d1, hl, ?_⟩
    unfold PostE at p1
    unfold PostF
    cases q : m ds with
    | ok d =>
      rw [q] at p1
      intro v F2 H2 S s b o nd fr
      refine p1 v F2 H2 S (offH_ext s r1.bs.fh b) o nd fun a m => ⟨(fr a m).1, fun u hu => ?_⟩
      cases t : isTbl u with
      | true => rfl
      | false =>
        have z := (fr a m).2
        cases qf : F1 a with
        | none => rw [offH_some qf hu t] at z; cases z
        | some u' =>
          have z2 := (fr a m).1
          rw [s a u' qf] at z2
          cases z2
    | err c fs =>
      rw [q] at p1
      exact fun cls d F2 H2 s b x => p1 cls d F2 H2 (offH_ext s r1.bs.fh b) x
    | stuck => rw [q] at p1; exact p1
  · rw [if_neg hl] at p1; exact p1.elim
theorem e_callA {x : Str} {p : Pos} {e : Expr} {es : List Expr} {k j n : Nat} {rs : Sh} {m : List D → R D} {fs : Env → R (List D)} (c : Cal X.prog X.w X.K X.mg X.base L x k rs n m) (hr : Room j X.A) (tk : Takes X W)
    (ha : PA X (e :: es) (tA L fl true W fs)) {bw : Bool} (hk : k ≤ j := by first | decide | omega) (hg : Gl X x := by rfl) (hdb : (x == ("__debug__" : Str)) = false := by decide) (he : starEach (e :: es) X.env = (false, eval e X.env) :: starEach es X.env := by rfl) (hpl : (backTo pos (starEach es X.env)).any (·.1) = false := by rfl) :
    PE X (.Call (.Name x p) (e :: es) [] pos) (tD L fl (.d bw) W (mCallA n m fs)) := by
  obtain ⟨f, fd, ps, G, hm, hkp, hb⟩ := c.ex
  refine (pe_callS G (hr.mono hk) hg hm hkp hb (fun σ => passAt tk σ) ha hdb he hpl).imp fun σ H Q ⟨F, B, ρ, r, p⟩ => ?_
  refine tA_bind rfl r (k := fun ds => if ds.length = n then noF (m ds) >>= fun d => if isAtom d = true then .ok d else .stuck else .stuck) p fun ds vs F1 H1 _ e1 r1 d1 p1 => ?_
  by_cases hl : ds.length = n
  · rw [if_pos hl] at p1
    refine ⟨visH H1, fun _ => none, ds, visH_bs r1.bs, ?_, hl, ?_⟩
    · exact DatL.mono (fun a o h t => visH_some h t) d1
    · unfold PostF
      cases q : m ds with
      | ok d =>
        rw [q] at p1
        have p1 : PostE L F1 H1 (.d bw) (if isAtom d = true then .ok d else .stuck) W σ Q := p1
        intro v F2 H2 S s b o nd fr
        by_cases at_ : isAtom d = true
        · rw [if_pos at_] at p1
          exact postE_ok p1 (visH_ext s r1.bs.fh r1.bs.nf b) (dat_atom at_ (o.toB b.fh.sm))
        · rw [if_neg at_] at p1; exact p1.elim
      | err c fs =>
        rw [q] at p1
        cases fs with
        | cons f fs => exact p1.elim
        | nil =>
          intro cls d F2 H2 s b x
          exact p1 cls d F1 H2 (visH_ext s r1.bs.fh r1.bs.nf b) x
      | stuck => rw [q] at p1; exact p1
  · rw [if_neg hl] at p1; exact p1.elim

/-! ### raise -/
/-- an own class of errors without an __init__ -/
structure Xcl (K : PySem.W.Frag) (mg : Str → Option Value) (L : LE) (c : Str) : Prop where
  g : mg c = some (.ref (L.ca c))
  x : PySem.W.excIn K (L.ca c) [.type "ValueError", .type "Exception", .type "BaseException", .type "object"] "ValueError.__new__" = true
  k : PySem.W.keepIn K (.ref (L.ca c)) = true
  b : PySem.W.subIn K (.ref (L.ca c)) (.type "BaseException") = some true
  t : PySem.W.typeIn K (.ref (L.ca c)) = some (.type "type")
theorem s_raise {J : Jn} {fl' : List Sh} {c m : Str} {j : Nat} {p p2 pos' : Pos} (q : Xcl X.K X.mg L c) (tk : Takes X W) (hc : X.calm = true := by rfl) (hg : Gl X c := by rfl) (hdb : (c == ("__debug__" : Str)) = false := by decide) :
    PS X (.Raise (some (.Call (.Name c p) [.Constant (.str m) j p2] [] pos')) none pos) (tS L J fl fl' W (sRaise c)) :=
  (ps_raise hc tk (pmk_own PySem.F.excBase_ValueError q.x q.g q.k (raises_own q.b q.t) hg hdb)).imp fun D σ H ⟨F, B, ρ, r, p⟩ => p _ _ fl σ F H (.refl _) r ⟨rfl, rfl⟩

/-! ### list comprehensions -/
def wipeD (ρ : Env) : List Nat → Env
  | [] => ρ
  | v :: vs => (wipeD ρ vs).set v none
def nE {α : Type} (r : R α) : R α := match r with
  | .ok a => .ok a
  | _ => .stuck
def lcGo (T : D → Env → Option Env) (ft : Env → R Bool) (fe : Env → R D) (ρ : Env) : List D → R (List D)
  | [] => .ok []
  | d :: ds => match T d ρ with
    | none => .stuck
    | some ρ' => nE (ft ρ') >>= fun b => if b = true then nE (fe ρ') >>= fun y => lcGo T ft fe ρ ds >>= fun ys => .ok (y :: ys) else lcGo T ft fe ρ ds
def mLc (fi : Env → R (List D)) (vs : List Nat) (T : D → Env → Option Env) (ft : Env → R Bool) (fe : Env → R D) : Env → R D := fun ρ => fi ρ >>= fun ds => lcGo T ft fe (wipeD ρ vs) ds >>= fun xs => if xs.length ≤ LN then .ok (.lst xs) else .stuck
def mYes : Env → R Bool := fun _ => .ok true
abbrev W0 : WX := fun _ _ _ _ => False
theorem wipe_get {σ : L2.St} {j : Nat} : ∀ {vs : List Nat}, (wipe σ vs)[j]? = if j ∈ vs ∧ j < σ.length then some none else σ[j]?
  | [] => by simp [wipe]
  | v :: vs => by
    unfold wipe
    by_cases hv : v = j
    · subst hv
      by_cases hl : v < σ.length
      · rw [List.getElem?_set_self (by rw [wipe_length]; exact hl), if_pos ⟨List.mem_cons_self, hl⟩]
      · rw [if_neg fun z => hl z.2, List.getElem?_eq_none (by rw [List.length_set, wipe_length]; omega), List.getElem?_eq_none (by omega)]
    · rw [List.getElem?_set_ne hv, wipe_get]
      have e : (j ∈ v :: vs ∧ j < σ.length) ↔ (j ∈ vs ∧ j < σ.length) := by simp [Ne.symm hv]
      by_cases m : j ∈ vs ∧ j < σ.length
      · rw [if_pos m, if_pos (e.mpr m)]
      · rw [if_neg m, if_neg fun z => m (e.mp z)]
theorem wipeD_length {ρ : Env} : ∀ {vs : List Nat}, (wipeD ρ vs).length = ρ.length
  | [] => rfl
  | v :: vs => by unfold wipeD; rw [List.length_set, wipeD_length]
theorem wipeD_some {ρ : Env} {i : Nat} {d : D} : ∀ {vs : List Nat}, (wipeD ρ vs)[i]? = some (some d) → ρ[i]? = some (some d) ∧ i ∉ vs
  | [], h => ⟨h, by simp⟩
  | v :: vs, h => by
    unfold wipeD at h
    by_cases hv : v = i
    · subst hv
      by_cases hl : v < (wipeD ρ vs).length
      · rw [List.getElem?_set_self hl] at h; cases h
      · rw [List.getElem?_eq_none (by rw [List.length_set]; omega)] at h; cases h
    · rw [List.getElem?_set_ne hv] at h
      obtain ⟨a, b⟩ := wipeD_some h
      exact ⟨a, by simp [b, Ne.symm hv]⟩
/-- no slot of vs holds a just value -/
def noXs (fl : List Sh) (vs : List Nat) : Bool := vs.all fun i => match fl[i]? with
  | some (.x _ _) => false
  | _ => true
theorem noXs_no {fl : List Sh} {vs : List Nat} {i : Nat} {u : V} {eo : Option (Addr × List (Str × V))} (h : noXs fl vs = true) (m : i ∈ vs) (q : fl[i]? = some (Sh.x u eo)) : False := by
  have := List.all_eq_true.mp h i m
  rw [q] at this
  cases this
theorem Rep.wipe {F B H : Hp} {σ : L2.St} {ρ : Env} (r : Rep L fl F B σ H ρ) (vs : List Nat) (hx : noXs fl vs = true) : Rep L fl F B (L2.wipe σ vs) H (wipeD ρ vs) := by
  obtain ⟨Ss, h1, h2, h3, h4⟩ := r.sl
  refine ⟨r.bs, by rw [wipe_length]; exact r.ls, by rw [wipeD_length]; exact r.lr, fun i u eo q => by rw [wipe_get, if_neg fun z => noXs_no hx z.1 q]; exact r.px i u eo q, Ss, fun i d q => ?_, h2, h3, h4⟩
  obtain ⟨q1, q2⟩ := wipeD_some q
  obtain ⟨v, sh, a1, a2⟩ := h1 i d q1
  exact ⟨v, sh, by rw [wipe_get, if_neg fun z => q2 z.1]; exact a1, a2⟩
theorem wipe_same {σ σ' : L2.St} {vs : List Nat} (hl : σ'.length = σ.length) (h : ∀ j, j ∉ vs → σ'[j]? = σ[j]?) : wipe σ' vs = wipe σ vs := by
  apply List.ext_getElem?
  intro j
  rw [wipe_get, wipe_get, hl]
  by_cases m : j ∈ vs
  · by_cases l : j < σ.length
    · rw [if_pos ⟨m, l⟩, if_pos ⟨m, l⟩]
    · rw [if_neg fun z => l z.2, if_neg fun z => l z.2, List.getElem?_eq_none (by omega), List.getElem?_eq_none (by omega)]
  · rw [if_neg fun z => m z.1, if_neg fun z => m z.1, h j m]
theorem wipe_wipe {σ : L2.St} {vs : List Nat} : wipe (wipe σ vs) vs = wipe σ vs := by
  apply List.ext_getElem?
  intro j
  rw [wipe_get, wipe_length]
  by_cases m : j ∈ vs ∧ j < σ.length
  · rw [if_pos m, wipe_get, if_pos m]
  · rw [if_neg m]
theorem lcGo_len {T : D → Env → Option Env} {ft : Env → R Bool} {fe : Env → R D} {ρ : Env} : ∀ {ds xs : List D}, lcGo T ft fe ρ ds = .ok xs → xs.length ≤ ds.length
  | [], xs, h => by cases h; exact Nat.le_refl _
  | d :: ds, xs, h => by
    unfold lcGo at h
    split at h
    · cases h
    · rename_i ρ' _
      generalize nE (ft ρ') = r at h
      cases r with
      | ok b =>
        rw [bind_ok] at h
        cases b with
        | true =>
          rw [if_pos rfl] at h
          generalize nE (fe ρ') = r2 at h
          cases r2 with
          | ok y =>
            rw [bind_ok] at h
            cases q : lcGo T ft fe ρ ds with
            | ok ys => rw [q, bind_ok] at h; cases h; exact Nat.succ_le_succ (lcGo_len q)
            | err c fs => rw [q] at h; cases h
            | stuck => rw [q] at h; cases h
          | err c fs => cases h
          | stuck => cases h
        | false =>
          rw [if_neg Bool.false_ne_true] at h
          exact Nat.le_succ_of_le (lcGo_len h)
      | err c fs => cases h
      | stuck => cases h
theorem lc_noerr {T : D → Env → Option Env} {ft : Env → R Bool} {fe : Env → R D} {ρ : Env} {c : Str} {fs : List (Str × D)} : ∀ ds : List D, lcGo T ft fe ρ ds ≠ .err c fs
  | [], h => by cases h
  | d :: ds, h => by
    unfold lcGo at h
    split at h
    · cases h
    · rename_i ρ' _
      cases qt : ft ρ' with
      | ok b =>
        rw [qt] at h
        cases b with
        | true =>
          cases qe : fe ρ' with
          | ok y =>
            rw [qe] at h
            cases q : lcGo T ft fe ρ ds with
            | ok ys => rw [q] at h; cases h
            | err c fs => exact lc_noerr ds q
            | stuck => rw [q] at h; cases h
          | err c fs => rw [qe] at h; cases h
          | stuck => rw [qe] at h; cases h
        | false => exact lc_noerr ds h
      | err c fs => rw [qt] at h; cases h
      | stuck => rw [qt] at h; cases h
theorem t_lc {fi : Env → R (List D)} {vs : List Nat} {T : D → Env → Option Env} {ft : Env → R Bool} {fe : Env → R D} {σ : L2.St} {H : Hp} {Q : VK} (hw : noXs fl vs = true) (h : tD L fl (.l .s) W (mLc fi vs T ft fe) σ H Q) :
    tLc (tI L fl W fi) (tG L fl fl vs T) (tT L fl W0 ft) (tD L fl .s W0 fe) vs σ H Q := by
  obtain ⟨F, B, ρ, r, p⟩ := h
  refine ⟨F, B, ρ, r, ?_⟩
  unfold mLc at p
  cases qi : fi ρ with
  | err c fs => rw [qi, bind_err] at p; exact p
  | stuck => rw [qi, bind_stuck] at p; exact p
  | ok ds =>
    rw [qi, bind_ok] at p
    intro Jt F1 H1 e1 w Dn hD
    have r1 := r.ext e1
    have p := p.weak e1
    cases qg : lcGo T ft fe (wipeD ρ vs) ds with
    | err c fs =>
      exfalso
      exact lc_noerr _ qg
    | stuck => rw [qg, bind_stuck] at p; exact p.elim
    | ok xs =>
      rw [qg, bind_ok] at p
      by_cases hlen : xs.length ≤ LN
      · rw [if_pos hlen] at p
        have hF1 : F1 Dn = none := e1.fh.free hD
        refine ⟨fun i m H => m = ds.length - i ∧ i ≤ ds.length ∧ ∃ F' acc dacc rest, Ext L.T F1 H1 F' H ∧ F' Dn = none ∧ H Dn = some (.lst acc) ∧ DatL L.K F' acc dacc ∧ lcGo T ft fe (wipeD ρ vs) (ds.drop i) = .ok rest ∧ xs = dacc ++ rest,
          ⟨ds.length, rfl, Nat.zero_le _, F1, [], [], xs, Ext.newH r1.bs.fh r1.bs.nf hD, hF1, upd_same, .nil, qg, rfl⟩, ?_⟩
        rintro i m H2 ⟨rfl, hle, F2, acc, dacc, rest, e2, hF2, hacc, hd, hg, hx⟩
        obtain ⟨w1, w2⟩ := w F2 H2 e2.ff e2.fh e2.nt
        by_cases hlt : i < ds.length
        · have hdi : ds[i]? = some ds[i] := List.getElem?_eq_getElem hlt
          obtain ⟨go, yl⟩ := w1 i _ hdi
          refine .inr ⟨go, fun H' => ∃ F' acc dacc rest, Ext L.T F1 H1 F' H' ∧ F' Dn = none ∧ H' Dn = some (.lst acc) ∧ DatL L.K F' acc dacc ∧ lcGo T ft fe (wipeD ρ vs) (ds.drop (i + 1)) = .ok rest ∧ xs = dacc ++ rest,
            fun H' n => ⟨ds.length - (i + 1), by omega, rfl, hlt, n⟩, fun x H3 y => ?_⟩
          obtain ⟨F3, e3, d3⟩ := yl x H3 y
          have e13 := e2.trans e3
          have r3 : Rep L fl F3 B (wipe σ vs) H3 (wipeD ρ vs) := (r1.ext e13).wipe vs hw
          rw [List.drop_eq_getElem_cons hlt] at hg
          unfold lcGo at hg
          cases qT : T ds[i] (wipeD ρ vs) with
          | none => rw [qT] at hg; cases hg
          | some ρ' =>
            rw [qT] at hg
            dsimp only at hg
            refine ⟨F3, B, wipeD ρ vs, ds[i], r3, d3, ρ', qT, fun σ' ⟨hl', hk'⟩ r4 => ⟨?_, ?_⟩⟩
            · rw [wipe_same hl' hk', wipe_wipe]
            · refine ⟨F3, B, ρ', r4, ?_⟩
              cases qt : ft ρ' with
              | err c fs => rw [qt] at hg; cases hg
              | stuck => rw [qt] at hg; cases hg
              | ok b =>
                rw [qt] at hg
                have hg : (if b = true then nE (fe ρ') >>= fun y => lcGo T ft fe (wipeD ρ vs) (ds.drop (i + 1)) >>= fun ys => .ok (y :: ys) else lcGo T ft fe (wipeD ρ vs) (ds.drop (i + 1))) = .ok rest := hg
                intro F4 H4 e4
                have hF4 : ∀ {F5 H5}, Ext L.T F2 H2 F5 H5 → F5 Dn = none := fun e => e.hid Dn _ hacc rfl hF2
                cases b with
                | false =>
                  rw [if_neg Bool.false_ne_true] at hg ⊢
                  have e24 := e3.trans e4
                  exact ⟨F4, acc, dacc, rest, e13.trans e4, hF4 e24, e24.hh _ _ hacc rfl, hd.mono e24.ff.sm, hg, hx⟩
                | true =>
                  rw [if_pos rfl] at hg ⊢
                  refine ⟨F4, B, ρ', r4.ext e4, ?_⟩
                  cases qe : fe ρ' with
                  | err c fs => rw [qe] at hg; cases hg
                  | stuck => rw [qe] at hg; cases hg
                  | ok y =>
                    rw [qe] at hg
                    have hg : (lcGo T ft fe (wipeD ρ vs) (ds.drop (i + 1)) >>= fun ys => .ok (y :: ys)) = .ok rest := hg
                    intro v F5 H5 S5 e5 o5 _ _
                    have e25 := (e3.trans e4).trans e5
                    cases ql : lcGo T ft fe (wipeD ρ vs) (ds.drop (i + 1)) with
                    | err c fs => rw [ql] at hg; cases hg
                    | stuck => rw [ql] at hg; cases hg
                    | ok ys =>
                      rw [ql, bind_ok] at hg
                      cases hg
                      have hacc5 := e25.hh _ _ hacc rfl
                      have hlen2 : acc.length < LN := by
                        have h1 := hd.length
                        rw [hx, List.length_append, List.length_cons] at hlen
                        omega
                      refine ⟨acc, hacc5, lt_line hlen2, F5, acc ++ [v], dacc ++ [y], ys, ?_, hF4 e25, upd_same, (hd.mono e25.ff.sm).append (.cons (own_d o5).1 .nil), rfl, by rw [hx, List.append_assoc]; rfl⟩
                      have e15 := (e13.trans e4).trans e5
                      have ne : ∀ a o, H1 a = some o → a ≠ Dn := fun a o h z => by rw [z, hD] at h; cases h
                      refine ⟨fun a o h t => by rw [upd_ne (ne a o h)]; exact e15.hh a o h t, fun P m h => ?_, e15.ff, fun a o h => ?_, e15.hid, e15.nt⟩
                      · obtain ⟨ps, q1, q2⟩ := e15.ht P m h
                        obtain ⟨ps0, q3, _⟩ := h
                        exact ⟨ps, by rw [upd_ne (ne P _ q3)]; exact q1, q2⟩
                      · rw [upd_ne fun z => by rw [z, hF4 e25] at h; cases h]
                        exact e15.fh a o h
        · have e : i = ds.length := by omega
          subst e
          rw [List.drop_length] at hg
          cases hg
          refine .inl ⟨w2 _ (Nat.le_refl _), ?_⟩
          refine p _ F2 H2 [Dn] e2 (.l hacc (OwnL.ofDat (by rw [hx, List.append_nil]; exact hd))) (by simp) fun a m => ?_
          have e : a = Dn := by simpa using m
          subst e
          exact ⟨hF2, .of hD⟩
      · rw [if_neg hlen] at p; exact p.elim
end
end PD
set_option Elab.async false
set_option linter.all false
set_option maxRecDepth 100000
set_option maxHeartbeats 1000000
namespace PD
open PySem PySem.Spec PyProof.Rows L2

/-! ### operators on data -/
def dAdd : D → D → Option D
  | .int i, .int j => some (.int (i + j))
  | .str s, .str t => if s.length + t.length ≤ LN then some (.str (s ++ t)) else none
  | .lst xs, .lst ys => if xs.length + ys.length ≤ LN then some (.lst (xs ++ ys)) else none
  | _, _ => none
def dCat : D → D → Option D
  | .lst xs, .lst ys => if xs.length + ys.length ≤ LN then some (.lst (xs ++ ys)) else none
  | _, _ => none
def dSub : D → D → Option D
  | .int i, .int j => some (.int (i - j))
  | _, _ => none
def MB : Nat := 4000000
def dMul : D → D → Option D
  | .int i, .int j => if i.natAbs.log2 + j.natAbs.log2 < MB then some (.int (i * j)) else none
  | .str s, .int j => if 0 ≤ j ∧ j ≤ 1000000 ∧ s.length * j.toNat ≤ LN then some (.str (List.replicate j.toNat s).flatten) else none
  | .lst s, .int j => if -1000000 ≤ j ∧ j ≤ 1000000 ∧ s.length * j.toNat ≤ LN then some (.lst (List.replicate j.toNat s).flatten) else none
  | _, _ => none
def dRep : D → D → Option D
  | .lst s, .int j => if -1000000 ≤ j ∧ j ≤ 1000000 ∧ s.length * j.toNat ≤ LN then some (.lst (List.replicate j.toNat s).flatten) else none
  | _, _ => none
def dMod : D → D → Option D
  | .int i, .int j => if 0 < j then some (.int (i % j)) else none
  | _, _ => none
def dDiv : D → D → Option D
  | .int i, .int j => if 0 < j ∧ j.natAbs.log2 < 9000 then some (.int (i / j)) else none
  | _, _ => none
def dPow : D → D → Option D
  | .int i, .int j => if 0 ≤ j ∧ j ≤ 1000 ∧ i.natAbs < 2 ^ 64 then some (.int (i ^ j.toNat)) else none
  | _, _ => none
section
variable {X : Cx} {L : LE} {bw : Bool}
theorem op_mulB : OpR X (binaryOp .Mult) (rI (fun i j => i.natAbs.log2 + j.natAbs.log2 < MB) fun i j => .int (i * j)) := opI fun i j t u s Q E hc q => mul_int q (by
  have b : ∀ x : Int, Builtin.Int.intBits x ≤ x.natAbs.log2 + 1 := fun x => by
    unfold Builtin.Int.intBits
    split <;> omega
  have h1 := b i
  have h2 := b j
  have h3 : i.natAbs.log2 + j.natAbs.log2 < 4000000 := hc
  have e : bitsLine = 134217728 := by decide
  intro z
  rw [Bool.and_eq_true] at z
  have z2 := z.2
  unfold Builtin.Int.intTooBig at z2
  have z3 := of_decide_eq_true z2
  rw [e] at z3
  omega)
theorem mulOk_of {x : Str} {n : Int} (h0 : 0 ≤ n) (h1 : n ≤ 1000000) (h2 : x.length * n.toNat ≤ LN) :
    (decide (n < -(2 ^ 63 : Int)) || decide (n ≥ 2 ^ 63)) = false ∧ (¬ n < 1 → (n == 1 || x.length == 0) = false → ¬ ((x.length : Int) > (2 ^ 63 - 1) / n)) ∧ (¬ n < 1 → (n == 1 || x.length == 0) = false → Builtin.Str.tooLong (x.length * n.toNat) = false) := by
  have e : LN = 1000000 := rfl
  refine ⟨?_, fun q _ => ?_, fun _ _ => ?_⟩
  · rw [Bool.or_eq_false_iff]
    exact ⟨decide_eq_false (by omega), decide_eq_false (by omega)⟩
  · have h3 : x.length ≤ 1000000 := by
      have : x.length * 1 ≤ x.length * n.toNat := Nat.mul_le_mul_left _ (by omega)
      omega
    have h4 : (1000000 : Int) ≤ (2 ^ 63 - 1) / n := by
      rw [Int.le_ediv_iff_mul_le (by omega)]
      have : 1000000 * n ≤ 1000000 * 1000000 := Int.mul_le_mul_of_nonneg_left h1 (by decide)
      omega
    omega
  · unfold Builtin.Str.tooLong
    have := sizeLine_eq
    simp only [decide_eq_false_iff_not, gt_iff_lt]
    omega
theorem foldl_app : ∀ (l : List (Array Nat)) (acc : Array Nat), (l.foldl (· ++ ·) acc).toList = acc.toList ++ (l.map Array.toList).flatten
  | [], acc => by simp
  | a :: l, acc => by rw [List.foldl_cons, foldl_app l]; simp
def rMulS : R2 := fun x y H Q => ∃ s n, x = .str s ∧ y = .int n ∧ (0 ≤ n ∧ n ≤ 1000000 ∧ s.length * n.toNat ≤ LN) ∧ Q (.str ⟨(List.replicate n.toNat s.cps.toList).flatten.toArray⟩) H
theorem op_mulS : OpR X (binaryOp .Mult) rMulS := by
  intro pins s σ H x y v u Q I rx ry h
  obtain ⟨z, n, rfl, rfl, ⟨h0, h1, h2⟩, q⟩ := h
  obtain ⟨t, rfl⟩ := rx
  obtain ⟨t', rfl⟩ := ry
  obtain ⟨k1, k2, k3⟩ := mulOk_of h0 h1 h2
  have res : ∀ w : Str, w.cps.toList = (List.replicate n.toNat z.cps.toList).flatten → Q (.str w) H := fun w e => by
    rw [← str_eq e]; exact q
  refine PySem.P.mul_str k1 k2 k3 ?_
  by_cases c1 : n < 1
  · rw [if_pos c1]
    have e0 : n.toNat = 0 := by omega
    exact ⟨by decide, .str Str.empty, H, I.tok _, ⟨_, rfl⟩, res _ (by rw [e0]; rfl)⟩
  · rw [if_neg c1]
    by_cases c2 : (n == 1 || z.length == 0) = true
    · rw [if_pos c2]
      refine ⟨.str z, H, I, ⟨_, rfl⟩, res _ ?_⟩
      rw [Bool.or_eq_true] at c2
      rcases c2 with c2 | c2
      · have e1 : n = 1 := by simpa using c2
        subst e1
        simp
      · have e1 : z.cps.toList = [] := by
          have : z.cps.size = 0 := by simpa [Str.length] using c2
          simpa using this
        rw [e1]
        simp
    · rw [if_neg c2]
      have c2 : (n == 1 || z.length == 0) = false := by simpa using c2
      refine ⟨?_, ?_⟩
      · show ((List.replicate n.toNat z.cps).foldl (· ++ ·) #[]).size ≤ sizeLine
        rw [← Array.length_toList, foldl_app]
        have e : z.cps.toList.length = z.length := by simp [Str.length]
        simp only [List.nil_append, List.map_replicate, List.length_flatten, List.sum_replicate_nat, Array.toList_empty]
        rw [e, Nat.mul_comm]
        exact le_line h2
      refine ⟨.str ⟨(List.replicate n.toNat z.cps).foldl (· ++ ·) #[]⟩, H, I.tok _, ⟨_, rfl⟩, res _ ?_⟩
      rw [foldl_app]
      simp

theorem own_lift {K : PySem.W.Frag} {F H : Hp} {v : V} {d : D} (s : Same F H) (h : Dat K F v d) : Own K F H (.d bw) v d [] := .d (dat_lift s h)
/-- a result that needs no object -/
theorem opD_pure {r : R2} {bw2 : Bool} {g : D → D → Option D} (h : ∀ (F H : Hp) (x y : V) (dx dy d : D), Same F H → Dat L.K (cond bw H F) x dx → Dat L.K (cond bw H F) y dy → g dx dy = some d → ∃ v, (∀ F, Dat L.K F v d) ∧ ∀ Q : VK, Q v H → r x y H Q) : OpD L r bw (.d bw2) g :=
  fun F H x y dx dy d s nt hx hy e Q q => by
    obtain ⟨v, dv, go⟩ := h F H x y dx dy d s hx hy e
    exact go Q (q v F H [] (.refl s nt) (own_lift s (dv F)) List.nodup_nil fun a m => nomatch m)
theorem OpD.or1 {r r' : R2} {sh : Sh} {g : D → D → Option D} {P : D → D → Bool} (h : OpD L r bw sh g) : OpD L (fun x y H Q => r x y H Q ∨ r' x y H Q) bw sh g :=
  fun F H x y dx dy d s nt hx hy e Q q => .inl (h F H x y dx dy d s nt hx hy e Q q)
/-- two roads, by the operands -/
theorem OpD.either {r r' : R2} {sh : Sh} {g g1 g2 : D → D → Option D} (h : OpD L r bw sh g1) (h' : OpD L r' bw sh g2) (e : ∀ x y d, g x y = some d → g1 x y = some d ∨ g2 x y = some d) : OpD L (fun x y H Q => r x y H Q ∨ r' x y H Q) bw sh g :=
  fun F H x y dx dy d s nt hx hy q Q k => (e dx dy d q).elim (fun z => .inl (h F H x y dx dy d s nt hx hy z Q k)) fun z => .inr (h' F H x y dx dy d s nt hx hy z Q k)
/-- a result that is new becomes shared -/
theorem OpD.frz {r : R2} {sh : Sh} {g : D → D → Option D} {bw2 : Bool} (h : OpD L r bw sh g) (n : sh.noB = true) : OpD L r bw (.d bw2) g :=
  fun F H x y dx dy d s nt hx hy q Q k => h F H x y dx dy d s nt hx hy q Q fun v F' H' S e o nd fr => by
    have s1 : Same F' (frzH F' H' S) := frzH_same fun a m => (fr a m).1
    have s2 : Same (frzH F' H' S) H' := frzH_to e.fh
    refine k v (frzH F' H' S) H' [] ⟨e.hh, e.ht, e.ff.trans s1, s2, fun a o' h1 t1 h2 => ?_, frzH_nt e.nt o.there⟩ (own_lift s2 (o.frz s1.sm n fun a m => frzH_in m)) List.nodup_nil (fun a m => nomatch m)
    by_cases m : a ∈ S
    · exact ((fr a m).2.no h1 t1).elim
    · rw [frzH_out m]; exact e.hid a o' h1 t1 h2
def dAddI : D → D → Option D
  | .int i, .int j => some (.int (i + j))
  | _, _ => none
def dAddS : D → D → Option D
  | .str s, .str t => if s.length + t.length ≤ LN then some (.str (s ++ t)) else none
  | _, _ => none
theorem od_addI {bw2 : Bool} : OpD L (rI0 fun i j => .int (i + j)) bw (.d bw2) dAddI := opD_pure fun F H x y dx dy d s hx hy e => by
  unfold dAddI at e
  split at e <;> cases e
  cases hx; cases hy
  exact ⟨_, fun _ => .int, fun Q q => ⟨_, _, rfl, rfl, q⟩⟩
theorem s_app {s t : List Nat} : (⟨s.toArray⟩ : Str) ++ ⟨t.toArray⟩ = ⟨(s ++ t).toArray⟩ := by
  show (⟨s.toArray ++ t.toArray⟩ : Str) = _
  simp
theorem s_len (s : List Nat) : (⟨s.toArray⟩ : Str).length = s.length := by simp [Str.length]
theorem od_addS {bw2 : Bool} : OpD L (fun x y H Q => ∃ i j, x = .str i ∧ y = .str j ∧ i.length + j.length ≤ sizeLine ∧ Q (.str (i ++ j)) H) bw (.d bw2) dAddS := opD_pure fun F H x y dx dy d s hx hy e => by
  unfold dAddS at e
  split at e
  · split at e <;> cases e
    rename_i s t hl
    cases hx; cases hy
    exact ⟨_, fun _ => .str, fun Q q => ⟨_, _, rfl, rfl, by rw [s_len, s_len]; exact le_line hl, by rw [s_app]; exact q⟩⟩
  · cases e
theorem od_cat : OpD L rCat false (.l .s) dCat := fun F H x y dx dy d s nt hx hy e Q q => by
  unfold dCat at e
  split at e
  · split at e <;> cases e
    rename_i xs ys hl
    cases hx with
    | lst h1 d1 =>
      cases hy with
      | lst h2 d2 =>
        have l1 := d1.length
        have l2 := d2.length
        refine ⟨_, _, _, _, rfl, rfl, s _ _ h1, s _ _ h2, le_line (by omega), fun p hp => ?_⟩
        refine q _ F _ [p] (Ext.newH s nt hp) (.l upd_same (OwnL.ofDat (d1.append d2))) (by simp) fun a m => ?_
        have e : a = p := by simpa using m
        subst e
        exact ⟨s.free hp, .of hp⟩
  · cases e
theorem od_add {bw2 : Bool} : OpD L (fun x y H Q => (fun x y H Q => rI0 (fun i j => .int (i + j)) x y H Q ∨ (fun x y H Q => ∃ i j, x = .str i ∧ y = .str j ∧ i.length + j.length ≤ sizeLine ∧ Q (.str (i ++ j)) H) x y H Q) x y H Q ∨ rCat x y H Q) false (.d bw2) dAdd :=
  OpD.either (g1 := fun x y => match dAddI x y with | some d => some d | none => dAddS x y) (OpD.either od_addI od_addS fun x y d e => by
    split at e
    · rename_i d' q
      cases e
      exact .inl q
    · exact .inr e) (od_cat.frz rfl) fun x y d e => by
    unfold dAdd at e
    split at e
    · exact .inl e
    · exact .inl e
    · exact .inr e
    · cases e
theorem or_add : OpR X (binaryOp .Add) (fun x y H Q => (fun x y H Q => rI0 (fun i j => .int (i + j)) x y H Q ∨ (fun x y H Q => ∃ i j, x = .str i ∧ y = .str j ∧ i.length + j.length ≤ sizeLine ∧ Q (.str (i ++ j)) H) x y H Q) x y H Q ∨ rCat x y H Q) := (op_add.or op_add_str).or op_cat
theorem od_sub {bw2 : Bool} : OpD L (rI0 fun i j => .int (i - j)) bw (.d bw2) dSub := opD_pure fun F H x y dx dy d s hx hy e => by
  unfold dSub at e
  split at e <;> cases e
  cases hx; cases hy
  exact ⟨_, fun _ => .int, fun Q q => ⟨_, _, rfl, rfl, q⟩⟩
theorem od_mod {bw2 : Bool} : OpD L (rI (fun _ j => 0 < j) fun i j => .int (i % j)) bw (.d bw2) dMod := opD_pure fun F H x y dx dy d s hx hy e => by
  unfold dMod at e
  split at e
  · split at e <;> cases e
    cases hx; cases hy
    exact ⟨_, fun _ => .int, fun Q q => ⟨_, _, rfl, rfl, by assumption, q⟩⟩
  · cases e
theorem od_div {bw2 : Bool} : OpD L (rI CDivW fun i j => .int (i / j)) bw (.d bw2) dDiv := opD_pure fun F H x y dx dy d s hx hy e => by
  unfold dDiv at e
  split at e
  · split at e <;> cases e
    cases hx; cases hy
    exact ⟨_, fun _ => .int, fun Q q => ⟨_, _, rfl, rfl, by assumption, q⟩⟩
  · cases e
theorem od_pow {bw2 : Bool} : OpD L (rI CPow fun i j => .int (i ^ j.toNat)) bw (.d bw2) dPow := opD_pure fun F H x y dx dy d s hx hy e => by
  unfold dPow at e
  split at e
  · split at e <;> cases e
    rename_i i j hh
    cases hx; cases hy
    exact ⟨_, fun _ => .int, fun Q q => ⟨_, _, rfl, rfl, ⟨hh.1, by omega, hh.2.2⟩, q⟩⟩
  · cases e
def dMulI : D → D → Option D
  | .int i, .int j => if i.natAbs.log2 + j.natAbs.log2 < MB then some (.int (i * j)) else none
  | _, _ => none
def dMulS : D → D → Option D
  | .str s, .int j => if 0 ≤ j ∧ j ≤ 1000000 ∧ s.length * j.toNat ≤ LN then some (.str (List.replicate j.toNat s).flatten) else none
  | _, _ => none
theorem od_mulI {bw2 : Bool} : OpD L (rI (fun i j => i.natAbs.log2 + j.natAbs.log2 < MB) fun i j => .int (i * j)) bw (.d bw2) dMulI := opD_pure fun F H x y dx dy d s hx hy e => by
  unfold dMulI at e
  split at e
  · split at e <;> cases e
    cases hx; cases hy
    exact ⟨_, fun _ => .int, fun Q q => ⟨_, _, rfl, rfl, by assumption, q⟩⟩
  · cases e
theorem od_mulS {bw2 : Bool} : OpD L rMulS bw (.d bw2) dMulS := opD_pure fun F H x y dx dy d s hx hy e => by
  unfold dMulS at e
  split at e
  · split at e <;> cases e
    rename_i hh
    cases hx; cases hy
    exact ⟨_, fun _ => .str, fun Q q => ⟨_, _, rfl, rfl, by rw [s_len]; exact hh, q⟩⟩
  · cases e
theorem datL_rep {K : PySem.W.Frag} {F : Hp} {vs : List V} {ds : List D} (h : DatL K F vs ds) : ∀ n : Nat, DatL K F (List.replicate n vs).flatten (List.replicate n ds).flatten
  | 0 => .nil
  | n + 1 => by
    rw [List.replicate_succ, List.replicate_succ, List.flatten_cons, List.flatten_cons]
    exact h.append (datL_rep h n)
theorem od_rep : OpD L rRep false (.l .s) dRep := fun F H x y dx dy d s nt hx hy e Q q => by
  unfold dRep at e
  split at e
  · split at e <;> cases e
    rename_i xs j hl
    cases hx with
    | lst h1 d1 =>
      cases hy
      have l1 := d1.length
      refine ⟨_, _, _, rfl, rfl, s _ _ h1, by omega, by omega, le_line (by rw [l1]; exact hl.2.2), fun p hp => ?_⟩
      refine q _ F _ [p] (Ext.newH s nt hp) (.l upd_same (OwnL.ofDat (datL_rep d1 _))) (by simp) fun a m => ?_
      have e : a = p := by simpa using m
      subst e
      exact ⟨s.free hp, .of hp⟩
  · cases e
theorem od_mul {bw2 : Bool} : OpD L (fun x y H Q => (fun x y H Q => rI (fun i j => i.natAbs.log2 + j.natAbs.log2 < MB) (fun i j => .int (i * j)) x y H Q ∨ rMulS x y H Q) x y H Q ∨ rRep x y H Q) false (.d bw2) dMul :=
  OpD.either (g1 := fun x y => match dMulI x y with | some d => some d | none => dMulS x y) (OpD.either od_mulI od_mulS fun x y d e => by
    split at e
    · rename_i d' q
      cases e
      exact .inl q
    · exact .inr e) (od_rep.frz rfl) fun x y d e => by
    unfold dMul at e
    split at e
    · rename_i i j
      refine .inl ?_
      show (match dMulI (.int i) (.int j) with | some d => some d | none => dMulS (.int i) (.int j)) = some d
      have e2 : dMulI (.int i) (.int j) = some d := e
      rw [e2]
    · exact .inl e
    · exact .inr e
    · cases e
theorem or_mul : OpR X (binaryOp .Mult) (fun x y H Q => (fun x y H Q => rI (fun i j => i.natAbs.log2 + j.natAbs.log2 < MB) (fun i j => .int (i * j)) x y H Q ∨ rMulS x y H Q) x y H Q ∨ rRep x y H Q) := (op_mulB.or op_mulS).or op_rep

/-! ### comparisons -/
def dCmp (pi : Int → Int → Bool) (ps : List Nat → List Nat → Bool) : D → D → Option D
  | .int i, .int j => some (.bl (pi i j))
  | .str i, .str j => some (.bl (ps i j))
  | _, _ => none
def dLt : D → D → Option D := dCmp (fun i j => decide (i < j)) fun i j => decide (i < j)
def dLe : D → D → Option D := dCmp (fun i j => decide (i ≤ j)) fun i j => !decide (j < i)
def dGt : D → D → Option D := dCmp (fun i j => decide (j < i)) fun i j => decide (j < i)
def dGe : D → D → Option D := dCmp (fun i j => decide (j ≤ i)) fun i j => !decide (i < j)
def dCmpI (pi : Int → Int → Bool) : D → D → Option D
  | .int i, .int j => some (.bl (pi i j))
  | _, _ => none
def dCmpS (ps : List Nat → List Nat → Bool) : D → D → Option D
  | .str i, .str j => some (.bl (ps i j))
  | _, _ => none
theorem od_cmpI {pi : Int → Int → Bool} {bw2 : Bool} : OpD L (rI0 fun i j => .bl (pi i j)) bw (.d bw2) (dCmpI pi) := opD_pure fun F H x y dx dy d s hx hy e => by
  unfold dCmpI at e
  split at e <;> cases e
  cases hx; cases hy
  exact ⟨_, fun _ => .bl, fun Q q => ⟨_, _, rfl, rfl, q⟩⟩
theorem od_cmpS {ps : List Nat → List Nat → Bool} {bw2 : Bool} : OpD L (fun x y H Q => ∃ i j, x = .str i ∧ y = .str j ∧ Q (.bl (ps i.cps.toList j.cps.toList)) H) bw (.d bw2) (dCmpS ps) := opD_pure fun F H x y dx dy d s hx hy e => by
  unfold dCmpS at e
  split at e <;> cases e
  cases hx; cases hy
  exact ⟨_, fun _ => .bl, fun Q q => ⟨_, _, rfl, rfl, q⟩⟩
theorem od_cmp {pi : Int → Int → Bool} {ps : List Nat → List Nat → Bool} {bw2 : Bool} : OpD L (fun x y H Q => rI0 (fun i j => .bl (pi i j)) x y H Q ∨ (fun x y H Q => ∃ i j, x = .str i ∧ y = .str j ∧ Q (.bl (ps i.cps.toList j.cps.toList)) H) x y H Q) bw (.d bw2) (dCmp pi ps) :=
  OpD.either od_cmpI od_cmpS fun x y d e => by
    unfold dCmp at e
    split at e
    · exact .inl e
    · exact .inr e
    · cases e
theorem or_lt : OpR X (compareOp .Lt) (fun x y H Q => rI0 (fun i j => .bl (decide (i < j))) x y H Q ∨ (fun x y H Q => ∃ i j, x = .str i ∧ y = .str j ∧ Q (.bl (decide (i.cps.toList < j.cps.toList))) H) x y H Q) := op_lt.or op_lt_str
theorem or_le : OpR X (compareOp .LtE) (fun x y H Q => rI0 (fun i j => .bl (decide (i ≤ j))) x y H Q ∨ (fun x y H Q => ∃ i j, x = .str i ∧ y = .str j ∧ Q (.bl (!decide (j.cps.toList < i.cps.toList))) H) x y H Q) := op_le.or op_le_str
theorem or_gt : OpR X (compareOp .Gt) (fun x y H Q => rI0 (fun i j => .bl (decide (j < i))) x y H Q ∨ (fun x y H Q => ∃ i j, x = .str i ∧ y = .str j ∧ Q (.bl (decide (j.cps.toList < i.cps.toList))) H) x y H Q) := op_gt.or op_gt_str
theorem or_ge : OpR X (compareOp .GtE) (fun x y H Q => rI0 (fun i j => .bl (decide (j ≤ i))) x y H Q ∨ (fun x y H Q => ∃ i j, x = .str i ∧ y = .str j ∧ Q (.bl (!decide (i.cps.toList < j.cps.toList))) H) x y H Q) := op_ge.or op_ge_str
/-- is None -/
def dIsN : D → D → Option D
  | .non, .non => some (.bl true)
  | _, .non => some (.bl false)
  | _, _ => none
def dNotN : D → D → Option D
  | .non, .non => some (.bl false)
  | _, .non => some (.bl true)
  | _, _ => none
def isNonD : D → Bool
  | .non => true
  | _ => false
theorem isN_of {K : PySem.W.Frag} {F : Hp} {x : V} {d : D} (h : Dat K F x d) : decide (x = V.non) = isNonD d := by
  cases h <;> simp [isNonD]
theorem od_isN {bw2 : Bool} : OpD L (fun x y H Q => y = .non ∧ Q (.bl (decide (x = .non))) H) bw (.d bw2) dIsN := opD_pure fun F H x y dx dy d s hx hy e => by
  have q := isN_of hx
  unfold dIsN at e
  split at e <;> cases e <;> cases hy
  · exact ⟨_, fun _ => .bl, fun Q k => ⟨rfl, by rw [q]; exact k⟩⟩
  · rename_i hn
    refine ⟨_, fun _ => .bl, fun Q k => ⟨rfl, ?_⟩⟩
    rw [q]
    cases dx <;> first | exact (hn rfl rfl).elim | exact (hn rfl).elim | exact k
theorem od_notN {bw2 : Bool} : OpD L (fun x y H Q => y = .non ∧ Q (.bl (!decide (x = .non))) H) bw (.d bw2) dNotN := opD_pure fun F H x y dx dy d s hx hy e => by
  have q := isN_of hx
  unfold dNotN at e
  split at e <;> cases e <;> cases hy
  · exact ⟨_, fun _ => .bl, fun Q k => ⟨rfl, by rw [q]; exact k⟩⟩
  · rename_i hn
    refine ⟨_, fun _ => .bl, fun Q k => ⟨rfl, ?_⟩⟩
    rw [q]
    cases dx <;> first | exact (hn rfl rfl).elim | exact (hn rfl).elim | exact k
/-! == -/
mutual
def toP : D → PyData
  | .non => .none
  | .bl b => .bool b
  | .int i => .int i
  | .str s => .str ⟨s.toArray⟩
  | .lst xs => .list (toPs xs)
  | .tup xs => .tuple (toPs xs)
  | .scr ns => .list (ns.map .int)
  | .rng _ _ => .none
  | .obj _ _ _ => .none
  | .dic _ _ => .none
  | .dct _ _ => .none
def toPs : List D → List PyData
  | [] => []
  | x :: xs => toP x :: toPs xs
end
mutual
/-- no range within -/
def noR : D → Bool
  | .rng _ _ => false
  | .obj _ _ _ => false
  | .dic _ _ => false
  | .dct _ _ => false
  | .lst xs => noRs xs
  | .tup xs => noRs xs
  | _ => true
def noRs : List D → Bool
  | [] => true
  | x :: xs => noR x && noRs xs
end
mutual
theorem dp_of {K : PySem.W.Frag} {H : Hp} : ∀ {v : V} {d : D}, noR d = true → Dat K H v d → Dp K H v (toP d)
  | _, _, _, .non => by unfold toP; exact .non
  | _, _, _, .bl => by unfold toP; exact .bl _
  | _, _, _, .int => by unfold toP; exact .int _
  | _, _, _, .str => by unfold toP; exact .str _
  | _, _, n, .lst h r => by unfold toP; unfold noR at n; exact .lst (SqL.of h) (dpl_of n r)
  | _, _, n, .tup h r => by unfold toP; unfold noR at n; exact .tup h (dpl_of n r)
  | _, _, _, .scr h => by unfold toP; exact .lst h (dpi_of _)
  | _, _, n, .rng _ => by unfold noR at n; cases n
  | _, _, n, .obj _ _ _ _ => by unfold noR at n; cases n
  | _, _, n, .dic _ _ _ => by unfold noR at n; cases n
  | _, _, n, .dct _ _ _ => by unfold noR at n; cases n
theorem dpl_of {K : PySem.W.Frag} {H : Hp} : ∀ {vs : List V} {ds : List D}, noRs ds = true → DatL K H vs ds → DpAll K H vs (toPs ds)
  | _, _, _, .nil => by unfold toPs; exact .nil
  | _, _, n, .cons h r => by
    unfold noRs at n
    rw [Bool.and_eq_true] at n
    unfold toPs; exact .cons (dp_of n.1 h) (dpl_of n.2 r)
theorem dpi_of {K : PySem.W.Frag} {H : Hp} : ∀ ns : List Int, DpAll K H (ns.map V.int) (ns.map PyData.int)
  | [] => .nil
  | n :: ns => .cons (.int n) (dpi_of ns)
end
def okP (d : D) : Bool := noR d && SeqAt.shaped (toP d)
def dEqB : D → D → Option Bool
  | .int i, .int j => some (i == j)
  | .str i, .str j => some (i == j)
  | .bl i, .bl j => some (i == j)
  | .non, .non => some true
  | x, y => if okP x = true ∧ okP y = true then some (PyData.eqv (toP x) (toP y)) else none
def dEq (x y : D) : Option D := (dEqB x y).map .bl
def dNe (x y : D) : Option D := (dEqB x y).map fun b => .bl !b
theorem dec_S {i j : List Nat} : decide (V.str ⟨i.toArray⟩ = V.str ⟨j.toArray⟩) = (i == j) := by
  rw [Bool.eq_iff_iff]
  simp
theorem eq_way {K : PySem.W.Frag} {H : Hp} {x y : V} {dx dy : D} {b : Bool} (hx : Dat K H x dx) (hy : Dat K H y dy) (e : dEqB dx dy = some b) :
    (scal x y = true ∧ decide (x = y) = b) ∨ ((noR dx = true ∧ noR dy = true) ∧ SeqAt.shaped (toP dx) = true ∧ SeqAt.shaped (toP dy) = true ∧ PyData.eqv (toP dx) (toP dy) = b) := by
  unfold dEqB at e
  split at e
  · cases e; cases hx; cases hy; exact .inl ⟨rfl, dec_int⟩
  · cases e; cases hx; cases hy; exact .inl ⟨rfl, dec_S⟩
  · cases e; cases hx; cases hy; exact .inl ⟨rfl, dec_bl⟩
  · cases e; cases hx; cases hy; exact .inl ⟨rfl, rfl⟩
  · split at e
    · rename_i hh
      cases e
      unfold okP at hh
      rw [Bool.and_eq_true, Bool.and_eq_true] at hh
      exact .inr ⟨⟨hh.1.1, hh.2.1⟩, hh.1.2, hh.2.2, rfl⟩
    · cases e
theorem cond_H {K : PySem.W.Frag} {F H : Hp} {v : V} {d : D} (s : Same F H) (h : Dat K (cond bw H F) v d) : Dat K H v d := by
  cases bw with
  | true => exact h
  | false => exact Dat.mono s.sm h
theorem od_eq {bw2 : Bool} (hK : X.K = L.K) : OpD L (fun x y H Q => rEq x y H Q ∨ rEqD X.K x y H Q) bw (.d bw2) dEq := opD_pure fun F H x y dx dy d s hx hy e => by
  unfold dEq at e
  cases q : dEqB dx dy with
  | none => rw [q] at e; cases e
  | some b =>
    rw [q] at e
    cases e
    refine ⟨_, fun _ => .bl, fun Q k => ?_⟩
    rcases eq_way (cond_H s hx) (cond_H s hy) q with ⟨z1, z2⟩ | ⟨n0, z1, z2, z3⟩
    · exact .inl ⟨z1, by rw [z2]; exact k⟩
    · exact .inr ⟨_, _, by rw [hK]; exact dp_of n0.1 (cond_H s hx), by rw [hK]; exact dp_of n0.2 (cond_H s hy), z1, z2, by rw [z3]; exact k⟩
theorem od_ne {bw2 : Bool} (hK : X.K = L.K) : OpD L (fun x y H Q => rNe x y H Q ∨ rNeD X.K x y H Q) bw (.d bw2) dNe := opD_pure fun F H x y dx dy d s hx hy e => by
  unfold dNe at e
  cases q : dEqB dx dy with
  | none => rw [q] at e; cases e
  | some b =>
    rw [q] at e
    cases e
    refine ⟨_, fun _ => .bl, fun Q k => ?_⟩
    rcases eq_way (cond_H s hx) (cond_H s hy) q with ⟨z1, z2⟩ | ⟨n0, z1, z2, z3⟩
    · exact .inl ⟨z1, by rw [z2]; exact k⟩
    · exact .inr ⟨_, _, by rw [hK]; exact dp_of n0.1 (cond_H s hx), by rw [hK]; exact dp_of n0.2 (cond_H s hy), z1, z2, by rw [z3]; exact k⟩
theorem or_eq {j : Nat} (hr : Room j X.A) : OpR X (compareOp .Eq) (fun x y H Q => rEq x y H Q ∨ rEqD X.K x y H Q) := op_eq.or (op_eqD hr.units)
theorem or_ne {j : Nat} (hr : Room j X.A) : OpR X (compareOp .NotEq) (fun x y H Q => rNe x y H Q ∨ rNeD X.K x y H Q) := op_ne.or (op_neD hr.units)
end
end PD
set_option Elab.async false
set_option linter.all false
set_option maxRecDepth 100000
set_option maxHeartbeats 1000000
namespace PD
open PySem PySem.Spec PyProof.Rows L2

/-! ### subscripts and slices -/
def dIx : D → D → Option D
  | .lst xs, .int i => atI xs i
  | .tup xs, .int i => atI xs i
  | .scr ns, .int i => (atI ns i).map .int
  | .str s, .int i => if s.length ≤ LN then (atI s i).map fun c => .str [c] else none
  | _, _ => none
theorem atI_dat {K : PySem.W.Frag} {F : Hp} {vs : List V} {ds : List D} {i : Int} {d : D} (h : DatL K F vs ds) (e : atI ds i = some d) : ∃ v, atI vs i = some v ∧ Dat K F v d := by
  unfold atI at e ⊢
  rw [h.length]
  cases q : ixN ds.length i with
  | none => rw [q] at e; cases e
  | some j => rw [q] at e; exact h.get e
theorem atI_map {α β : Type} {f : α → β} {xs : List α} {i : Int} : atI (xs.map f) i = (atI xs i).map f := by
  unfold atI
  rw [List.length_map]
  cases ixN xs.length i with
  | none => rfl
  | some j => exact List.getElem?_map ..
section
variable {X : Cx} {L : LE} {bw : Bool} {fl : List Sh} {W : WX} {pos : Pos}
theorem dat_sq {K : PySem.W.Frag} {H : Hp} {v : V} {xs : List D} (h : Dat K H v (.lst xs)) : ∃ a vs, v = .ref a ∧ H a = some (.lst vs) ∧ DatL K H vs xs := by
  cases h with
  | lst h r => exact ⟨_, _, rfl, h, r⟩
theorem dat_tp {K : PySem.W.Frag} {H : Hp} {v : V} {xs : List D} (h : Dat K H v (.tup xs)) : ∃ a vs, v = .ref a ∧ SqT K H a vs ∧ DatL K H vs xs := by
  cases h with
  | tup h r => exact ⟨_, _, rfl, h, r⟩
theorem cond_sm {F H : Hp} (s : Same F H) : Sm (cond bw H F) H := by
  cases bw with
  | true => exact .refl _
  | false => exact s.sm
theorem od_ix (hK : X.K = L.K) : OpD L (rIx X.K) bw (.d bw) dIx := fun F H x y dx dy d s nt hx hy e Q q => by
  have fin : ∀ {v : V}, Dat L.K (cond bw H F) v d → Q v H := fun {v} h => q v F H [] (.refl s nt) (.d h) List.nodup_nil fun a m => nomatch m
  rw [hK]
  unfold dIx at e
  split at e
  · obtain ⟨a, vs, rfl, h1, h2⟩ := dat_sq hx
    cases hy
    obtain ⟨v, e1, e2⟩ := atI_dat h2 e
    exact .inl ⟨a, vs, _, v, rfl, rfl, sm_l (cond_sm s) (SqL.of h1), e1, fin e2⟩
  · obtain ⟨a, vs, rfl, h1, h2⟩ := dat_tp hx
    cases hy
    obtain ⟨v, e1, e2⟩ := atI_dat h2 e
    exact .inr (.inl ⟨a, vs, _, v, rfl, rfl, sm_t (cond_sm s) h1, e1, fin e2⟩)
  · rename_i ns i
    cases hx with
    | scr h =>
      cases hy
      cases q1 : atI ns i with
      | none => rw [q1] at e; cases e
      | some n =>
        rw [q1] at e
        cases e
        exact .inl ⟨_, _, _, .int n, rfl, rfl, sm_l (cond_sm s) h, by rw [atI_map, q1]; rfl, fin .int⟩
  · split at e
    · rename_i z i hl
      cases hx; cases hy
      cases q1 : atI z i with
      | none => rw [q1] at e; cases e
      | some c =>
        rw [q1] at e
        cases e
        exact .inr (.inr ⟨_, _, c, rfl, rfl, by rw [s_len]; exact le_line hl, q1, fin (.str (s := [c]))⟩)
    · cases e
  · cases e
theorem e_ix {a b : Expr} {fa fb : Env → R D} (ha : PE X a (tD L fl (.d bw) W fa)) (hb : PE X b (tD L fl (.d bw) W fb)) (hK : X.K = L.K := by rfl) (hs : PlainIx b := by exact fun _ _ => rfl) : PE X (.Subscript a b pos) (tD L fl (.d bw) W (m2 dIx fa fb)) :=
  (pe_ix ix_seq ha hb hs).imp fun _ _ _ h => t_op2 (od_ix hK) h
/-- an item of an own list with shared items -/
theorem e_ixO (i : Nat) {x : Str} {b : Expr} {fb : Env → R D} {pos' : Pos} {bw2 : Bool} (hb : PE X b (tD L fl .s W fb)) (hK : X.K = L.K := by rfl) (hs : PlainIx b := by exact fun _ _ => rfl) (hfl : fl[i]? = some (.l .s) := by rfl) (hN : X.N[i]? = some x := by rfl) (hv : Vis X.env.scope x := by first | exact Or.inl rfl | exact Or.inr (Or.inl rfl) | exact Or.inr (Or.inr rfl)) (hd : (x == ("__debug__" : Str)) = false := by decide)
    (hcd : (x == ("__classdict__" : Str)) = false := by decide) : PE X (.Subscript (.Name x pos') b pos) (tD L fl (.d bw2) W (m2 dIx (mV i) fb)) :=
  (pe_ix ix_seq (pv i hN hv hd hcd) hb hs).imp fun σ H Q ⟨F, B, ρ, r, p⟩ => by
    unfold m2 mV at p
    cases q : ρ[i]? with
    | none => rw [q] at p; exact p.elim
    | some o =>
      cases o with
      | none => rw [q] at p; exact p.elim
      | some d =>
        rw [q] at p
        obtain ⟨Ss, h1, _⟩ := r.sl
        obtain ⟨v, sh, a1, a2, a3, a4⟩ := h1 i d q
        rw [hfl] at a2
        cases a2
        generalize Ss i = S0 at a4
        refine ⟨v, a1, ?_⟩
        refine tD_bind rfl r (k := fun y => oR (dIx d y)) p fun dy y F1 H1 S1 _ e1 r1 o1 _ _ p1 => ?_
        have p2 := p1.weak e1
        cases q2 : dIx d dy with
        | none => rw [q2] at p2; exact p2.elim
        | some z =>
          rw [q2] at p2
          cases a4 with
          | l hp ho =>
            rename_i vs xs S
            have dy1 := (own_d o1).1
            cases dy with
            | int k =>
              cases dy1
              have hd := ((OwnL.datS ho).1).mono e1.ff.sm
              obtain ⟨w, e2, e3⟩ := atI_dat hd (show atI xs k = some z from q2)
              rw [hK]
              exact .inl ⟨_, vs, _, w, rfl, rfl, SqL.of (e1.hh _ _ hp rfl), e2, postE_ok p2 r1.refl (dat_lift r1.bs.fh e3)⟩
            | _ => cases q2

/-! slices -/
def PostO (L : LE) (F H : Hp) (r : R (Option Int)) (W : WX) (σ : L2.St) (Q : Option Int → Hp → Prop) : Prop := match r with
  | .ok o => ∀ F' H', Ext L.T F H F' H' → Q o H'
  | .err c fs => ∀ cls d F' H', Ext L.T F H F' H' → ErrOk L c fs cls d F' H' → W cls d σ H'
  | .stuck => False
def tO (L : LE) (fl : List Sh) (W : WX) (f : Env → R (Option Int)) : TO := fun σ H Q => ∃ F B ρ, Rep L fl F B σ H ρ ∧ PostO L F H (f ρ) W σ Q
def mNo : Env → R (Option Int) := fun _ => .ok none
def dInt? : D → Option (Option Int)
  | .int i => some (some i)
  | _ => none
def mSo (f : Env → R D) : Env → R (Option Int) := fun ρ => f ρ >>= fun d => oR (dInt? d)
theorem o_none : PO X none (tO L fl W mNo) := ⟨fun pins s σ H Q I ⟨F, B, ρ, r, p⟩ => po_none.run pins s σ H Q I (p F H r.refl)⟩
theorem o_some {e : Expr} {f : Env → R D} (he : PE X e (tD L fl .b W f)) : PO X (some e) (tO L fl W (mSo f)) := ⟨fun pins s σ H Q I ⟨F, B, ρ, r, p⟩ => (po_some he).run pins s σ H Q I (by
  refine ⟨F, B, ρ, r, ?_⟩
  unfold mSo at p
  cases q : f ρ with
  | ok d =>
    rw [q, bind_ok] at p
    intro v F' H' S e o _ _
    have dv := (own_d o).1
    cases d with
    | int i => cases dv; exact ⟨i, rfl, p F' H' e⟩
    | _ => exact p.elim
  | err c fs => rw [q, bind_err] at p; exact p
  | stuck => rw [q, bind_stuck] at p; exact p)⟩
theorem PostO.weak {F H F' H' : Hp} {r : R (Option Int)} {σ : L2.St} {Q : Option Int → Hp → Prop} (p : PostO L F H r W σ Q) (e : Ext L.T F H F' H') : PostO L F' H' r W σ Q := by
  unfold PostO at p ⊢
  split at p
  · exact fun F2 H2 e2 => p F2 H2 (e.trans e2)
  · exact fun cls d F2 H2 e2 x => p cls d F2 H2 (e.trans e2) x
  · exact p
theorem tO_bind {F B H : Hp} {σ : L2.St} {ρ : Env} {f : Env → R (Option Int)} (r : Rep L fl F B σ H ρ) {Q : Option Int → Hp → Prop} {Q' : VK} {k : Option Int → R D} {sh' : Sh} (p : PostE L F H sh' (f ρ >>= k) W σ Q')
    (hk : ∀ o F' H', Ext L.T F H F' H' → Rep L fl F' B σ H' ρ → PostE L F' H' sh' (k o) W σ Q' → Q o H') : tO L fl W f σ H Q := by
  refine ⟨F, B, ρ, r, ?_⟩
  cases q : f ρ with
  | ok o => rw [q, bind_ok] at p; exact fun F' H' e => hk o F' H' e (r.ext e) (p.weak e)
  | err c fs => rw [q, bind_err] at p; exact p
  | stuck => rw [q, bind_stuck] at p; exact p
def cutG {α : Type} (xs : List α) (lo hi : Option Int) : List α := (xs.drop (HT.sIx xs.length 0 lo)).take (HT.sIx xs.length xs.length hi - HT.sIx xs.length 0 lo)
theorem cutG_length {α : Type} (xs : List α) (lo hi : Option Int) : (cutG xs lo hi).length ≤ xs.length := by
  unfold cutG
  rw [List.length_take, List.length_drop]
  omega
theorem datL_cut {K : PySem.W.Frag} {F : Hp} {vs : List V} {ds : List D} (h : DatL K F vs ds) (lo hi : Option Int) : DatL K F (cutV vs lo hi) (cutG ds lo hi) := by
  unfold cutV cutG
  rw [h.length]
  exact (h.drop _).take _
def dSl : D → Option Int → Option Int → Option D
  | .lst xs, lo, hi => some (.lst (cutG xs lo hi))
  | .str s, lo, hi => if s.length ≤ LN then some (.str (cutG s lo hi)) else none
  | _, _, _ => none
def dSlL : D → Option Int → Option Int → Option D
  | .lst xs, lo, hi => some (.lst (cutG xs lo hi))
  | _, _, _ => none
def mSl (g : D → Option Int → Option Int → Option D) (f : Env → R D) (fl fh : Env → R (Option Int)) : Env → R D := fun ρ => f ρ >>= fun x => fl ρ >>= fun l => fh ρ >>= fun h => oR (g x l h)
theorem cutS_G {s : List Nat} {lo hi : Option Int} : cutS ⟨s.toArray⟩ lo hi = ⟨(cutG s lo hi).toArray⟩ := by
  unfold cutS cutG
  rw [s_len]
theorem t_slL {f : Env → R D} {fl' fh : Env → R (Option Int)} (hK : X.K = L.K) {σ : L2.St} {H : Hp} {Q : VK} (h : tD L fl (.l .s) W (mSl dSlL f fl' fh) σ H Q) : tSl (rSlL X.K) (tD L fl .s W f) (tO L fl W fl') (tO L fl W fh) σ H Q := by
  obtain ⟨F, B, ρ, r, p⟩ := h
  refine tD_bind rfl r (k := fun x => fl' ρ >>= fun l => fh ρ >>= fun h => oR (dSlL x l h)) p fun dx x F1 H1 S1 _ e1 r1 o1 _ _ p1 => ?_
  refine tO_bind r1 (k := fun l => fh ρ >>= fun h => oR (dSlL dx l h)) (p1.weak e1) fun l F2 H2 e2 r2 p2 => ?_
  refine tO_bind r2 (k := fun h => oR (dSlL dx l h)) p2 fun hh F3 H3 e3 r3 p3 => ?_
  cases dx with
  | lst xs =>
    obtain ⟨a, vs, rfl, h1, h2⟩ := dat_sq (own_d o1).1
    have e13 := e2.trans e3
    rw [hK]
    refine ⟨a, vs, rfl, SqL.of (r3.bs.fh _ _ (e13.ff _ _ h1)), fun q hq => ?_⟩
    refine p3 _ F3 _ [q] (Ext.newH r3.bs.fh r3.bs.nf hq) (.l upd_same (OwnL.ofDat (datL_cut (h2.mono e13.ff.sm) l hh))) (by simp) fun b m => ?_
    have e : b = q := by simpa using m
    subst e
    exact ⟨r3.bs.fh.free hq, .of hq⟩
  | _ => exact p3.elim
theorem e_slL {a : Expr} {lo hi : Option Expr} {p2 : Pos} {f : Env → R D} {fl' fh : Env → R (Option Int)} (ha : PE X a (tD L fl .s W f)) (hl : PO X lo (tO L fl W fl')) (hh : PO X hi (tO L fl W fh)) (hK : X.K = L.K := by rfl) : PE X (.Subscript a (.Slice lo hi none p2) pos) (tD L fl (.l .s) W (mSl dSlL f fl' fh)) :=
  (pe_slice sl_list ha hl hh).imp fun _ _ _ h => t_slL hK h
/-- of a list (frozen) or a text -/
theorem e_sl {a : Expr} {lo hi : Option Expr} {p2 : Pos} {f : Env → R D} {fl' fh : Env → R (Option Int)} {bw : Bool} (ha : PE X a (tD L fl .s W f)) (hl : PO X lo (tO L fl W fl')) (hh : PO X hi (tO L fl W fh)) (hK : X.K = L.K := by rfl) : PE X (.Subscript a (.Slice lo hi none p2) pos) (tD L fl (.d bw) W (mSl dSl f fl' fh)) :=
  (pe_slice (sl_list.or sl_str) ha hl hh).imp fun σ H Q ⟨F, B, ρ, r, p⟩ => by
    refine tD_bind rfl r (k := fun x => fl' ρ >>= fun l => fh ρ >>= fun h => oR (dSl x l h)) p fun dx x F1 H1 S1 _ e1 r1 o1 _ _ p1 => ?_
    refine tO_bind r1 (k := fun l => fh ρ >>= fun h => oR (dSl dx l h)) (p1.weak e1) fun l F2 H2 e2 r2 p2 => ?_
    refine tO_bind r2 (k := fun h => oR (dSl dx l h)) p2 fun hh F3 H3 e3 r3 p3 => ?_
    have e13 := e2.trans e3
    cases dx with
    | lst xs =>
      obtain ⟨a, vs, rfl, h1, h2⟩ := dat_sq (own_d o1).1
      rw [hK]
      refine .inl ⟨a, vs, rfl, SqL.of (r3.bs.fh _ _ (e13.ff _ _ h1)), fun q hq => ?_⟩
      have e4 := Ext.newF (T := L.T) (o := .lst (cutV vs l hh)) r3.bs.fh r3.bs.nf hq rfl
      exact postE_ok p3 e4 (dat_lift e4.fh (.lst upd_same ((datL_cut (h2.mono e13.ff.sm) l hh).mono e4.ff.sm)))
    | str s =>
      have dv := (own_d o1).1
      cases dv
      have p4 : PostE L F3 H3 (.d bw) (oR (if s.length ≤ LN then some (.str (cutG s l hh)) else none)) W σ Q := p3
      by_cases hl : s.length ≤ LN
      · rw [if_pos hl] at p4
        exact .inr ⟨_, rfl, by rw [s_len]; exact le_line hl, by rw [cutS_G]; exact postE_ok p4 r3.refl .str⟩
      · rw [if_neg hl] at p4; exact p4.elim
    | _ => exact p3.elim

/-! ### in -/
def findN (s t : List Nat) (lo : Nat) : Option Nat := (List.range' lo (s.length + 1 - lo)).find? fun i => decide (i + t.length ≤ s.length) && ((s.drop i).take t.length == t)
def allAt (xs : List D) : Bool := xs.all isAtom
/-- == of atoms -/
def eqA : D → D → Bool
  | .non, .non => true
  | .bl a, .bl b => a == b
  | .bl a, .int b => (if a then 1 else 0) == b
  | .int a, .bl b => a == (if b then 1 else 0)
  | .int a, .int b => a == b
  | .str a, .str b => a == b
  | _, _ => false
def dInB : D → D → Option Bool
  | .str t, .str s => some (findN s t 0).isSome
  | x, .lst xs => if isAtom x = true ∧ allAt xs = true then some (xs.any fun y => eqA y x) else none
  | x, .tup xs => if isAtom x = true ∧ allAt xs = true then some (xs.any fun y => eqA y x) else none
  | _, _ => none
def dIn (x y : D) : Option D := (dInB x y).map .bl
def dNotIn (x y : D) : Option D := (dInB x y).map fun b => .bl !b
theorem at_findN {s t : List Nat} {i : Nat} : PySem.StrLaws.At ⟨s.toArray⟩ ⟨t.toArray⟩ (Str.length ⟨s.toArray⟩) i ↔ (decide (i + t.length ≤ s.length) && ((s.drop i).take t.length == t)) = true := by
  unfold PySem.StrLaws.At
  rw [s_len, s_len, PySem.StrLaws.subAt_eq, s_len, Bool.and_eq_true, decide_eq_true_eq]
theorem findN_some {s t : List Nat} {lo i : Nat} (h : findN s t lo = some i) : lo ≤ i ∧ (decide (i + t.length ≤ s.length) && ((s.drop i).take t.length == t)) = true ∧ ∀ k, lo ≤ k → k < i → ¬ (decide (k + t.length ≤ s.length) && ((s.drop k).take t.length == t)) = true := by
  unfold findN at h
  rw [List.find?_range'_eq_some] at h
  obtain ⟨h1, h2, h3⟩ := h
  have h4 := List.mem_range'_1.mp h2
  refine ⟨h4.1, h1, fun k k1 k2 => ?_⟩
  intro z
  have := h3 k k1 k2
  simp only [z] at this
  cases this
theorem findN_none {s t : List Nat} {lo : Nat} (h : findN s t lo = none) : ∀ i, lo ≤ i → ¬ (decide (i + t.length ≤ s.length) && ((s.drop i).take t.length == t)) = true := by
  intro i hi z
  unfold findN at h
  rw [List.find?_eq_none] at h
  have hl : i + t.length ≤ s.length := by
    rw [Bool.and_eq_true, decide_eq_true_eq] at z
    exact z.1
  exact h i (List.mem_range'_1.mpr ⟨hi, by omega⟩) z
/-- the model's search is findN -/
theorem occ_findN (s t : List Nat) (lo : Nat) : (match Builtin.Str.occurrences ⟨s.toArray⟩ ⟨t.toArray⟩ lo (Str.length ⟨s.toArray⟩) 1 with | k :: _ => some k | [] => none) = findN s t lo := by
  rcases PySem.StrLaws.occ_head_from ⟨s.toArray⟩ ⟨t.toArray⟩ lo 1 (Nat.le_refl _) with ⟨h, hn⟩ | ⟨i, r, h, hlo, ha, hn⟩
  · rw [h]
    cases q : findN s t lo with
    | none => rfl
    | some j =>
      obtain ⟨a, b, _⟩ := findN_some q
      exact (hn j a (at_findN.mpr b)).elim
  · rw [h]
    cases q : findN s t lo with
    | none => exact (findN_none q i hlo (at_findN.mp ha)).elim
    | some j =>
      obtain ⟨a, b, c⟩ := findN_some q
      rcases Nat.lt_trichotomy i j with z | z | z
      · exact (c i hlo z (at_findN.mp ha)).elim
      · rw [z]
      · exact (hn j a z (at_findN.mpr b)).elim
theorem occ_empty (s t : List Nat) : (!(Builtin.Str.occurrences ⟨s.toArray⟩ ⟨t.toArray⟩ 0 (Str.length ⟨s.toArray⟩) 1).isEmpty) = (findN s t 0).isSome := by
  rw [← occ_findN]
  cases Builtin.Str.occurrences ⟨s.toArray⟩ ⟨t.toArray⟩ 0 (Str.length ⟨s.toArray⟩) 1 <;> rfl
theorem flat_atom {K : PySem.W.Frag} {F : Hp} {v : V} {d : D} (h : Dat K F v d) (a : isAtom d = true) : flatV v = true := by
  cases h <;> first | rfl | cases a
theorem eqA_V {K : PySem.W.Frag} {F : Hp} {v w : V} {d e : D} (h : Dat K F v d) (h' : Dat K F w e) (a : isAtom d = true) (b : isAtom e = true) : eqV v w = eqA d e := by
  cases h <;> cases h' <;> first | rfl | cases a | cases b | skip
  rename_i s t
  show ((⟨s.toArray⟩ : Str) == ⟨t.toArray⟩) = (s == t)
  rw [Bool.eq_iff_iff]
  simp
theorem any_eqA {K : PySem.W.Frag} {F : Hp} {x : V} {dx : D} (h : Dat K F x dx) (a : isAtom dx = true) : ∀ {vs : List V} {ds : List D}, DatL K F vs ds → allAt ds = true → vs.all flatV = true ∧ inV x vs = ds.any fun y => eqA y dx
  | _, _, .nil, _ => ⟨rfl, rfl⟩
  | _, _, .cons g r, b => by
    unfold allAt at b
    rw [List.all_cons, Bool.and_eq_true] at b
    obtain ⟨i1, i2⟩ := any_eqA h a r b.2
    refine ⟨by rw [List.all_cons, flat_atom g b.1, i1]; rfl, ?_⟩
    unfold inV at i2 ⊢
    rw [List.any_cons, List.any_cons, i2, eqA_V g h b.1 a]
def rInB (K : PySem.W.Frag) (neg : Bool) : R2 := fun x y H Q => (fun x y H Q => ∃ i j, x = .str i ∧ y = .str j ∧ Q (.bl (if neg then !(!(Builtin.Str.occurrences j i 0 j.length 1).isEmpty) else !(Builtin.Str.occurrences j i 0 j.length 1).isEmpty)) H) x y H Q ∨ rIn K neg x y H Q
theorem in_way {F H : Hp} {x y : V} {dx dy : D} {neg b : Bool} (s : Same F H) (hx : Dat L.K (cond bw H F) x dx) (hy : Dat L.K (cond bw H F) y dy) (e : dInB dx dy = some b) (Q : VK) (q : Q (.bl (if neg then !b else b)) H) : rInB L.K neg x y H Q := by
  unfold dInB at e
  split at e
  · cases e
    cases hx; cases hy
    refine .inl ⟨_, _, rfl, rfl, ?_⟩
    rw [occ_empty]
    exact q
  · split at e
    · rename_i hh
      cases e
      obtain ⟨a, vs, rfl, h1, h2⟩ := dat_sq hy
      obtain ⟨f1, f2⟩ := any_eqA hx hh.1 h2 hh.2
      exact .inr ⟨a, vs, rfl, .inl (sm_l (cond_sm s) (SqL.of h1)), flat_atom hx hh.1, f1, by rw [f2]; exact q⟩
    · cases e
  · split at e
    · rename_i hh
      cases e
      obtain ⟨a, vs, rfl, h1, h2⟩ := dat_tp hy
      obtain ⟨f1, f2⟩ := any_eqA hx hh.1 h2 hh.2
      exact .inr ⟨a, vs, rfl, .inr (sm_t (cond_sm s) h1), flat_atom hx hh.1, f1, by rw [f2]; exact q⟩
    · cases e
  · cases e
theorem od_in {bw2 : Bool} : OpD L (rInB L.K false) bw (.d bw2) dIn := opD_pure fun F H x y dx dy d s hx hy e => by
  unfold dIn at e
  cases q : dInB dx dy with
  | none => rw [q] at e; cases e
  | some b => rw [q] at e; cases e; exact ⟨.bl b, fun _ => .bl, fun Q k => in_way s hx hy q Q k⟩
theorem od_notIn {bw2 : Bool} : OpD L (rInB L.K true) bw (.d bw2) dNotIn := opD_pure fun F H x y dx dy d s hx hy e => by
  unfold dNotIn at e
  cases q : dInB dx dy with
  | none => rw [q] at e; cases e
  | some b => rw [q] at e; cases e; exact ⟨.bl (!b), fun _ => .bl, fun Q k => in_way s hx hy q Q k⟩
theorem or_in (hK : X.K = L.K) : OpR X (compareOp .In) (rInB L.K false) := by
  rw [← hK]
  exact op_in_str.or op_in_seq
theorem or_notIn (hK : X.K = L.K) : OpR X (compareOp .NotIn) (rInB L.K true) := by
  rw [← hK]
  exact op_notin_str.or op_notIn_seq

/-! ### built-ins -/
theorem callD_pure {r : List V → Hp → VK → Prop} {bw2 : Bool} {g : List D → Option D} (h : ∀ (F H : Hp) (vs : List V) (ds : List D) (d : D), Same F H → DatL L.K (cond bw H F) vs ds → g ds = some d → ∃ v, (∀ F, Dat L.K F v d) ∧ ∀ Q : VK, Q v H → r vs H Q) : CallD L r bw (.d bw2) g :=
  fun F H vs ds d s nt hx e Q q => by
    obtain ⟨v, dv, go⟩ := h F H vs ds d s hx e
    exact go Q (q v F H [] (.refl s nt) (own_lift s (dv F)) List.nodup_nil fun a m => nomatch m)
theorem datL1 {K : PySem.W.Frag} {F : Hp} {vs : List V} {d : D} (h : DatL K F vs [d]) : ∃ v, vs = [v] ∧ Dat K F v d := by
  cases h with
  | cons a b => cases b; exact ⟨_, rfl, a⟩
theorem datL2 {K : PySem.W.Frag} {F : Hp} {vs : List V} {d e : D} (h : DatL K F vs [d, e]) : ∃ v w, vs = [v, w] ∧ Dat K F v d ∧ Dat K F w e := by
  cases h with
  | cons a b => obtain ⟨w, rfl, c⟩ := datL1 b; exact ⟨_, _, rfl, a, c⟩
def dLen : List D → Option D
  | [.str s] => if s.length ≤ LN then some (.int s.length) else none
  | [.lst xs] => some (.int xs.length)
  | [.tup xs] => some (.int xs.length)
  | [.scr xs] => some (.int xs.length)
  | _ => none
theorem cd_len {bw2 : Bool} (hK : X.K = L.K) : CallD L (fun xs H Q => ∃ x n, xs = [x] ∧ LenV X.K x H n ∧ Q (.int n) H) bw (.d bw2) dLen := callD_pure fun F H vs ds d s hx e => by
  rw [hK]
  unfold dLen at e
  split at e
  · split at e <;> cases e
    rename_i hl
    obtain ⟨v, rfl, h⟩ := datL1 hx
    cases h
    exact ⟨_, fun _ => .int, fun Q q => ⟨_, _, rfl, ⟨by rw [s_len]; exact le_line hl, (s_len _).symm⟩, q⟩⟩
  · cases e
    obtain ⟨v, rfl, h⟩ := datL1 hx
    obtain ⟨a, ws, rfl, h1, h2⟩ := dat_sq h
    exact ⟨_, fun _ => .int, fun Q q => ⟨_, _, rfl, .inl ⟨ws, sm_l (cond_sm s) (SqL.of h1), h2.length.symm⟩, q⟩⟩
  · cases e
    obtain ⟨v, rfl, h⟩ := datL1 hx
    obtain ⟨a, ws, rfl, h1, h2⟩ := dat_tp h
    exact ⟨_, fun _ => .int, fun Q q => ⟨_, _, rfl, .inr ⟨ws, sm_t (cond_sm s) h1, h2.length.symm⟩, q⟩⟩
  · cases e
    obtain ⟨v, rfl, h⟩ := datL1 hx
    cases h with
    | scr h => exact ⟨_, fun _ => .int, fun Q q => ⟨_, _, rfl, .inl ⟨_, sm_l (cond_sm s) h, (List.length_map ..).symm⟩, q⟩⟩
  · cases e
def dAbs : List D → Option D
  | [.int i] => some (.int (if i < 0 then -i else i))
  | _ => none
theorem cd_abs {bw2 : Bool} : CallD L (fun xs H Q => ∃ i, xs = [.int i] ∧ Q (.int (if i < 0 then -i else i)) H) bw (.d bw2) dAbs := callD_pure fun F H vs ds d s hx e => by
  unfold dAbs at e
  split at e <;> cases e
  obtain ⟨v, rfl, h⟩ := datL1 hx
  cases h
  exact ⟨_, fun _ => .int, fun Q q => ⟨_, rfl, q⟩⟩
def dMax2 : List D → Option D
  | [.int i, .int j] => some (.int (if j > i then j else i))
  | _ => none
def dMin2 : List D → Option D
  | [.int i, .int j] => some (.int (if j < i then j else i))
  | _ => none
theorem cd_max {bw2 : Bool} : CallD L (fun xs H Q => ∃ i j, xs = [.int i, .int j] ∧ Q (.int (if j > i then j else i)) H) bw (.d bw2) dMax2 := callD_pure fun F H vs ds d s hx e => by
  unfold dMax2 at e
  split at e <;> cases e
  obtain ⟨v, w, rfl, h, h'⟩ := datL2 hx
  cases h; cases h'
  exact ⟨_, fun _ => .int, fun Q q => ⟨_, _, rfl, q⟩⟩
theorem cd_min {bw2 : Bool} : CallD L (fun xs H Q => ∃ i j, xs = [.int i, .int j] ∧ Q (.int (if j < i then j else i)) H) bw (.d bw2) dMin2 := callD_pure fun F H vs ds d s hx e => by
  unfold dMin2 at e
  split at e <;> cases e
  obtain ⟨v, w, rfl, h, h'⟩ := datL2 hx
  cases h; cases h'
  exact ⟨_, fun _ => .int, fun Q q => ⟨_, _, rfl, q⟩⟩
def dInt1 : List D → Option D
  | [.int i] => some (.int i)
  | [.bl k] => some (.int (if k then 1 else 0))
  | _ => none
theorem cd_int {bw2 : Bool} : CallD L (fun xs H Q => (∃ i, xs = [.int i] ∧ Q (.int i) H) ∨ ∃ k, xs = [.bl k] ∧ Q (.int (if k then 1 else 0)) H) bw (.d bw2) dInt1 := callD_pure fun F H vs ds d s hx e => by
  unfold dInt1 at e
  split at e <;> cases e
  · obtain ⟨v, rfl, h⟩ := datL1 hx
    cases h
    exact ⟨_, fun _ => .int, fun Q q => .inl ⟨_, rfl, q⟩⟩
  · obtain ⟨v, rfl, h⟩ := datL1 hx
    cases h
    exact ⟨_, fun _ => .int, fun Q q => .inr ⟨_, rfl, q⟩⟩
def dListOf : List D → Option D
  | [.lst xs] => some (.lst xs)
  | [.tup xs] => some (.lst xs)
  | _ => none
theorem cd_list (hK : X.K = L.K) : CallD L (fun xs H Q => ∃ p ys, xs = [.ref p] ∧ (SqL X.K H p ys ∨ SqT X.K H p ys) ∧ ∀ l, H l = none → Q (.ref l) (upd H l (.lst ys))) false (.l .s) dListOf := fun F H vs ds d s nt hx e Q q => by
  rw [hK]
  have fin : ∀ {ws : List V} {xs : List D} {a : Addr}, DatL L.K F ws xs → d = .lst xs → H a = none → Q (.ref a) (upd H a (.lst ws)) := fun {ws xs a} h e hp => by
    subst e
    refine q _ F _ [a] (Ext.newH s nt hp) (.l upd_same (OwnL.ofDat h)) (by simp) fun b m => ?_
    have e : b = a := by simpa using m
    subst e
    exact ⟨s.free hp, .of hp⟩
  unfold dListOf at e
  split at e <;> cases e
  · obtain ⟨v, rfl, h⟩ := datL1 hx
    obtain ⟨a, ws, rfl, h1, h2⟩ := dat_sq h
    exact ⟨a, ws, rfl, .inl (SqL.of (s _ _ h1)), fun l hl => fin h2 rfl hl⟩
  · obtain ⟨v, rfl, h⟩ := datL1 hx
    obtain ⟨a, ws, rfl, h1, h2⟩ := dat_tp h
    exact ⟨a, ws, rfl, .inr (sm_t s.sm h1), fun l hl => fin h2 rfl hl⟩
def dTupOf : List D → Option D
  | [.lst xs] => some (.tup xs)
  | [.tup xs] => some (.tup xs)
  | _ => none
theorem cd_tup {bw2 : Bool} (hK : X.K = L.K) : CallD L (fun xs H Q => ∃ p ys, xs = [.ref p] ∧ ((SqL X.K H p ys ∧ ∀ l, H l = none → Q (.ref l) (upd H l (.tup ys))) ∨ (SqT X.K H p ys ∧ Q (.ref p) H))) false (.d bw2) dTupOf := fun F H vs ds d s nt hx e Q q => by
  rw [hK]
  unfold dTupOf at e
  split at e <;> cases e
  · obtain ⟨v, rfl, h⟩ := datL1 hx
    obtain ⟨a, ws, rfl, h1, h2⟩ := dat_sq h
    refine ⟨a, ws, rfl, .inl ⟨SqL.of (s _ _ h1), fun l hl => ?_⟩⟩
    have e4 := Ext.newF (T := L.T) (o := .tup ws) s nt hl rfl
    exact q _ _ _ [] e4 (own_lift e4.fh (.tup (SqT.of upd_same) (h2.mono e4.ff.sm))) List.nodup_nil fun a m => nomatch m
  · obtain ⟨v, rfl, h⟩ := datL1 hx
    obtain ⟨a, ws, rfl, h1, h2⟩ := dat_tp h
    exact ⟨a, ws, rfl, .inr ⟨sm_t s.sm h1, q _ F H [] (.refl s nt) (own_lift s (.tup h1 h2)) List.nodup_nil fun a m => nomatch m⟩⟩
end
end PD
set_option Elab.async false
set_option linter.all false
set_option maxRecDepth 100000
set_option maxHeartbeats 2000000
namespace PD
open PySem PySem.Spec PyProof.Rows L2

/-! ### all(x in WORDS for x in e), e a text, WORDS a text of the module -/
section
variable {X : Cx} {pins : List (Addr × Obj)} {σ : L2.St} {H : Hp} {s : Shared}
/-- the element of the generator, where its frame is env2 -/
def EltW (P : Program) (w : World) (mg : Str → Option Value) (sc : Scope) (x : Str) (elt : Expr) (pb : Nat → Bool) : Prop :=
  ∀ (env2 : PySem.Env) (A2 : Around) (E2 : Value → Shared → Prop) (c : Nat) (t : Tok) (s2 : Shared) (m2 : Str → Option Value), env2.scope = sc → env2.globals = mainGlobals → s2.heap.Ns mainGlobals mg → s2.heap.Ns env2.locals m2 → m2 x = some (.str ⟨#[c]⟩ t) →
    wpAny (model P w) A2 (eval elt env2) (fun y s3 => y = .bool (pb c) ∧ Keeps s2 s3) E2 s2
theorem elt_inG {P : Program} {w : World} {mg : Str → Option Value} {sc : Scope} {x g z : Str} {t : Tok} {p1 p2 p3 : Pos} (hk : sc.kind = .function) (hl : sc.names.lookup x = some .local) (hg : sc.names.lookup g = some .globalImplicit) (hm : mg g = some (.str z t))
    (hd : (x == ("__debug__" : Str)) = false := by decide) (hd2 : (g == ("__debug__" : Str)) = false := by decide) : EltW P w mg sc x (.Compare (.Name x p1) [.In] [.Name g p2] p3) (fun c => decide (c ∈ z.cps.toList)) := by
  intro env2 A2 E2 c tk s2 m2 h1 h2 h3 h4 h5
  have kk : env2.scope.kind = .function := by rw [h1]; exact hk
  have kl : env2.scope.names.lookup x = some .local := by rw [h1]; exact hl
  have kg : env2.kindOf g = some .globalImplicit := by
    show env2.scope.names.lookup g = some .globalImplicit
    rw [h1]; exact hg
  refine wpAny_Compare1 ?_ (by rfl)
  refine wpAny_Name (wpAny_loadName_local kk kl h4 h5 ?_) hd
  refine Calls.Name_function_global kk kg (Calls.loadGlobal_global (by rw [h2]; exact h3) hm ?_) hd2
  exact PyProof.Rows.in_str ⟨congrArg Value.bool (PySem.StrLaws.found_one z c), GxR.keeps_refl _⟩
/-- such a generator is made and ready to be walked -/
theorem gen_w {c T : Addr} {elt iter : Expr} {x : Str} {px gp : Pos} {sc : Scope} {pb : Nat → Bool} {te : TE} {k : Nat} {Z : Value → Shared → Prop} {Rr : Str → Hp → Prop} (hr : Room k X.A) (TB : GxR.TabB X.base X.mg c T) (hcode : X.env.code = .ref c)
    (G : GxR.GenS X.env sc x) (hi : PE X iter te) (hel : EltW X.prog X.w X.mg sc x elt pb) (hs : ∀ v, genFold iter X.env v = pure v) (I : Inv X pins σ H s) (h : te σ H fun v H1 => ∃ a : Str, v = .str a ∧ GxR.TabG H1 T ∧ Rr a H1)
    (hZ : ∀ a H1 g s5, Rr a H1 → GxR.Ready X pins σ H1 T a pb g s5 → Z (.ref g) s5) : wpAny (model X.prog X.w) X.A (eval (.GeneratorExp elt [⟨.Name x px, iter, [], 0⟩] sc gp) X.env) Z X.xe s := by
  have dep : X.A.depth + 1 < recursionLimit ∨ True := .inr trivial
  refine wpAny_GeneratorExp_walksQ hr.hd G.co (closure_ok G.free) G.cell G.dot G.loc G.kind (by have q := hr.dp; omega) ?_ hs
  refine thn (hi.run pins s σ H _ I h) fun val sA ⟨v0, HA, IA, rA, hA⟩ => ?_
  obtain ⟨tx, ev, ⟨ps, hT, hps⟩, hR⟩ := hA
  subst ev
  obtain ⟨tk0, ek⟩ := _root_.id rA
  subst ek
  refine wpAny_pyIter_str fun ob Sv Wv hSv => ?_
  have tabA : sA.heap.get? T = some { cls := .none, data := .fields ps } := IA.hok T _ hT
  have ltT : T < sA.heap.objs.size := Heap.lt_size tabA
  have tabB : (sA.heap.push ob).get? T = some { cls := .none, data := .fields ps } := Heap.get?_push_of_some _ tabA
  have codeB : PySem.W.CodeHd (sA.heap.push ob) c T := TB.code.keeps fun b u q => Heap.get?_push_of_some _ (IA.bk b u q)
  have limB : (sA.heap.push ob).NoLimit := IA.nolimit.push ob
  have nsA : sA.heap.Ns mainGlobals X.mg := IA.mod.glob.keeps IA.bk
  have ltG : mainGlobals < sA.heap.objs.size := nsA.lt
  have go : ∀ (code : Value) (hp : Heap) (tk : Nat) (ps2 : Array Value), Heap.ExtBut T (sA.heap.push ob) hp → (sA.heap.push ob).objs.size ≤ hp.objs.size → hp.get? T = some { cls := .none, data := .fields ps2 } → (∃ more, ps2 = ps ++ more) → TriplesOk ps2.toList →
      wpAny (model X.prog X.w) X.A (builtinsFor X.env.globals X.env.builtins) (fun bi sD =>
        ∃ ia fp wr n0 Pf Sf pz Ff, Value.ref sA.heap.objs.size = .ref ia ∧ (∀ A2 : Around, A2.handled = none → Walks X.prog X.w A2 ia fp wr n0 Pf Sf) ∧ Sf 0 sD.heap ∧ (∀ b ∈ fp, b < sD.heap.objs.size) ∧ sD.heap.NoLimit ∧ cStatics ∉ wr ∧
          (∀ hq : Heap, (∀ b o, sD.heap.get? b = some o → hq.get? b = some o) → QuietGen X.prog X.w (genEnv sc (cloFrom X.env.cells sc.names []) sD.heap.objs.size code bi X.env) x [] elt (List.range sD.heap.objs.size) wr Pf pz Ff hq) ∧
          (∀ a hv tv gs, gs.bare = true → sD.heap.objs.size < a → hv.objs.size = a + 1 → (∀ b o, sD.heap.get? b = some o → hv.get? b = some o) →
            WalksS X.prog X.w X.A.in4 a (a :: sD.heap.objs.size :: List.range sD.heap.objs.size) (sD.heap.objs.size :: wr) (GenOnlyQ sD.gens.size) (passing pz n0 0).length (fun j y => ∃ i, (passing pz n0 0)[j]? = some i ∧ Ff i y)
              (GenAt X.prog X.w X.A.in4 a sD.gens.size sD.heap.objs.size (List.range sD.heap.objs.size) wr pz n0 Ff) →
            GenAt X.prog X.w X.A.in4 a sD.gens.size sD.heap.objs.size (List.range sD.heap.objs.size) wr pz n0 Ff 0 { sD with gens := sD.gens.push gs, toks := tv, heap := hv } → Z (.ref a) { sD with gens := sD.gens.push gs, toks := tv, heap := hv })) X.xe { sA with heap := hp, toks := tk } := by
    intro code hp tk ps2 ext sz tabP grew okP
    obtain ⟨bm, bo, f1, f2, f3, f4, f5, f6, f7, f8⟩ := TB.bm
    have statNe : cStatics ≠ T := fun q => by
      obtain ⟨_, hn1, _⟩ := IA.nolimit
      obtain ⟨o', _, _, g1, g2, _⟩ := hn1
      rw [q, tabA] at g1
      cases g1; cases g2
    have statLt : cStatics < sA.heap.objs.size := by
      obtain ⟨_, hn1, _⟩ := IA.nolimit
      exact hn1.lt
    have szB : (sA.heap.push ob).objs.size = sA.heap.objs.size + 1 := Heap.size_push ..
    have gr : sA.heap.objs.size < hp.objs.size := by
      have q := sz
      rw [szB] at q
      exact q
    have keepP : ∀ b u, b ≠ T → sA.heap.get? b = some u → hp.get? b = some u := fun b u hb q => ext b u hb (Heap.get?_push_of_some _ q)
    refine wpAny_builtinsFor (m := X.mg) (by rw [IA.ok.glob]; exact (nsA.push ob).extBut ext TB.gP) f1 f2 (keepP _ _ f4 (IA.bk _ _ f5)) f6 f7 f8 ?_
    refine ⟨sA.heap.objs.size, [sA.heap.objs.size], [sA.heap.objs.size], tx.cps.size, SignAt tx, Sv, (fun _ => true), (fun i y => ∃ cc, tx.cps[i]? = some cc ∧ y = .bool (pb cc)), rfl, Wv, ?_, ?_, limB.extBut ext statNe, ?_, ?_, ?_⟩
    · refine (Wv X.A hr.hd).frame _ _ _ hSv fun b hb u q => ext b u (fun z => ?_) q
      have eb : b = sA.heap.objs.size := by simpa using hb
      exact Nat.ne_of_lt ltT (z.symm.trans eb)
    · intro b hb
      have eb : b = sA.heap.objs.size := by simpa using hb
      show b < hp.objs.size
      rw [eb]
      exact gr
    · intro z
      have eb : cStatics = sA.heap.objs.size := by simpa using z
      exact Nat.ne_of_lt statLt eb
    · intro hq hhq
      refine ⟨fun A2 E2 i v s2 m2 g1 g2 g3 g4 g5 => ?_, fun A2 E2 i v s2 m2 g1 g2 g3 g4 g5 g6 => ?_⟩
      · simp only [List.forIn_nil]
        exact wpAny_pure ⟨rfl, GxR.keeps_refl _⟩
      · obtain ⟨cc, u, hcc, rfl⟩ := g2
        have nsQ : s2.heap.Ns mainGlobals X.mg := by
          obtain ⟨o, es, ep, q1, q2⟩ := nsA
          refine ⟨o, es, ep, g6 mainGlobals ?_ ?_ o (hhq _ _ (keepP _ _ TB.gP q1)), q2⟩
          · rw [List.mem_range]
            show mainGlobals < hp.objs.size
            exact Nat.lt_trans ltG gr
          · intro z
            have eb : mainGlobals = sA.heap.objs.size := by simpa using z
            exact Nat.ne_of_lt ltG eb
        refine wpAny_mono (hel _ A2 E2 cc u s2 m2 rfl IA.ok.glob nsQ g4 g5) (fun y s3 q => ⟨⟨cc, hcc, q.1⟩, q.2⟩) fun _ _ q => q
    · intro a hv tv gs bare1 age szv keepv Wz gat
      simp only [GxR.passing_true, List.length_range] at Wz
      refine hZ tx HA a _ hR ⟨_, _, _, _, _, Wz.in4_1, gat, ?_, fun sE hmv => ?_⟩
      · intro j y sj Qj Ej hy hQj
        obtain ⟨i, hij, cc, hcc, rfl⟩ := hy
        obtain ⟨hj, ej⟩ := List.getElem?_eq_some_iff.mp hij
        have ej : j = i := by rw [List.getElem_range] at ej; exact ej
        subst ej
        have at_ : tx.cps.toList[j]? = some cc := by rw [Array.getElem?_toList]; exact hcc
        have hQ2 : Qj (GxR.trF pb tx.cps.toList j) sj := hQj
        rw [GxR.trF_some at_] at hQ2
        exact wpAny_truthy_bool hQ2
      · obtain ⟨more, em⟩ := grew
        have old : ∀ b u, sA.heap.get? b = some u → b ∉ hp.objs.size :: [sA.heap.objs.size] := fun b u q hb => by
          have hl := Heap.lt_size q
          have : b = hp.objs.size ∨ b = sA.heap.objs.size := by simpa using hb
          rcases this with z | z
          · exact Nat.ne_of_lt (Nat.lt_trans hl gr) z
          · exact Nat.ne_of_lt hl z
        have K1 := GxR.inv_tab (more := more) (h' := sE.heap) (g' := sE.gens) (d' := sE.drawn) (t' := sE.toks) IA hT (fun b u hb q => hmv.heap b u (old b u q) (keepv b u (keepP b u hb q)))
          (by rw [← em]; exact hmv.heap T _ (old T _ tabA) (keepv T _ tabP)) (AllBare.movedS (IA.bare.push bare1) hmv)
        rw [GxR.sh_eta sA sE hmv.os] at K1
        exact ⟨upd HA T (.tbl (ps ++ more)), ⟨⟨_, upd_same, by rw [← em]; exact okP⟩, fun b hb => upd_ne hb⟩, K1⟩
  refine ⟨limB, ?_⟩
  cases hf : codeAmong gp ps.toList with
  | none =>
    refine wpAny_genexprCodeX hcode (codeB.code tabB hps) (codeB.tab tabB) hf fun c2 hC tC hxC hgeC hltC coC _ tbC _ => ?_
    obtain ⟨_, _, _, _, _, _, _, _, _, _, _, _, _, _, _, _, _, _, _, trip, _⟩ := coC
    exact go _ hC tC _ hxC (Nat.le_trans hgeC (Nat.le_of_lt hltC)) tbC.2 ⟨_, rfl⟩ trip
  | some cv =>
    refine wpAny_genexprCode_hit hcode (codeB.code tabB hps) hf ?_
    exact go cv (sA.heap.push ob) sA.toks ps (Heap.ExtBut.refl _ _) (Nat.le_refl _) tabB ⟨#[], by simp⟩ hps
theorem pe_allW {c T : Addr} {elt iter : Expr} {x : Str} {px p pos gp : Pos} {sc : Scope} {pb : Nat → Bool} {te : TE} {k : Nat} (hr : Room k X.A) (hm : X.mg "all" = none) (TB : GxR.TabB X.base X.mg c T) (hcode : X.env.code = .ref c) (G : GxR.GenS X.env sc x)
    (hi : PE X iter te) (hel : EltW X.prog X.w X.mg sc x elt pb) (hs : ∀ v, genFold iter X.env v = pure v) (hg : Gl X "all" := by rfl)
    (he : starEach [.GeneratorExp elt [⟨.Name x px, iter, [], 0⟩] sc gp] X.env = (false, eval (.GeneratorExp elt [⟨.Name x px, iter, [], 0⟩] sc gp) X.env) :: starEach [] X.env := by rfl) : PE X (.Call (.Name "all" p) [.GeneratorExp elt [⟨.Name x px, iter, [], 0⟩] sc gp] [] pos) (GxR.tAllS T pb te) := by
  refine ⟨fun pins s σ H Q I h => ?_⟩
  refine wpAny_Call_Name_kw (ld_blt I hg hm (show bootBuiltins "all" = some (.builtin "all") by decide +kernel) ?_)
  refine PyProof.Rows.callWith_builtin1 ?_ he (by rfl)
  rw [he]
  have key := gen_w (px := px) (gp := gp) (Rr := fun a H1 => ∀ H2, GxR.Tabbed T H1 H2 → Q (.bl (a.cps.toList.all pb)) H2) (Z := fun u s5 => wpAny (model X.prog X.w) X.A (spliced (backTo pos (starEach [] X.env))) (fun us s6 => wpAny (model X.prog X.w) X.A (call (.builtin "all") (u :: us)) (EP X pins σ Q) X.xe s6) X.xe s5) hr TB hcode G hi hel hs I h fun a H1 g s5 hR hG => by
    obtain ⟨fp, wr, Gf, Ff, Sf, Wf, hst, htr, hI⟩ := hG
    refine Calls.spliced_nil ?_
    refine call_all_walkS (Wf.self 0 _ _ _ hst ⟨g, fp, wr, Gf, _, Ff, Sf, _, rfl, Wf, hst, htr, fun s' hmv => ?_⟩)
    obtain ⟨H2, hT, J⟩ := hI s' hmv
    refine ⟨.bl _, H2, J, rfl, ?_⟩
    rw [GxR.all_signs a pb]
    exact hR H2 hT
  exact Calls.spliced_cons key
end
end PD
set_option Elab.async false
set_option linter.all false
set_option maxRecDepth 100000
set_option maxHeartbeats 2000000
namespace PD
open PySem PySem.Spec PyProof.Rows L2

/-! ### all(x in WORDS for x in e) -/
def dAllS (pb : Nat → Bool) : D → Option D
  | .str s => some (.bl (s.all pb))
  | _ => none
section
variable {X : Cx} {L : LE} {fl : List Sh} {W : WX} {pos : Pos}
theorem e_all {c T : Addr} {elt iter : Expr} {x : Str} {px p gp : Pos} {sc : Scope} {pb : Nat → Bool} {f : Env → R D} {k : Nat} {bw : Bool} (hr : Room k X.A) (hm : X.mg "all" = none) (TB : GxR.TabB X.base X.mg c T) (hT : T ∈ L.T) (G : GxR.GenS X.env sc x) (hi : PE X iter (tD L fl .s W f)) (hel : EltW X.prog X.w X.mg sc x elt pb)
    (hcode : X.env.code = .ref c := by rfl) (hs : ∀ v, genFold iter X.env v = pure v := by intro _; rfl) (hg : Gl X "all" := by rfl)
    (he : starEach [.GeneratorExp elt [⟨.Name x px, iter, [], 0⟩] sc gp] X.env = (false, eval (.GeneratorExp elt [⟨.Name x px, iter, [], 0⟩] sc gp) X.env) :: starEach [] X.env := by rfl) : PE X (.Call (.Name "all" p) [.GeneratorExp elt [⟨.Name x px, iter, [], 0⟩] sc gp] [] pos) (tD L fl (.d bw) W (m1 (dAllS pb) f)) :=
  (pe_allW hr hm TB hcode G hi hel hs hg he).imp fun σ H Q ⟨F, B, ρ, r, p⟩ => by
    refine tD_bind rfl r (k := fun x => oR (dAllS pb x)) p fun d v F1 H1 S1 _ e1 r1 o1 _ _ p1 => ?_
    have p2 := p1.weak e1
    have dv := (own_d o1).1
    cases d with
    | str s =>
      cases dv
      have tg := r1.bs.tab T hT
      refine ⟨_, rfl, tg, fun H2 ⟨t2, k2⟩ => ?_⟩
      have ne : ∀ a o, H1 a = some o → isTbl o = false → a ≠ T := fun a o h t z => by
        obtain ⟨ps, q, _⟩ := tg
        rw [z, q] at h
        cases h; cases t
      have ex : Ext L.T F1 H1 F1 H2 := ⟨fun a o h t => by rw [k2 a (ne a o h t)]; exact h, fun P m h => by
        by_cases z : P = T
        · rw [z]; exact t2
        · obtain ⟨ps, q, w⟩ := h
          exact ⟨ps, by rw [k2 P z]; exact q, w⟩, .refl _, fun a o h => by rw [k2 a (ne a o (r1.bs.fh a o h) (r1.bs.nf a o h))]; exact r1.bs.fh a o h, fun _ _ _ _ n => n, r1.bs.nf⟩
      have e0 : (⟨s.toArray⟩ : Str).cps.toList = s := by simp
      rw [e0]
      exact postE_ok (d := .bl (s.all pb)) p2 ex .bl
    | _ => exact p2.elim
end
section
variable {P : Program} {w : World} {K : PySem.W.Frag} {mg : Str → Option Value} {base : Heap} {L : LE}
/-- a def whose code object is known -/
theorem fnDc {x qual : Str} {st : Stmt} {f c : Addr} {oc : Value} {od an : Option Addr} {osl : Array (Option Value)} {kV doc pm ct : Value} {N ps : List Str} {k : Nat} (lk : K.lookup f = some ⟨oc, od, .func (PySem.W.fnOf x qual (defArgs st) (defBody st) (defScope st) .none kV doc pm an (.ref c) ct), osl⟩)
    (hcd : PySem.W.codeIn K (.ref c) qual = true) (S : FnScope N ps (defScope st)) (hL : L.K = K) {fl fl' rest : List Sh} {rs : Sh} {b : Env → R Fl} (fall : Bool) (hfl : fl = List.replicate ps.length .s ++ rest) (hln : fl.length = N.length) (hfall : fall = true → rs = .s)
    (hb : ∀ (A : Around) (outer : List PySem.Env) (s : Shared) (H : Hp) (E : XK), Room k (A.deeper (envOfC qual (defScope st) s.heap.objs.size f (.ref c))) →
      PSs (cxOf (L2.CX P w) P w K mg base N qual (defScope st) f (.ref c) A outer s H E) (defBody st) (tS L ⟨rs, [], []⟩ fl fl' (WF' E) b))  (hnx : fl.all (fun sh => !sh.isX) = true := by rfl) :
    FnOk P w K mg base (L2.CX P w) (k + 1) f (PySem.W.fnOf x qual (defArgs st) (defBody st) (defScope st) .none kV doc pm an (.ref c) ct) ps (spD L rs ps.length (mFn N.length fall b)) := by
  refine fn_of lk hcd S (fun vs H Q E ⟨_, _, ds, _, d, hl, _⟩ => d.length.trans hl) (fun A outer s H vs Q E hr ⟨F0, B, ds, bs, d, hl, p⟩ => ⟨_, hb A outer s H E hr, ?_⟩)
  refine ⟨F0, B, _, rep_start (N := N) bs d (by rw [hl]; exact hfl) hln hnx, ?_⟩
  unfold mFn at p
  generalize b (ds.map some ++ List.replicate (N.length - ds.length) none) = r at p
  cases r with
  | ok y =>
    cases y with
    | nx ρ =>
      dsimp only at p
      cases fall with
      | false => rw [if_neg Bool.false_ne_true] at p; exact p.elim
      | true =>
        rw [if_pos rfl] at p
        have e := hfall rfl
        subst e
        exact fun σ' F' H' s r' => p .non F' H' [] s r'.bs (.d (bw := false) .non) List.nodup_nil (fun a m => nomatch m)
    | rt d => exact p
    | bk ρ => exact p.elim
    | ct ρ => exact p.elim
    | ex c fs ρ => exact fun cls d fl0 σ' F' H' s r' x => p cls d F' H' s r'.bs x
  | err c fs => exact p.elim
  | stuck => exact p.elim
end

/-! ### the end -/
open LamX in
theorem walk_tabs {l : PySem.W.OpenLaw} {n k : Nat} {q : Program} {loose : List Str} {XP : (Str → Option Value) → Heap → Prop} {YP : World → Heap → Prop} {d : DefRec} {K : Params → PySem.W.Frag} {CX : World → CXT} {x : Str}
    (hn : l.most = some n) (hn2 : n ≤ sizeLine) (hdf : d.params.defaults = []) (hr : Room k callerA) (hY : ∀ (w : World) (h : Heap), YP w h → (K w.params).In h)
    (F : ∀ (w : World) (mg : Str → Option Value) (fa : Addr) (h : Heap), YP w h → (K w.params).In h → h.Ns mainGlobals mg → mg d.name = some (.ref fa) →
      (∀ (nm : Str) (f : Addr), ((recsOf q).any fun e => e.name == nm) = true → mg nm = some (.ref f) → OwnTab (K w.params) f h) → LawAtS l w (K w.params) (CX w) k n x mg fa h)
    (hCX : ∀ (w : World) (H : Hp) (s : Shared) (e : Value) (s' : Shared), CX w [] H s (fun _ _ _ => False) e s' → False) :
    PySem.W.WalkO q loose XP YP l.row.toRowW d [] (fun f vs => PySem.call f vs) := by
  refine Att.attach_callB hn hdf fun w s0 s1 mg mb fa o pm cd doc a vs ns G Y ho hd hcd hmg hobj hints hlen hbits hg => ?_
  have KX := hY w _ Y
  have own : ∀ (nm : Str) (f : Addr), ((recsOf q).any fun e => e.name == nm) = true → mg nm = some (.ref f) → OwnTab (K w.params) f s1.heap := fun nm f hrec hm0 c P o1 fd1 e dd vs1 sl k1 k2 k3 k4 k5 => by
    obtain ⟨dL, hm, hn1⟩ := List.any_eq_true.mp hrec
    have hn2 : dL.name = nm := beq_iff_eq.mp hn1
    obtain ⟨a', o', fd', c', P', h1, h2, h3, h4, h5, h6⟩ := G.T.tab dL hm
    rw [hn2, hm0] at h1
    cases h1
    rw [KX _ _ k1] at h2
    cases h2
    rw [k2] at h3
    cases h3
    rw [k3] at h4
    cases h4
    obtain ⟨⟨oc, vc, e1, _, e3, e4⟩, hP⟩ := h6
    rw [KX _ _ k4] at e1
    cases e1
    cases e3
    rw [k5] at e4
    cases e4
    exact hP
  obtain ⟨fd, cs, sp, hT, nT, C, hb, hsp, hF⟩ := F w mg fa _ Y KX G.T.g hmg own
  exact law_callTs KX G.T.g G.T.b G.T.builtins G.T.nolimit hg hT nT C G.T.bmain hobj hints (Nat.le_trans hlen hn2) hr hF hb (fun H hH hS => hsp H a ns hlen hbits hH hS) fun H e s' => hCX w H s1 e s'
theorem cx_false {P : Program} {w : World} {H : Hp} {s : Shared} {e : Value} {s' : Shared} (h : L2.CX P w [] H s (fun _ _ _ => False) e s') : False := by
  obtain ⟨_, _, _, _, _, _, _, _, _, _, _, _, z⟩ := h
  exact z
/-- a code object's table, empty at the law's entry -/
structure CTab (K : PySem.W.Frag) (h : Heap) (c T : Addr) : Prop where
  t : h.get? T = some { cls := .none, data := .fields #[] }
  n : K.lookup T = none
  c : PySem.W.CodeHd h c T
open LamX in
theorem law_at {l : PySem.W.OpenLaw} {w : World} {K : PySem.W.Frag} {k n : Nat} {x : Str} {mg : Str → Option Value} {fa : Addr} {h : Heap} {fd : FuncData} (cs : List (Addr × Addr)) (ca : Str → Addr) (m : List D → R D) (hcs : ∀ p ∈ cs, CTab K h p.1 p.2) (hb : ∀ (s : Shared) (u : Value), BindsTo s fd ⟨[u], []⟩ [(x, u)])
    (hm : ∀ ns : List Int, ns.length ≤ n → (∀ z ∈ ns, Builtin.Int.intBits z ≤ 1048576) → m [.scr ns] = .ok (.bl true))
    (F : ∀ base : Heap, K.In base → base.Ns mainGlobals mg → (∀ p ∈ cs, GxR.TabB base mg p.1 p.2) → FnOk l.prog w K mg base (L2.CX l.prog w) k fa fd [x] (spD ⟨K, ca, cs.map (·.2)⟩ .s 1 m)) : LawAtS l w K (L2.CX l.prog w) k n x mg fa h := by
  refine ⟨fd, cs, _, fun p hp => (hcs p hp).t, fun p hp => (hcs p hp).n, fun p hp => (hcs p hp).c, hb, fun H a ns hl hbits hH hS => ?_, fun base kb nb tb => F base kb nb fun p hp => ⟨(tb p hp).code, (tb p hp).bm, (tb p hp).gP⟩⟩
  refine ⟨visH H, fun _ => none, [.scr ns], ⟨fun a o h => (visH_of h).1, (fun a o h => nomatch h), (fun a o h => nomatch h), fun a o h => (visH_of h).2, (fun a o h => nomatch h), fun P hP => ?_⟩, ?_, rfl, ?_⟩
  · obtain ⟨p, hp, e⟩ := List.mem_map.mp hP
    subst e
    exact ⟨#[], hH p hp, True.intro⟩
  · refine .cons (.scr ?_) .nil
    exact sm_l (fun a o h t => visH_some h t) hS
  · rw [hm ns hl hbits]
    intro v F' H' S s b o nd fr
    have dv := (own_d o).1
    cases dv
    rfl
end PD
set_option Elab.async false
set_option linter.all false
set_option maxRecDepth 100000
set_option maxHeartbeats 2000000
namespace PD
open PySem PySem.Spec PyProof.Rows L2

/-! ### isinstance(x, T) of a built-in T -/
def tyN : D → String
  | .non => "NoneType"
  | .bl _ => "bool"
  | .int _ => "int"
  | .str _ => "str"
  | .lst _ => "list"
  | .scr _ => "list"
  | .tup _ => "tuple"
  | .rng _ _ => "range"
  | .obj _ _ _ => "object"
  | .dic _ _ => "dict"
  | .dct _ _ => "dict"
def isRng : D → Bool
  | .rng _ _ => true
  | .obj _ _ _ => true
  | .dic _ _ => true
  | .dct _ _ => true
  | _ => false
def isiB (T : String) (d : D) : Bool := tyN d == T || (T == "int" && tyN d == "bool")
def dIsi (T : String) : D → Option D := fun d => if isRng d = true then none else some (.bl (isiB T d))
theorem tyX_of {K : PySem.W.Frag} {H : Hp} {v : V} {d : D} (n : isRng d = false) (h : Dat K H v d) : TyX K H v (.type (tyN d)) := by
  cases h with
  | rng _ => cases n
  | obj _ _ _ _ => cases n
  | dic _ _ _ => cases n
  | dct _ _ _ => cases n
  | non => exact .base .non
  | bl => exact .base (.bl _)
  | int => exact .base (.int _)
  | str => exact .base (.str _)
  | lst h r => exact .base (.lst h)
  | tup h r =>
    rcases h with (h | ⟨o, h⟩) | ⟨o, its, n, hk, hc, _⟩
    · exact .base (.tup h)
    · exact .fTuple h
    · exact .kTuple hk hc
  | scr h =>
    rcases h with (h | ⟨o, h⟩) | ⟨o, its, n, hk, hc, _⟩
    · exact .base (.lst h)
    · exact .base (.frz h)
    · exact .kList hk hc
def kitOkB (T : String) : Bool := ["NoneType", "bool", "int", "str", "list", "tuple"].all fun a => kitB a T == some (a == T || (T == "int" && a == "bool"))
theorem kit_int : kitOkB "int" = true := by decide +kernel
theorem kit_bool : kitOkB "bool" = true := by decide +kernel
theorem kit_str : kitOkB "str" = true := by decide +kernel
theorem kit_list : kitOkB "list" = true := by decide +kernel
theorem kit_tuple : kitOkB "tuple" = true := by decide +kernel
theorem kit_of' {T : String} (h : kitOkB T = true) (d : D) (n : isRng d = false) : kitB (tyN d) T = some (isiB T d) := by
  unfold kitOkB at h
  rw [List.all_eq_true] at h
  have key : tyN d ∈ ["NoneType", "bool", "int", "str", "list", "tuple"] := by
    cases d <;> first | (simp [tyN]; done) | cases n
  have := h _ key
  exact eq_of_beq this
section
variable {X : Cx} {L : LE} {J : Jn} {fl fl1 fl' : List Sh} {W : WX} {pos : Pos}
theorem boot_isinstance : bootBuiltins "isinstance" = some (.builtin "isinstance") := by decide +kernel
theorem e_isi {T : String} {TS : Str} {e : Expr} {f : Env → R D} {p p2 : Pos} {bw : Bool} (hk : kitOkB T = true) (hm : X.mg "isinstance" = none) (hT : X.mg TS = none) (hv : bootBuiltins TS = some (.type T)) (he : PE X e (tD L fl .b W f)) (hK : X.K = L.K := by rfl) (hg : Gl X "isinstance" := by rfl) (hgT : Gl X TS := by rfl) (hn : TS ≠ "__name__" := by decide) (hdb : (TS == ("__debug__" : Str)) = false := by decide)
    (hse : starEach [e, .Name TS p2] X.env = (false, eval e X.env) :: starEach [.Name TS p2] X.env := by rfl) (hpl : (backTo pos (starEach [.Name TS p2] X.env)).any (·.1) = false := by rfl) :
    PE X (.Call (.Name "isinstance" p) [e, .Name TS p2] [] pos) (tD L fl (.d bw) W (m1 (dIsi T) f)) :=
  (pe_callB call_isi hg hm boot_isinstance (pa_cons he (pa_cons (pe_bltn (v := .ty T) hgT hT hv rfl hn hdb) pa_nil) hse) (he := hse) (hpl := hpl)).imp fun σ H Q ⟨F, B, ρ, r, p⟩ => by
    refine tD_bind rfl r (k := fun x => oR (dIsi T x)) p fun d v F1 H1 S1 _ e1 r1 o1 _ _ p1 => ?_
    have dv : Dat L.K H1 v d := (own_d o1).1
    unfold dIsi at p1
    cases n : isRng d with
    | true => rw [n, if_pos rfl] at p1; exact p1.elim
    | false =>
      rw [n, if_neg Bool.false_ne_true] at p1
      exact ⟨v, .ty T, _, _, _, rfl, .ty T, by rw [hK]; exact tyX_of n dv, kit_ty (kit_of' hk d n), postE_ok (d := .bl (isiB T d)) p1 e1 .bl⟩

/-! ### methods of texts -/
def mM (g : List Nat → List D → Option D) (fo : Env → R D) (fs : Env → R (List D)) : Env → R D := fun ρ => fo ρ >>= fun o => match o with
  | .str s => fs ρ >>= fun xs => oR (g s xs)
  | _ => .stuck
def MethD (L : LE) (r : V → List V → Hp → VK → Prop) (bw : Bool) (sh : Sh) (g : List Nat → List D → Option D) : Prop := ∀ (F H : Hp) (s : List Nat) (vs : List V) (ds : List D) (d : D), Same F H → NoT F → DatL L.K (cond bw H F) vs ds → g s ds = some d →
  ∀ Q : VK, (∀ v F' H' S, Ext L.T F H F' H' → Own L.K F' H' sh v d S → S.Nodup → (∀ a ∈ S, F' a = none ∧ Nw H a) → Q v H') → r (.str ⟨s.toArray⟩) vs H Q
theorem e_strm {id : String} {name : Str} {o e : Expr} {es : List Expr} {apos cpos : Pos} {r : V → List V → Hp → VK → Prop} {bw : Bool} {sh : Sh} {g : List Nat → List D → Option D} {fo : Env → R D} {fs : Env → R (List D)} (slot : Slot "str" name id) (hty : typeOf (.builtin id) = pure (.type "method_descriptor")) (hm : MtR X id r) (hd : MethD L r bw sh g)
    (ho : PE X o (tD L fl .s W fo)) (ha : PA X (e :: es) (tA L fl bw W fs)) (hbase : attributeBase o name X.env (eval o X.env) = eval o X.env := by rfl)
    (hfew : ((backTo cpos (starEach (e :: es) X.env)).all (fun x => !x.1) && (backToKw cpos (keywordEach [] X.env)).all (fun x => x.1.isSome) && decide ((e :: es).length + ([] : List Keyword).length + (if ([] : List Keyword).isEmpty then 0 else 1) < 30)) = true := by rfl)
    (hline : (apos.endLine == cpos.line) = true := by rfl) (hs : starEach (e :: es) X.env = (false, eval e X.env) :: starEach es X.env := by rfl) (hplain : (backTo cpos (starEach es X.env)).any (·.1) = false := by rfl) :
    PE X (.Call (.Attribute o name apos) (e :: es) [] cpos) (tD L fl sh W (mM g fo fs)) :=
  (pe_bm PySem.F.plainAttrs_str slot hty hm ho ha hbase hfew hline hs hplain).imp fun σ H Q ⟨F, B, ρ, r, p⟩ => by
    refine tD_bind rfl r (k := fun o => match o with | .str s => fs ρ >>= fun xs => oR (g s xs) | _ => .stuck) p fun d v F1 H1 S1 _ e1 r1 o1 _ _ p1 => ?_
    have dv := (own_d o1).1
    cases d with
    | str s =>
      cases dv
      refine ⟨rfl, ?_⟩
      refine tA_bind rfl r1 (k := fun xs => oR (g s xs)) (p1.weak e1) fun ds vs F2 H2 _ e2 r2 d2 p2 => ?_
      cases q : g s ds with
      | none => rw [q] at p2; exact p2.elim
      | some d => rw [q] at p2; exact hd F2 H2 s vs ds d r2.bs.fh r2.bs.nf d2 q Q p2
    | _ => exact p1.elim
theorem methD_pure {r : V → List V → Hp → VK → Prop} {bw bw2 : Bool} {g : List Nat → List D → Option D} (h : ∀ (F H : Hp) (z : List Nat) (vs : List V) (ds : List D) (d : D), Same F H → DatL L.K (cond bw H F) vs ds → g z ds = some d → ∃ v, (∀ F, Dat L.K F v d) ∧ ∀ Q : VK, Q v H → r (.str ⟨z.toArray⟩) vs H Q) : MethD L r bw (.d bw2) g :=
  fun F H z vs ds d s nt hx e Q q => by
    obtain ⟨v, dv, go⟩ := h F H z vs ds d s hx e
    exact go Q (q v F H [] (.refl s nt) (own_lift s (dv F)) List.nodup_nil fun a m => nomatch m)
/-- find: the first place from lo on, or -1 -/
def findI (s t : List Nat) (lo : Nat) : Int := match findN s t lo with
  | some i => (i : Nat)
  | none => -1
def dFind (s : List Nat) : List D → Option D
  | [.str t] => some (.int (findI s t 0))
  | _ => none
def dFind3 (s : List Nat) : List D → Option D
  | [.str t, .int i] => if 0 ≤ i then some (.int (findI s t i.toNat)) else none
  | _ => none
theorem occ_findI (s t : List Nat) (lo : Nat) : (match Builtin.Str.occurrences ⟨s.toArray⟩ ⟨t.toArray⟩ lo (Str.length ⟨s.toArray⟩) 1 with | k :: _ => (k : Int) | [] => -1) = findI s t lo := by
  have h := occ_findN s t lo
  unfold findI
  rw [← h]
  cases Builtin.Str.occurrences ⟨s.toArray⟩ ⟨t.toArray⟩ lo (Str.length ⟨s.toArray⟩) 1 <;> rfl
theorem md_find {bw bw2 : Bool} : MethD L (fun x xs H Q => ∃ a b, x = .str a ∧ xs = [.str b] ∧ Q (.int (Txt.find a b)) H) bw (.d bw2) dFind := methD_pure fun F H z vs ds d s hx e => by
  unfold dFind at e
  split at e <;> cases e
  obtain ⟨v, rfl, h⟩ := datL1 hx
  cases h
  rename_i t
  refine ⟨_, fun _ => .int, fun Q q => ⟨_, _, rfl, rfl, ?_⟩⟩
  have e2 : Txt.find ⟨z.toArray⟩ ⟨t.toArray⟩ = findI z t 0 := occ_findI z t 0
  rw [e2]
  exact q
theorem md_find3 {bw bw2 : Bool} : MethD L (fun x xs H Q => ∃ (a b : Str) (i : Int), x = .str a ∧ xs = [.str b, .int i] ∧ Q (.int (Txt.find3 a b i)) H) bw (.d bw2) dFind3 := methD_pure fun F H z vs ds d s hx e => by
  unfold dFind3 at e
  split at e
  · split at e <;> cases e
    rename_i t i h0
    obtain ⟨v, w, rfl, h, h'⟩ := datL2 hx
    cases h; cases h'
    refine ⟨_, fun _ => .int, fun Q q => ⟨_, _, _, rfl, rfl, ?_⟩⟩
    have e3 : PySem.fromIndex (Str.length ⟨z.toArray⟩) i = i.toNat := by
      unfold PySem.fromIndex
      rw [if_neg (by omega)]
      omega
    have e2 : Txt.find3 ⟨z.toArray⟩ ⟨t.toArray⟩ i = findI z t i.toNat := by
      rw [← e3]
      exact occ_findI z t _
    rw [e2]
    exact q
  · cases e
/-- join -/
def strsOf : List D → Option (List (List Nat))
  | [] => some []
  | .str s :: ds => (strsOf ds).map (s :: ·)
  | _ => none
def joinD (sep : List Nat) : List (List Nat) → List Nat
  | [] => []
  | [x] => x
  | x :: y :: r => x ++ sep ++ joinD sep (y :: r)
def dJoin (s : List Nat) : List D → Option D
  | [.lst xs] => match strsOf xs with
    | some zs => if (zs.map (·.length)).sum + zs.length * s.length ≤ LN then some (.str (joinD s zs)) else none
    | none => none
  | _ => none
theorem strs_V {K : PySem.W.Frag} {F : Hp} : ∀ {vs : List V} {ds : List D} {zs : List (List Nat)}, DatL K F vs ds → strsOf ds = some zs → vs = (zs.map fun z => (⟨z.toArray⟩ : Str)).map V.str
  | _, _, zs, .nil, e => by
    unfold strsOf at e
    cases e
    rfl
  | _, _, zs, .cons (d := d) (ds := ds) h r, e => by
    cases d with
    | str s =>
      unfold strsOf at e
      cases q : strsOf ds with
      | none => rw [q] at e; cases e
      | some ys =>
        rw [q] at e
        cases e
        cases h
        rw [strs_V r q]
        rfl
    | _ => unfold strsOf at e; cases e
theorem join_D (sep : List Nat) : ∀ zs : List (List Nat), Str.join ⟨sep.toArray⟩ (zs.map fun z => (⟨z.toArray⟩ : Str)) = ⟨(joinD sep zs).toArray⟩
  | [] => rfl
  | [x] => rfl
  | x :: y :: r => by
    show (⟨x.toArray⟩ : Str) ++ ⟨sep.toArray⟩ ++ Str.join ⟨sep.toArray⟩ ((y :: r).map fun z => (⟨z.toArray⟩ : Str)) = _
    rw [join_D sep (y :: r), s_app, s_app]
    rfl
theorem md_join (hK : X.K = L.K) {bw2 : Bool} : MethD L (fun x xs H Q => ∃ a p, ∃ ys : List Str, x = .str a ∧ xs = [.ref p] ∧ (SqL X.K H p (ys.map V.str) ∨ SqT X.K H p (ys.map V.str)) ∧ (ys.map (·.length)).sum + ys.length * a.length ≤ 16777216 ∧ Q (.str (Txt.join a ys)) H) true (.d bw2) dJoin := methD_pure fun F H z vs ds d s hx e => by
  unfold dJoin at e
  split at e
  · rename_i xs
    split at e
    · rename_i zs q
      split at e <;> cases e
      rename_i hl
      obtain ⟨v, rfl, h⟩ := datL1 hx
      obtain ⟨a, ws, rfl, h1, h2⟩ := dat_sq h
      have e1 := strs_V h2 q
      have e2 : (zs.map fun z => (⟨z.toArray⟩ : Str)).map (·.length) = zs.map (·.length) := by
        rw [List.map_map]
        exact List.map_congr_left fun x _ => s_len x
      refine ⟨_, fun _ => .str, fun Q k => ⟨_, a, zs.map fun z => (⟨z.toArray⟩ : Str), rfl, rfl, .inl (by rw [hK, ← e1]; exact SqL.of h1), ?_, ?_⟩⟩
      · rw [e2, List.length_map, s_len]
        exact Nat.le_trans hl (by decide)
      · unfold Txt.join
        rw [PySem.StrLaws.glued_eq_join, join_D]
        exact k
    · cases e
  · cases e

/-! ### list comprehensions, as the rules' own -/
theorem e_lc {elt tg iter : Expr} {ifs : List Expr} {scope : Scope} (own : List (Str × Nat)) {fi : Env → R (List D)} {T : D → Env → Option Env} {ft : Env → R Bool} {fe : Env → R D} (hN : X.N.Nodup) (hi : PI X tg iter (tI L fl W fi)) (ok : blkC X.N X.env.scope scope own = true)
    (hg : ∀ (s : Shared) (H : Hp) (C : Addr) (cl : List (Str × Addr)) (fp : List Addr), PG (X.blk s H scope (compEnvC scope cl C X.env) fp) tg (tG L fl fl (own.map (·.2)) T))
    (ht : ∀ (s : Shared) (H : Hp) (C : Addr) (cl : List (Str × Addr)) (fp : List Addr), PTs (X.blk s H scope (compEnvC scope cl C X.env) fp) ifs (tT L fl W0 ft))
    (he : ∀ (s : Shared) (H : Hp) (C : Addr) (cl : List (Str × Addr)) (fp : List Addr), PE (X.blk s H scope (compEnvC scope cl C X.env) fp) elt (tD L fl .s W0 fe))
    (hc : X.calm = true := by rfl) (hw : noXs fl (own.map (·.2)) = true := by rfl) (hs : ∀ x, foldedSetIterable iter X.env x = pure x := by intro _; rfl) : PE X (.ListComp elt [⟨tg, iter, ifs, 0⟩] scope pos) (tD L fl (.l .s) W (mLc fi (own.map (·.2)) T ft fe)) :=
  (pe_lc hc hN hi (blkOk_by ok) hg ht he hs).imp fun _ _ _ h => t_lc hw h
theorem ts_nil : PTs X [] (tT L fl W mYes) := ⟨fun pins s σ H Q I ⟨F, B, ρ, r, p⟩ => pts_nil.run pins s σ H Q I (p F H r.refl)⟩
theorem ts_one {c : Expr} {f : Env → R Bool} (h : PT X c (tT L fl W f)) : PTs X [c] (tT L fl W f) := pts_one h
/-- name = [..] -/
theorem s_setLc (i : Nat) {y : Str} {py spos : Pos} {elt tg iter : Expr} {ifs : List Expr} {scope : Scope} (own : List (Str × Nat)) {fi : Env → R (List D)} {T : D → Env → Option Env} {ft : Env → R Bool} {fe : Env → R D} (hN : X.N.Nodup) (hi : PI X tg iter (tI L fl W fi)) (ok : blkC X.N X.env.scope scope own = true)
    (hg : ∀ (s : Shared) (H : Hp) (C : Addr) (cl : List (Str × Addr)) (fp : List Addr), PG (X.blk s H scope (compEnvC scope cl C X.env) fp) tg (tG L fl fl (own.map (·.2)) T))
    (ht : ∀ (s : Shared) (H : Hp) (C : Addr) (cl : List (Str × Addr)) (fp : List Addr), PTs (X.blk s H scope (compEnvC scope cl C X.env) fp) ifs (tT L fl W0 ft))
    (he : ∀ (s : Shared) (H : Hp) (C : Addr) (cl : List (Str × Addr)) (fp : List Addr), PE (X.blk s H scope (compEnvC scope cl C X.env) fp) elt (tD L fl .s W0 fe))
    (hsw : swapsWith (.ListComp elt [⟨tg, iter, ifs, 0⟩] scope pos) (some (.Name y py)) spos.line X.env = pure true) (hf' : fl.set i (.l .s) = fl1 := by rfl) (hc : X.calm = true := by rfl) (hy : X.N[i]? = some y := by rfl) (hyl : X.env.scope.names.lookup y = some .local := by rfl) (hw : noXs fl (own.map (·.2)) = true := by rfl) (hs : ∀ x, foldedSetIterable iter X.env x = pure x := by intro _; rfl) :
    PS X (.Assign [.Name y py] (.ListComp elt [⟨tg, iter, ifs, 0⟩] scope pos) spos) (tS L J fl fl1 W (sSet i (mLc fi (own.map (·.2)) T ft fe))) :=
  (ps_setLc hc hN hy hyl hsw hi (blkOk_by ok) hg ht he hs).imp fun D σ H ⟨F, B, ρ, r, p⟩ => t_lc (L := L) (fl := fl) (W := W) hw ⟨F, B, ρ, r, PostS.bindE r p fun d v F' H' S _ e _ o nd fr p1 => by
    subst hf'
    exact p1 _ F' H' (.refl _) (r.setE e o rfl nd fr)⟩
end
end PD
set_option Elab.async false
set_option linter.all false
set_option maxRecDepth 100000
set_option maxHeartbeats 2000000
namespace PD
open PySem PySem.Spec PyProof.Rows L2
section
variable {X : Cx} {L : LE} {J : Jn} {fl fl1 fl' : List Sh} {W : WX} {pos : Pos}
theorem s_brk (h : J.fk = fl := by rfl) : PS X (.Break pos) (tS L J fl fl' W sBk) := ps_break.imp fun D σ H ⟨F, B, ρ, r, p⟩ => p σ F H (.refl _) (h ▸ r)
theorem s_cnt (h : J.fc = fl := by rfl) : PS X (.Continue pos) (tS L J fl fl' W sCt) := ps_continue.imp fun D σ H ⟨F, B, ρ, r, p⟩ => p σ F H (.refl _) (h ▸ r)
/-! unary operators -/
def dNeg : D → Option D
  | .int i => some (.int (-i))
  | _ => none
theorem e_neg {a : Expr} {f : Env → R D} {bw : Bool} (ha : PE X a (tD L fl .s W f)) : PE X (.UnaryOp .USub a pos) (tD L fl (.d bw) W (m1 dNeg f)) :=
  (pe_un un_neg ha).imp fun σ H Q ⟨F, B, ρ, r, p⟩ => by
    refine tD_bind rfl r (k := fun d => oR (dNeg d)) p fun d v F1 H1 S1 _ e1 r1 o1 _ _ p1 => ?_
    have dv := (own_d o1).1
    cases d with
    | int i =>
      cases dv
      exact ⟨i, rfl, postE_ok (d := .int (-i)) p1 e1 .int⟩
    | _ => exact p1.elim
/-! x op= e on a shared name -/
def sAug (i : Nat) (g : D → D → Option D) (f : Env → R D) : Env → R Fl := fun ρ => match ρ[i]? with
  | some (some x) => liftE (f ρ) ρ fun y => match g x y with
    | some d => .ok (.nx (ρ.set i (some d)))
    | none => .stuck
  | _ => .stuck
theorem s_aug (i : Nat) {x : Str} {e : Expr} {op : Operator} {r : R2} {g : D → D → Option D} {f : Env → R D} {pos' : Pos} (hN : X.N.Nodup) (ho : OpR X (inplaceOp op) r) (hd : OpD L r false .s g) (he : PE X e (tD L fl .s W f)) (hs : fl[i]? = some .s := by rfl) (hf' : fl.set i .s = fl := by rfl) (hi : X.N[i]? = some x := by rfl) (hx : Loc X.env.scope x := by first | exact Or.inl rfl | exact Or.inr rfl)
    (hf : X.fn x = true ∨ X.env.scope.names.lookup x = some .local := by first | exact .inl rfl | exact .inr rfl | assumption) : PS X (.AugAssign (.Name x pos') op e pos) (tS L J fl fl W (sAug i g f)) :=
  (ps_aug hN hi hx he ho hf).imp fun D σ H ⟨F, B, ρ, rp, p⟩ => by
    unfold sAug at p
    split at p
    · rename_i dx q
      obtain ⟨v, a1, a2⟩ := rp.getS q hs
      refine ⟨v, a1, F, B, ρ, rp, PostS.bindE rp p fun dy w F1 H1 S _ e1 r1 o1 _ _ p1 => ?_⟩
      cases q2 : g dx dy with
      | none => rw [q2] at p1; exact p1.elim
      | some d =>
        rw [q2] at p1
        refine hd F1 H1 v w dx dy d r1.bs.fh r1.bs.nf (a2.mono e1.ff.sm) (own_d o1).1 q2 _ fun z F2 H2 S2 e2 o2 nd fr => ?_
        have r3 := r1.setE e2 o2 rfl nd fr (i := i)
        rw [hf'] at r3
        exact p1 _ F2 H2 e2.ff r3
    · exact p.elim
/-! targets of any form -/
def sAsg (f : Env → R D) (T : D → Env → Option Env) : Env → R Fl := fun ρ => liftE (f ρ) ρ fun d => match T d ρ with
  | some ρ' => .ok (.nx ρ')
  | none => .stuck
theorem s_asg {tg e : Expr} {f : Env → R D} {T : D → Env → Option Env} {vs : List Nat} (he : PE X e (tD L fl .s W f)) (hg : PG X tg (tG L fl fl1 vs T)) (hs : swapsWithSole [tg] e pos.line X.env = pure false := by rfl) (hw : swappedStores [tg] e X.env = pure none := by rfl)
    (h1 : (assignEach [tg] X.env).map (·.2) = [assign tg X.env] := by rfl) : PS X (.Assign [tg] e pos) (tS L J fl fl1 W (sAsg f T)) :=
  (ps_asg he hg hs hw h1).imp fun D σ H ⟨F, B, ρ, r, p⟩ => ⟨F, B, ρ, r, PostS.bindE r p fun d v F' H' S _ e r' o nd fr p1 => by
    cases q : T d ρ with
    | none => simp only [q] at p1; exact p1.elim
    | some ρ' =>
      simp only [q] at p1
      exact ⟨F', B, ρ, d, r', (own_d o).1, ρ', q, fun σ' _ r2 => p1 σ' F' H' (.refl _) r2⟩⟩
/-! x[k] = e on an own list with shared items -/
def sSetIx (i : Nat) (fe fk : Env → R D) : Env → R Fl := fun ρ => liftE (fe ρ) ρ fun d => match getL ρ i with
  | some xs => liftE (fk ρ) ρ fun k => match k with
    | .int j => match ixN xs.length j with
      | some m => .ok (.nx (ρ.set i (some (.lst (xs.set m d)))))
      | none => .stuck
    | _ => .stuck
  | none => .stuck
theorem s_setix (i : Nat) {x : Str} {e b : Expr} {fe fk : Env → R D} {xp sp : Pos} (he : PE X e (tD L fl .s W fe)) (hb : PE X b (tD L fl .s W fk)) (hs : fl[i]? = some (.l .s) := by rfl) (hN : X.N[i]? = some x := by rfl) (hv : Vis X.env.scope x := by first | exact Or.inl rfl | exact Or.inr (Or.inl rfl) | exact Or.inr (Or.inr rfl)) (hd : (x == ("__debug__" : Str)) = false := by decide)
    (hcd : (x == ("__classdict__" : Str)) = false := by decide)
    (ha : ∀ v, assign (.Subscript (.Name x xp) b sp) X.env v = (do
      let ov ← holding [v] (eval (.Name x xp) X.env)
      let iv ← holding [v, ov] (eval b X.env)
      standAt sp
      holding [v, ov, iv] (setItem ov iv v)
      release [v, ov, iv] []) := by intro _; rfl)
    (hs1 : swapsWithSole [.Subscript (.Name x xp) b sp] e pos.line X.env = pure false := by rfl) (hw : swappedStores [.Subscript (.Name x xp) b sp] e X.env = pure none := by rfl)
    (h1 : (assignEach [.Subscript (.Name x xp) b sp] X.env).map (·.2) = [assign (.Subscript (.Name x xp) b sp) X.env] := by rfl) : PS X (.Assign [.Subscript (.Name x xp) b sp] e pos) (tS L J fl fl W (sSetIx i fe fk)) :=
  (ps_asg he (pg_sub (pv i hN hv hd hcd) hb set_list ha) hs1 hw h1).imp fun D σ H ⟨F, B, ρ, r, p⟩ => ⟨F, B, ρ, r, PostS.bindE r p fun d v F1 H1 S _ e1 r1 o1 _ _ p1 => by
    cases q : getL ρ i with
    | none => simp only [q] at p1; exact p1.elim
    | some xs =>
      simp only [q] at p1
      have hx := getL_some q
      obtain ⟨l, vs, S, a1, a2, a3, a4, a5, a6, a7, a8, go⟩ := r1.mut hs hx
      refine ⟨.ref l, a1, F1, B, ρ, r1, PostS.bindE r1 p1 fun dk w F2 H2 S2 _ e2 r2 o2 _ _ p2 => ?_⟩
      have dw := (own_d o2).1
      cases dk with
      | int j =>
        cases dw
        dsimp only at p2
        cases q2 : ixN xs.length j with
        | none => simp only [q2] at p2; exact p2.elim
        | some m =>
          simp only [q2] at p2
          obtain ⟨dvs, eS⟩ := OwnL.datS a3
          subst eS
          have hl := dvs.length
          refine ⟨l, vs, j, m, rfl, rfl, e2.hh l _ a2 rfl, by rw [hl]; exact q2, ?_⟩
          exact p2 σ F2 _ (.refl _) (go F2 H2 _ _ [] e2 (OwnL.ofDat (DatL.set ((own_d o1).1.mono e2.ff.sm) m (dvs.mono e2.ff.sm))) (by simp) List.nodup_nil (fun a m => nomatch m) (fun a m => nomatch m))
      | _ => exact p2.elim⟩
end
end PD
set_option Elab.async false
set_option linter.all false
set_option maxRecDepth 100000
set_option maxHeartbeats 2000000
namespace PD
open PySem PySem.Spec PyProof.Rows L2
theorem boot_abs' : bootBuiltins "abs" = some (.builtin "abs") := by decide +kernel
theorem boot_min' : bootBuiltins "min" = some (.builtin "min") := by decide +kernel
theorem boot_max' : bootBuiltins "max" = some (.builtin "max") := by decide +kernel
/-- a module's constant -/
def GInt (mg : Str → Option Value) (x : Str) (i : Int) : Prop := ∃ t, mg x = some (.int i t)
def GStr (mg : Str → Option Value) (x : Str) (s : List Nat) : Prop := ∃ y t, mg x = some (.str y t) ∧ y.cps.toList = s
section
variable {X : Cx} {L : LE} {J : Jn} {fl fl1 fl' : List Sh} {W : WX} {pos : Pos}
theorem e_gi {i : Int} {x : Str} {bw : Bool} (hm : GInt X.mg x i) (hg : Gl X x := by rfl) (hd : (x == ("__debug__" : Str)) = false := by decide) : PE X (.Name x pos) (tD L fl (.d bw) W (mC (.int i))) := by
  obtain ⟨t, h⟩ := hm
  exact e_gint h hg hd
theorem e_gs {s : List Nat} {x : Str} {bw : Bool} (hm : GStr X.mg x s) (hg : Gl X x := by rfl) (hd : (x == ("__debug__" : Str)) = false := by decide) : PE X (.Name x pos) (tD L fl (.d bw) W (mC (.str s))) := by
  obtain ⟨y, t, h, e⟩ := hm
  exact e_gstr s h e hg hd
theorem elt_in' {P : Program} {w : World} {mg : Str → Option Value} {sc : Scope} {x g : Str} {s : List Nat} {p1 p2 p3 : Pos} (hm : GStr mg g s) (hk : sc.kind = .function := by rfl) (hl : sc.names.lookup x = some .local := by decide +kernel) (hg : sc.names.lookup g = some .globalImplicit := by decide +kernel)
    (hd : (x == ("__debug__" : Str)) = false := by decide) (hd2 : (g == ("__debug__" : Str)) = false := by decide) : EltW P w mg sc x (.Compare (.Name x p1) [.In] [.Name g p2] p3) (fun c => decide (c ∈ s)) := by
  obtain ⟨y, t, h, e⟩ := hm
  subst e
  exact elt_inG hk hl hg h hd hd2
/-- freeze at a block's end -/
theorem ss_frzO (i : Nat) {st : List Stmt} {f : Env → R Fl} (h : PSs X st (tS L J fl fl' W f)) (he : fl'.set i .s = fl1 := by rfl) : PSs X st (tS L J fl fl1 W f) :=
  h.imp fun D σ H ⟨F, B, ρ, r, p⟩ => ⟨F, B, ρ, r, by
    subst he
    unfold PostS at p ⊢
    split at p
    · intro σ' F' H' s r'
      obtain ⟨F2, s2, r2⟩ := r'.frz (sh := .s) (i := i)
      exact p σ' F2 H' (s.trans s2) r2
    · exact p
    · exact p
    · exact p
    · exact p
    · exact p
    · exact p⟩
/-- name = [..], the list shared at once -/
theorem s_setLcS (i : Nat) {y : Str} {py spos : Pos} {elt tg iter : Expr} {ifs : List Expr} {scope : Scope} (own : List (Str × Nat)) {fi : Env → R (List D)} {T : D → Env → Option Env} {ft : Env → R Bool} {fe : Env → R D} (hN : X.N.Nodup) (hi : PI X tg iter (tI L fl W fi)) (ok : blkC X.N X.env.scope scope own = true)
    (hg : ∀ (s : Shared) (H : Hp) (C : Addr) (cl : List (Str × Addr)) (fp : List Addr), PG (X.blk s H scope (compEnvC scope cl C X.env) fp) tg (tG L fl fl (own.map (·.2)) T))
    (ht : ∀ (s : Shared) (H : Hp) (C : Addr) (cl : List (Str × Addr)) (fp : List Addr), PTs (X.blk s H scope (compEnvC scope cl C X.env) fp) ifs (tT L fl W0 ft))
    (he : ∀ (s : Shared) (H : Hp) (C : Addr) (cl : List (Str × Addr)) (fp : List Addr), PE (X.blk s H scope (compEnvC scope cl C X.env) fp) elt (tD L fl .s W0 fe))
    (hsw : swapsWith (.ListComp elt [⟨tg, iter, ifs, 0⟩] scope pos) (some (.Name y py)) spos.line X.env = pure true) (hf' : fl.set i .s = fl1 := by rfl) (hc : X.calm = true := by rfl) (hy : X.N[i]? = some y := by rfl) (hyl : X.env.scope.names.lookup y = some .local := by rfl) (hw : noXs fl (own.map (·.2)) = true := by rfl) (hs : ∀ x, foldedSetIterable iter X.env x = pure x := by intro _; rfl) :
    PS X (.Assign [.Name y py] (.ListComp elt [⟨tg, iter, ifs, 0⟩] scope pos) spos) (tS L J fl fl1 W (sSet i (mLc fi (own.map (·.2)) T ft fe))) :=
  (s_setLc (J := J) (fl1 := fl.set i (.l .s)) i own hN hi ok hg ht he hsw rfl hc hy hyl hw hs).imp fun D σ H ⟨F, B, ρ, r, p⟩ => ⟨F, B, ρ, r, by
    subst hf'
    unfold PostS at p ⊢
    split at p
    · intro σ' F' H' s r'
      obtain ⟨F2, s2, r2⟩ := r'.frz (sh := .s) (i := i)
      rw [List.set_set] at r2
      exact p σ' F2 H' (s.trans s2) r2
    · exact p
    · exact p
    · exact p
    · exact p
    · exact p
    · exact p⟩
/-! x.extend(e), name = x.pop() on own lists with shared items -/
def sExt (i : Nat) (f : Env → R D) : Env → R Fl := fun ρ => match getL ρ i with
  | some xs => liftE (f ρ) ρ fun d => match d with
    | .lst ys => if xs.length + ys.length ≤ LN then .ok (.nx (ρ.set i (some (.lst (xs ++ ys))))) else .stuck
    | _ => .stuck
  | none => .stuck
theorem s_extend (i : Nat) {x : Str} {e : Expr} {f : Env → R D} {xp apos cpos : Pos} (he : PE X e (tD L fl .s W f)) (hK : X.K = L.K := by rfl) (hs : fl[i]? = some (.l .s) := by rfl) (hN : X.N[i]? = some x := by rfl) (hv : Vis X.env.scope x := by first | exact Or.inl rfl | exact Or.inr (Or.inl rfl) | exact Or.inr (Or.inr rfl)) (hd : (x == ("__debug__" : Str)) = false := by decide)
    (hcd : (x == ("__classdict__" : Str)) = false := by decide) (hbase : attributeBase (.Name x xp) "extend" X.env (eval (.Name x xp) X.env) = eval (.Name x xp) X.env := by rfl)
    (hfew : ((backTo cpos (starEach [e] X.env)).all (fun x => !x.1) && (backToKw cpos (keywordEach [] X.env)).all (fun x => x.1.isSome) && decide (([e] : List Expr).length + ([] : List Keyword).length + (if ([] : List Keyword).isEmpty then 0 else 1) < 30)) = true := by rfl)
    (hline : (apos.endLine == cpos.line) = true := by rfl) (hse : starEach [e] X.env = (false, eval e X.env) :: starEach [] X.env := by rfl) (hplain : (backTo cpos (starEach [] X.env)).any (·.1) = false := by rfl)
    (hsw : swapsWith (.Call (.Attribute (.Name x xp) "extend" apos) [e] [] cpos) none pos.line X.env = pure false := by rfl) :
    PS X (.Expr (.Call (.Attribute (.Name x xp) "extend" apos) [e] [] cpos) pos) (tS L J fl fl W (sExt i f)) :=
  (ps_expr (pe_bm PySem.F.plainAttrs_list PySem.F.slot_list_extend PySem.F.type_list_extend mt_extend (pv i hN hv hd hcd) (pa_cons he pa_nil hse) hbase hfew hline hse hplain) hsw).imp fun D σ H ⟨F, B, ρ, r, p⟩ => by
    unfold sExt at p
    cases q : getL ρ i with
    | none => rw [q] at p; exact p.elim
    | some xs =>
      rw [q] at p
      have hx := getL_some q
      obtain ⟨l, vs, S, a1, a2, a3, a4, a5, a6, a7, a8, go⟩ := r.mut hs hx
      refine ⟨.ref l, a1, .inl ⟨rfl, _, SqL.of a2⟩, F, B, ρ, r, PostS.bindE r p fun d v F' H' S' _ e r' o nd fr p1 => ?_⟩
      obtain ⟨dvs, eS⟩ := OwnL.datS a3
      subst eS
      cases d with
      | lst ys =>
        obtain ⟨b, ws, rfl, h1, h2⟩ := dat_sq (own_d o).1
        dsimp only at p1
        by_cases hl : xs.length + ys.length ≤ LN
        · rw [if_pos hl] at p1
          have hlv := dvs.length
          have hlw := h2.length
          refine ⟨l, b, vs, ws, rfl, rfl, e.hh l _ a2 rfl, r'.bs.fh _ _ h1, le_line (by omega), ?_⟩
          exact p1 σ F' _ (.refl _) (go F' H' _ _ [] e (OwnL.ofDat ((dvs.mono e.ff.sm).append h2)) (by simp) List.nodup_nil (fun a m => nomatch m) (fun a m => nomatch m))
        · rw [if_neg hl] at p1; exact p1.elim
      | _ => exact p1.elim
/-- x.append(e) where the value of e is dropped: as before -/
def sPop (j i : Nat) : Env → R Fl := fun ρ => match getL ρ i with
  | some xs => match xs.getLast? with
    | some d => .ok (.nx ((ρ.set i (some (.lst xs.dropLast))).set j (some d)))
    | none => .stuck
  | none => .stuck
theorem s_pop (j i : Nat) {x y : Str} {xp yp apos cpos : Pos} (hN : X.N.Nodup) (hK : X.K = L.K := by rfl) (hs : fl[i]? = some (.l .s) := by rfl) (hf' : fl.set j .s = fl1 := by rfl) (hNi : X.N[i]? = some x := by rfl) (hNj : X.N[j]? = some y := by rfl) (hx : Loc X.env.scope y := by first | exact Or.inl rfl | exact Or.inr rfl) (hv : Vis X.env.scope x := by first | exact Or.inl rfl | exact Or.inr (Or.inl rfl) | exact Or.inr (Or.inr rfl)) (hd : (x == ("__debug__" : Str)) = false := by decide)
    (hcd : (x == ("__classdict__" : Str)) = false := by decide) (hbase : attributeBase (.Name x xp) "pop" X.env (eval (.Name x xp) X.env) = eval (.Name x xp) X.env := by rfl) (hline : (apos.endLine == cpos.line) = true := by rfl)
    (hsw : swapsWith (.Call (.Attribute (.Name x xp) "pop" apos) [] [] cpos) (some (.Name y yp)) pos.line X.env = pure false := by rfl) (hf : X.fn y = true ∨ X.env.scope.names.lookup y = some .local := by first | exact .inl rfl | exact .inr rfl | assumption) :
    PS X (.Assign [.Name y yp] (.Call (.Attribute (.Name x xp) "pop" apos) [] [] cpos) pos) (tS L J fl fl1 W (sPop j i)) :=
  (ps_set hN hNj hx (pe_bm0 PySem.F.plainAttrs_list PySem.F.slot_list_pop PySem.F.type_list_pop mt_pop (pv i hNi hv hd hcd) hbase hline) hsw hf).imp fun D σ H ⟨F, B, ρ, r, p⟩ => by
    unfold sPop at p
    cases q : getL ρ i with
    | none => rw [q] at p; exact p.elim
    | some xs =>
      rw [q] at p
      have hx := getL_some q
      obtain ⟨l, vs, S, a1, a2, a3, a4, a5, a6, a7, a8, go⟩ := r.mut hs hx
      obtain ⟨dvs, eS⟩ := OwnL.datS a3
      subst eS
      cases q2 : xs.getLast? with
      | none => simp only [q2] at p; exact p.elim
      | some d =>
        simp only [q2] at p
        have hl := dvs.length
        rw [List.getLast?_eq_getElem?, ← hl] at q2
        obtain ⟨w, e1, e2⟩ := dvs.get q2
        have dl : DatL L.K F vs.dropLast xs.dropLast := by
          rw [List.dropLast_eq_take, List.dropLast_eq_take, hl]
          exact dvs.take _
        have r2 := go F H vs.dropLast xs.dropLast [] r.refl (OwnL.ofDat dl) (by simp) List.nodup_nil (fun a m => nomatch m) (fun a m => nomatch m)
        refine ⟨.ref l, a1, .inl ⟨rfl, _, SqL.of a2⟩, l, vs, w, rfl, rfl, a2, e1, ?_⟩
        have r3 := r2.setE (i := j) r2.refl (.d (bw := false) e2) rfl List.nodup_nil (fun a m => nomatch m)
        subst hf'
        exact p _ F _ (.refl _) r3
/-! a, b = e1, e2 with plain local names -/
def sPar (i j : Nat) (f g : Env → R D) : Env → R Fl := fun ρ => liftE (f ρ) ρ fun a => liftE (g ρ) ρ fun b => .ok (.nx ((ρ.set i (some a)).set j (some b)))
end
theorem xcl_mk {K : PySem.W.Frag} {mg : Str → Option Value} {ca : Str → Addr} {T : List Addr} {c : Str} {x : Addr} (e : ca c = x) (g : mg c = some (.ref x)) (q : PySem.W.excIn K x [.type "ValueError", .type "Exception", .type "BaseException", .type "object"] "ValueError.__new__" = true)
    (k : PySem.W.keepIn K (.ref x) = true) (b : PySem.W.subIn K (.ref x) (.type "BaseException") = some true) (t : PySem.W.typeIn K (.ref x) = some (.type "type")) : Xcl K mg ⟨K, ca, T⟩ c := by
  subst e
  exact ⟨g, q, k, b, t⟩
theorem free_vac {ns : List (Str × NameKind)} {cells : List (Str × Addr)} (h : ∀ y ∈ ns, y.2 ≠ .free) : ∀ y ∈ ns, y.2 = .free → ∃ c, cells.lookup y.1 = some c := fun y m e => absurd e (h y m)
/-! a mirror without fuel -/
section
variable {P : Program} {w : World} {K : PySem.W.Frag} {mg : Str → Option Value} {base : Heap} {L : LE}
theorem pss_stuck {X : Cx} {J : Jn} {fl fl' : List Sh} {W : WX} {st : List Stmt} : PSs X st (tS L J fl fl' W (fun _ => .stuck)) := ⟨fun pins s D σ H I h => by
  obtain ⟨F, B, ρ, r, p⟩ := h
  exact p.elim⟩
theorem fn_stuck {x qual : Str} {st : Stmt} {f : Addr} {fd : FuncData} {N ps : List Str} {k : Nat} (F : Fun K x qual st f fd) (S : FnScope N ps (defScope st)) (hL : L.K = K) {rs : Sh} :
    FnOk P w K mg base (L2.CX P w) (k + 1) f fd ps (spD L rs ps.length (fun _ => .stuck)) := by
  refine F.okX S (fun vs H Q E ⟨_, _, ds, _, d, hl, _⟩ => d.length.trans hl) (fun cdv A outer s H vs Q E hr ⟨F0, B, ds, bs, d, hl, p⟩ => p.elim)
end
end PD
set_option Elab.async false
set_option linter.all false
set_option maxRecDepth 100000
set_option maxHeartbeats 2000000
/-! # try with any number of clauses, named or not -/
namespace PD
open PySem PySem.Spec PyProof.Rows L2
/-- a clause: its class, its name's slot, what its suite asks -/
abbrev Cl1 := Value × Option Nat × (Addr → Value → Option Addr → TS)
/-- the ends behind a suite: the name is gone -/
def endsI (io : Option Nat) (D : Ends) : Ends := match io with
  | some i => { nx := fun τ G => D.nx (τ.set i none) G, rt := D.rt, bk := fun τ G => D.bk (τ.set i none) G, ct := fun τ G => D.ct (τ.set i none) G }
  | none => D
def putI (io : Option Nat) (a : Addr) (τ : L2.St) : L2.St := match io with
  | some i => τ.set i (some (.ref a))
  | none => τ
def wN (K : PySem.W.Frag) (Wo : WX) (D : Ends) : List Cl1 → WX
  | [] => Wo
  | c :: r => fun k d τ G => ∃ b, PySem.W.exmOne K k c.1 = some b ∧ (b = true → ∀ a, G a = none → c.2.2 a k d (endsI c.2.1 D) (putI c.2.1 a τ) G) ∧ (b = false → wN K Wo D r k d τ G)
def slotOk (X : Cx) (no : Option Str) (io : Option Nat) : Prop := match no, io with
  | some n, some i => X.N[i]? = some n ∧ X.env.kindOf n = some .local
  | none, none => True
  | _, _ => False
inductive Cls1 (X : Cx) : List ExceptHandler → List Cl1 → Prop
  | nil : Cls1 X [] []
  | cons {y : Str} {v : Value} {no : Option Str} {io : Option Nat} {u : Addr → Value → Option Addr → TS} {s0 : Stmt} {ss : List Stmt} {p1 p2 : Pos} {hs : List ExceptHandler} {l : List Cl1} (hc : Names X y v) (hio : slotOk X no io)
      (hu : ∀ (a : Addr) (o : Obj) (k : Value) (d : Option Addr) (pn : List (Addr × Obj)), Zc k d o → (∃ fs, o.data = .fields fs) → PSs (X.suite a ((a, o) :: pn)) (s0 :: ss) (u a k d)) (r : Cls1 X hs l) :
      Cls1 X (.ExceptHandler (some (.Name y p1)) no (s0 :: ss) p2 :: hs) ((v, io, u) :: l)
section
variable {X : Cx} {Wo : WX} {bd : List Stmt} {h0 : ExceptHandler} {hs : List ExceptHandler} {l : List Cl1} {pp : Pos} {tb : WX → TS}
theorem ps_tryN (e1 : X.stack = X.env :: X.outer) (e2 : X.env.frame = some X.env.locals) (nd : X.N.Nodup) (tk : Takes X Wo)
    (hb : ∀ (W : WX) (pn : List (Addr × Obj)) (xe : Value → Shared → Prop), Takes (X.tr pn xe) W → PassesOwn (model X.prog X.w) X.A X.env xe → PSs (X.tr pn xe) bd (tb W)) (hc : Cls1 X (h0 :: hs) l) :
    PS X (.Try bd (h0 :: hs) [] [] pp) (fun D τ G => tb (wN X.K Wo D l) D τ G) := by
  refine ⟨fun ps t τ G D I q => ?_⟩
  have k0 := I.ok
  have k1 : X.A.frames = some (X.env :: X.outer) := k0.frames.trans (congrArg some e1)
  refine wpAny_Try_except (wpAny_mono ((hb (wN X.K Wo D l) (X.pn ++ ps) (fun e t1 => wpAny (model X.prog X.w) X.A (noteFrame e X.env) (fun _ t2 => wpAny (model X.prog X.w) X.A (setFlight e none) (fun _ t3 => wpAny (model X.prog X.w) X.A (handleBy e X.env (h0 :: hs)) (SP X ps D) X.xe t3) X.xe t2) X.xe t1) (fun u t' z => ?_) PassesOwn.looking).run [] t τ G D (I.toTry _) q) (fun f t1 z => ?_) fun e t1 z => z)
  · obtain ⟨a, B, tI, ps', τ', G', k, d, rfl, J0, nb, up, sk, na, os, ag, w⟩ := z
    have J : Inv X ps τ' G' tI := J0.ofTry k0
    have sk' : Sky B (X.env :: X.outer) a (Zc k d) X.env.locals t'.heap := e1 ▸ sk
    show wpAny (model X.prog X.w) X.A (noteFrame (.ref a) X.env) _ _ _
    refine Sky.land Zc.steady k1 e2 sk' fun g3 f3 u3 => ?_
    have J3 : Inv X ps τ' G' { t' with heap := g3 } := J.landed nb f3.1 (up.trans u3) os ag
    obtain ⟨o3, w3, a3, z3, d3⟩ := f3.there
    have off : a ∉ frs (X.env :: X.outer) := fun m => by
      obtain ⟨_, o', x1, x2⟩ := f3.2.2.1.mem m
      rw [a3] at x1; cases x1; exact x2 _ d3
    have nl : a ≠ X.env.locals := fun z => off (List.mem_filterMap.mpr ⟨X.env, List.mem_cons_self, e2.trans (by rw [z])⟩)
    have nf : a ∉ X.fs := fun m => by
      obtain ⟨e, x1, x2⟩ := List.mem_filterMap.mp m
      exact off (List.mem_filterMap.mpr ⟨e, List.mem_cons_of_mem _ x1, x2⟩)
    have S3 := J3.suite a3 d3 na nl nf
    have go : ∀ {hz : List ExceptHandler} {lz : List Cl1}, Cls1 X hz lz → wN X.K Wo D lz k d τ' G' → wpAny (model X.prog X.w) X.A (handleBy (.ref a) X.env hz) (SP X ps D) X.xe { t' with heap := g3 } := by
      intro hz lz hk
      induction hk with
      | nil =>
        intro w
        obtain ⟨_, _, _, o, fs, T, _, _, x1, _, x3, x4, _⟩ := id f3
        refine wpAny_handleBy_nil ?_
        unfold PySem.passOn
        refine wpAny_bind (wpAny_field x1 x3 x4 ?_)
        rw [if_neg (show ¬ ((Value.ref T == Value.none) = true) from by simp)]
        have fin : wpAny (model X.prog X.w) X.A (setFlight (.ref a) X.env.frame) (fun _ t4 => wpAny (model X.prog X.w) X.A (throw (.ref a) : Sem Flow) (SP X ps D) X.xe t4) X.xe { t' with heap := g3 } := by
          rw [e2]
          exact HandSPX.setFlight_upZ f3 fun g4 y4 u4 => wpAny_throw (tk _ _ ⟨a, B, tI, ps, τ', G', k, d, rfl, J, nb, (up.trans u3).trans u4, .inr (.inr (by rw [e1]; exact y4)), na, os, ag, w⟩)
        first | exact wpAny_bind (wpAny_pure (wpAny_bind fin)) | exact wpAny_bind fin
      | @cons y v no io u s0 ss p1 p2 hs2 l2 hn hio hu r ih =>
        intro w
        obtain ⟨b, w1, wy, wn⟩ := w
        refine wpAny_handleBy_cons (codeAny_handlers_test ?_) (by intro q; cases q)
        have LT : PySem.W.Looks (model X.prog X.w) g3 (typeOf (.ref a)) k := fun A Q E s kk q => wpAny_typeOf_ref (kk _ _ a3) (by rw [z3.1]; exact q)
        have LM := PySem.W.exm_one (M := model X.prog X.w) J3.kIn LT w1
        have tst : ∀ {Q : Value → Shared → Prop} {E : Value → Shared → Prop}, Q v { t' with heap := g3 } → wpAny (model X.prog X.w) (X.A.mark (some (.ref a))) (eval (.Name y p1) X.env) Q E { t' with heap := g3 } := fun {Q E} q => by
          obtain ⟨hg, hd, hm | ⟨hm, hv, hnn⟩⟩ := hn
          · exact ld_glob (X := X.suite a ((a, o3) :: (X.pn ++ ps))) S3 hg hm q hd
          · exact ld_blt (X := X.suite a ((a, o3) :: (X.pn ++ ps))) S3 hg hm hv q hnn hd
        refine tst (LM.here ?_)
        cases b with
        | false => exact ih (wn rfl)
        | true =>
          have fl4 : ∀ {P : Heap → Prop} , True := trivial
          cases io with
          | none =>
            cases no with
            | some n => exact hio.elim
            | none =>
              refine codeAny_handlers_suite (HandSPX.lands_againZ f3 fun g4 f4 u4 => ?_)
              obtain ⟨o4, w4, a4, z4, d4⟩ := f4.there
              have S4 := (J.landed (s' := { t' with heap := g4 }) nb f4.1 ((up.trans u3).trans u4) os ag).suite a4 d4 na nl nf
              refine wpAny_mono ((hu a o4 k d (X.pn ++ ps) z4 ⟨_, d4⟩).run [] _ _ G' _ S4 (wy rfl a na)) (fun f t6 z => ?_) fun _ _ z => z.elim
              cases f with
              | ret u => obtain ⟨v6, x1, x2, x3, x4, x5⟩ := z; exact ⟨_, _, _, x3.unsuite k0, x4, x5⟩
              | next => obtain ⟨x1, x2, x3, x4⟩ := z; exact ⟨_, _, x3.unsuite k0, x4⟩
              | brk => obtain ⟨x1, x2, x3, x4⟩ := z; exact ⟨_, _, x3.unsuite k0, x4⟩
              | cont => obtain ⟨x1, x2, x3, x4⟩ := z; exact ⟨_, _, x3.unsuite k0, x4⟩
          | some i =>
            cases no with
            | none => exact hio.elim
            | some n =>
              obtain ⟨hi, hl⟩ := hio
              refine codeAny_handlers_suite_as (HandSPX.lands_againZ f3 fun g4 f4 u4 => ?_)
              obtain ⟨o4, w4, a4, z4, d4⟩ := f4.there
              have S4 := (J.landed (s' := { t' with heap := g4 }) nb f4.1 ((up.trans u3).trans u4) os ag).suite a4 d4 na nl nf
              refine store_ok (X := X.suite a ((a, o4) :: (X.pn ++ ps))) (v := .ref a) S4 nd hi (.inl hl) rfl (fun t5 S5 => ?_) (.inr hl)
              refine wpAny_mono ((hu a o4 k d (X.pn ++ ps) z4 ⟨_, d4⟩).run [] t5 _ G' _ S5 (wy rfl a na)) (fun f t6 z => ?_) fun _ _ z => z.elim
              have fin : ∀ {τ6 : L2.St} {G6 : Hp} {Q : Shared → Prop}, Inv (X.suite a ((a, o4) :: (X.pn ++ ps))) [] τ6 G6 t6 → (∀ t7, Inv X ps (τ6.set i none) G6 t7 → Q t7) → wpAny (model X.prog X.w) X.A (do bindName X.env n .none; unbindBehindTheSuite X.env n p2) (fun _ t7 => Q t7) X.xe t6 := fun x q => gone_ok (x.unsuite k0) nd hi hl q
              cases f with
              | ret u => obtain ⟨v6, x1, x2, x3, x4, x5⟩ := z; exact fin x3 fun t7 y => ⟨_, _, _, y, x4, x5⟩
              | next => obtain ⟨x1, x2, x3, x4⟩ := z; exact fin x3 fun t7 y => ⟨_, _, y, x4⟩
              | brk => obtain ⟨x1, x2, x3, x4⟩ := z; exact fin x3 fun t7 y => ⟨_, _, y, x4⟩
              | cont => obtain ⟨x1, x2, x3, x4⟩ := z; exact fin x3 fun t7 y => ⟨_, _, y, x4⟩
    exact go hc w
  · cases f with
    | ret u => obtain ⟨v, x1, x2, x3, x4, x5⟩ := z; exact ⟨v, x1, x2, x3.ofTry k0, x4, x5⟩
    | next => obtain ⟨x1, x2, x3, x4⟩ := z; exact wpAny_execs_nil ⟨x1, x2, x3.ofTry k0, x4⟩
    | brk => obtain ⟨x1, x2, x3, x4⟩ := z; exact ⟨x1, x2, x3.ofTry k0, x4⟩
    | cont => obtain ⟨x1, x2, x3, x4⟩ := z; exact ⟨x1, x2, x3.ofTry k0, x4⟩
end
end PD
set_option Elab.async false
set_option linter.all false
set_option maxRecDepth 100000
set_option maxHeartbeats 2000000
namespace PD
open PySem PySem.Spec PyProof.Rows L2

/-! ### all slots shared -/
section
variable {L : LE} {F B H : Hp} {σ : L2.St} {ρ : Env}
theorem Rep.frzN : ∀ (n : Nat) {F : Hp} {fl : List Sh}, Rep L fl F B σ H ρ → ∃ F' fl', Same F F' ∧ Rep L fl' F' B σ H ρ ∧ fl'.length = fl.length ∧ (∀ j, j < n → j < fl.length → fl'[j]? = some .s) ∧ ∀ j, n ≤ j → fl'[j]? = fl[j]?
  | 0, F, fl, r => ⟨F, fl, .refl _, r, rfl, (fun j h => by omega), fun _ _ => rfl⟩
  | n + 1, F, fl, r => by
    obtain ⟨F1, fl1, s1, r1, l1, a1, b1⟩ := Rep.frzN n r
    obtain ⟨F2, s2, r2⟩ := r1.frz (sh := .s) (i := n)
    refine ⟨F2, fl1.set n .s, s1.trans s2, r2, by rw [List.length_set, l1], fun j h1 h2 => ?_, fun j h => ?_⟩
    · by_cases z : j = n
      · subst z; rw [List.getElem?_set_self (by omega)]
      · rw [List.getElem?_set_ne (Ne.symm z)]; exact a1 j (by omega) h2
    · rw [List.getElem?_set_ne (by omega)]; exact b1 j (by omega)
theorem Rep.frzAll {fl : List Sh} (r : Rep L fl F B σ H ρ) : ∃ F', Same F F' ∧ Rep L (List.replicate fl.length .s) F' B σ H ρ := by
  obtain ⟨F', fl', s, r', l, a, _⟩ := Rep.frzN fl.length r
  have e : fl' = List.replicate fl.length .s := by
    apply List.ext_getElem?
    intro j
    by_cases h : j < fl.length
    · rw [a j h h, List.getElem?_replicate, if_pos h]
    · rw [List.getElem?_eq_none (by omega), List.getElem?_replicate, if_neg h]
  subst e
  exact ⟨F', s, r'⟩
/-- a slot gets just a value -/
theorem Rep.setX {fl : List Sh} (r : Rep L fl F B σ H ρ) (i : Nat) (v : V) (eo : Option (Addr × List (Str × V))) (he : ∀ dx ws, eo = some (dx, ws) → F dx = some (.xd ws)) : Rep L (fl.set i (.x v eo)) F B (σ.set i (some v)) H (ρ.set i none) := by
  refine ⟨r.bs, by rw [List.length_set, List.length_set]; exact r.ls, by rw [List.length_set, List.length_set]; exact r.lr, fun j u eo2 q => ?_, ?_⟩
  · by_cases z : j = i
    · subst z
      have hl : j < fl.length := by
        have := (List.getElem?_eq_some_iff.mp q).1
        rwa [List.length_set] at this
      rw [List.getElem?_set_self hl] at q
      cases q
      exact ⟨by rw [List.getElem?_set_self (by rw [r.ls]; exact hl)], he⟩
    · rw [List.getElem?_set_ne (Ne.symm z)] at q ⊢
      exact r.px j u eo2 q
  · obtain ⟨Ss, h1, h2, h3, h4⟩ := r.sl
    refine ⟨Ss, fun j d q => ?_, h2, h3, h4⟩
    by_cases z : j = i
    · subst z
      have hl : j < ρ.length := by
        have := (List.getElem?_eq_some_iff.mp q).1
        rwa [List.length_set] at this
      rw [List.getElem?_set_self hl] at q
      cases q
    · rw [List.getElem?_set_ne (Ne.symm z)] at q
      obtain ⟨v', sh, a1, a2, a3, a4⟩ := h1 j d q
      exact ⟨v', sh, by rw [List.getElem?_set_ne (Ne.symm z)]; exact a1, by rw [List.getElem?_set_ne (Ne.symm z)]; exact a2, a3, a4⟩
end

/-! ### try: body, except C1 as e1: .., except C2: .. -/
/-- what the name's slot is behind the suite's start and end -/
def clrI (io : Option Nat) (ρ : Env) : Env := match io with
  | some i => ρ.set i none
  | none => ρ
/-- a clause: which classes it catches, its name's slot, its suite -/
structure Cl2 where
  tbl : Str → Option Bool
  io : Option Nat
  g : Env → R Fl
def endN (io : Option Nat) : R Fl → R Fl
  | .ok (.rt d) => .ok (.rt d)
  | .ok (.nx ρ) => .ok (.nx (clrI io ρ))
  | _ => .stuck
def goN : List Cl2 → Str → List (Str × D) → Env → R Fl
  | [], c, fs, ρ => .ok (.ex c fs ρ)
  | k :: r, c, fs, ρ => match k.tbl c with
    | some true => if fs = [] then endN k.io (k.g (clrI k.io ρ)) else .stuck
    | some false => goN r c fs ρ
    | none => .stuck
def sTryN (cl : List Cl2) (f : Env → R Fl) : Env → R Fl := fun ρ => match f ρ with
  | .ok (.ex c fs ρ') => if ρ'.length = ρ.length then goN cl c fs ρ' else .stuck
  | r => r
def xfl (fl : List Sh) (io : Option Nat) (a : Addr) : List Sh := match io with
  | some i => (List.replicate fl.length .s).set i (.x (.ref a) none)
  | none => List.replicate fl.length .s
section
variable {X : Cx} {L : LE} {J : Jn} {fl fl1 fl' : List Sh} {W : WX} {pos : Pos}
/-- the name is gone -/
theorem Rep.clr {F B H : Hp} {σ : L2.St} {ρ : Env} {fl fl' : List Sh} (r : Rep L fl F B σ H ρ) (i : Nat) (h : fl' = fl.set i .s) : Rep L fl' F B (σ.set i none) H (ρ.set i none) := by
  subst h
  refine ⟨r.bs, by rw [List.length_set, List.length_set]; exact r.ls, by rw [List.length_set, List.length_set]; exact r.lr, fun j u eo q => ?_, ?_⟩
  · by_cases z : j = i
    · subst z
      have hl : j < fl.length := by
        have := (List.getElem?_eq_some_iff.mp q).1
        rwa [List.length_set] at this
      rw [List.getElem?_set_self hl] at q
      cases q
    · rw [List.getElem?_set_ne (Ne.symm z)] at q ⊢
      exact r.px j u eo q
  · obtain ⟨Ss, h1, h2, h3, h4⟩ := r.sl
    refine ⟨Ss, fun j d q => ?_, h2, h3, h4⟩
    by_cases z : j = i
    · subst z
      have hl : j < ρ.length := by
        have := (List.getElem?_eq_some_iff.mp q).1
        rwa [List.length_set] at this
      rw [List.getElem?_set_self hl] at q
      cases q
    · rw [List.getElem?_set_ne (Ne.symm z)] at q
      obtain ⟨v', sh, a1, a2, a3, a4⟩ := h1 j d q
      exact ⟨v', sh, by rw [List.getElem?_set_ne (Ne.symm z)]; exact a1, by rw [List.getElem?_set_ne (Ne.symm z)]; exact a2, a3, a4⟩
/-- the clauses of a try whose body ends at fl' -/
inductive Cls2 (X : Cx) (L : LE) (J : Jn) (fl fl' : List Sh) : List ExceptHandler → List Cl2 → List Cl1 → Prop
  | nil : Cls2 X L J fl fl' [] [] []
  | cons {x : Str} {no : Option Str} {io : Option Nat} {tbl : Str → Option Bool} {g : Env → R Fl} {b0 : Stmt} {suite : List Stmt} {np p2 : Pos} {hs : List ExceptHandler} {cl : List Cl2} {l : List Cl1} {flE : Addr → List Sh}
      (hg : Gl X x) (hd : (x == ("__debug__" : Str)) = false) (hm : X.mg x = some (.ref (L.ca x))) (ht : ∀ c b, tbl c = some b → PySem.W.exmOne X.K (.ref (L.ca c)) (.ref (L.ca x)) = some b ∧ (b = true → c = x)) (hio : slotOk X no io)
      (hfl : ∀ a, (match io with | some i => (flE a).set i .s | none => flE a) = fl')
      (hsu : ∀ (a : Addr) (oe : Obj) (pn : List (Addr × Obj)), Zc (.ref (L.ca x)) none oe → (∃ vs, oe.data = .fields vs) → PSs (X.suite a ((a, oe) :: pn)) (b0 :: suite) (tS L J (xfl fl io a) (flE a) W0 g))
      (r : Cls2 X L J fl fl' hs cl l) :
      Cls2 X L J fl fl' (.ExceptHandler (some (.Name x np)) no (b0 :: suite) p2 :: hs) (⟨tbl, io, g⟩ :: cl)
        ((.ref (L.ca x), io, fun a k d D σ H => (k = .ref (L.ca x) ∧ d = none) ∧ tS L J (xfl fl io a) (flE a) W0 g D σ H) :: l)
theorem Cls2.to1 {hs : List ExceptHandler} {cl : List Cl2} {l : List Cl1} (h : Cls2 X L J fl fl' hs cl l) : Cls1 X hs l := by
  induction h with
  | nil => exact .nil
  | @cons x no io tbl g b0 suite np p2 hs cl l flE hg hd hm ht hio hfl hsu _ ih =>
    refine .cons ⟨hg, hd, .inl hm⟩ hio (fun a oe k d pn hz hv => ?_) ih
    by_cases hc : k = .ref (L.ca x) ∧ d = none
    · obtain ⟨rfl, rfl⟩ := hc
      exact (hsu a oe pn hz hv).imp fun D σ H h => h.2
    · exact ⟨fun pins s D σ H I h => (hc h.1).elim⟩
theorem Cls2.run {hs : List ExceptHandler} {cl : List Cl2} {l : List Cl1} (h : Cls2 X L J fl fl' hs cl l) {D : Ends} {F B F' H' : Hp} {c : Str} {fs : List (Str × PD.D)} {ρ' : Env} {σ' : L2.St} {d : Option Addr} {fl0 : List Sh} (hK : X.K = X.K)
    (r : Rep L fl0 F' B σ' H' ρ') (hl : fl0.length = fl.length) (s : Same F F') (er : ErrOk L c fs (.ref (L.ca c)) d F' H') (p : PostS L J fl' F B W D (goN cl c fs ρ')) : wN X.K W D l (.ref (L.ca c)) d σ' H' := by
  induction h with
  | nil => exact p (.ref (L.ca c)) d fl0 σ' F' H' s r er
  | @cons x no io tbl g b0 suite np p2 hs cl l flE hg hd hm ht hio hfl hsu _ ih =>
    unfold goN at p
    dsimp only at p
    cases qt : tbl c with
    | none => rw [qt] at p; exact p.elim
    | some b =>
      obtain ⟨t1, t2⟩ := ht c b qt
      rw [qt] at p
      cases b with
      | false => exact ⟨false, t1, fun z => (nomatch z), fun _ => ih p⟩
      | true =>
        refine ⟨true, t1, fun _ a ha => ?_, fun z => (nomatch z)⟩
        have ex := t2 rfl
        subst ex
        dsimp only at p
        by_cases hfs : fs = []
        · rw [if_pos hfs] at p
          subst hfs
          have ed : d = none := er.2
          subst ed
          refine ⟨⟨rfl, rfl⟩, ?_⟩
          obtain ⟨F2, s2, r2⟩ := r.frzAll
          rw [hl] at r2
          cases io with
          | none =>
            refine ⟨F2, B, _, r2, ?_⟩
            have hf : flE a = fl' := hfl a
            rw [hf]
            have p : PostS L J fl' F B W D (endN none (g ρ')) := p
            show PostS L J fl' F2 B W0 D (g ρ')
            cases qg : g ρ' with
            | ok z =>
              rw [qg] at p
              cases z with
              | rt d => exact PostS.weak (r := .ok (.rt d)) p (s.trans s2)
              | nx ρ2 => exact PostS.weak (r := .ok (.nx ρ2)) p (s.trans s2)
              | _ => exact p.elim
            | _ => rw [qg] at p; exact p.elim
          | some i =>
            have r3 := r2.setX i (.ref a) none (fun _ _ z => nomatch z)
            refine ⟨F2, B, _, r3, ?_⟩
            have hf : (flE a).set i .s = fl' := hfl a
            have p : PostS L J fl' F B W D (endN (some i) (g (ρ'.set i none))) := p
            show PostS L J (flE a) F2 B W0 _ (g (ρ'.set i none))
            cases qg : g (ρ'.set i none) with
            | ok z =>
              rw [qg] at p
              cases z with
              | rt d => exact PostS.weak (r := .ok (.rt d)) p (s.trans s2)
              | nx ρ2 =>
                have p := PostS.weak (r := .ok (.nx (ρ2.set i none))) p (s.trans s2)
                exact fun σ3 F3 H3 s3 r4 => p _ F3 H3 s3 (r4.clr i hf.symm)
              | _ => exact p.elim
            | _ => rw [qg] at p; exact p.elim
        · rw [if_neg hfs] at p; exact p.elim
theorem s_tryN {body : List Stmt} {h0 : ExceptHandler} {hs : List ExceptHandler} {cl : List Cl2} {l : List Cl1} {f : Env → R Fl} (hN : X.N.Nodup) (tk : Takes X W)
    (hb : ∀ (W2 : WX) (pn : List (Addr × Obj)) (xe : Value → Shared → Prop), Takes (X.tr pn xe) W2 → PassesOwn (model X.prog X.w) X.A X.env xe → PSs (X.tr pn xe) body (tS L J fl fl' W2 f))
    (hc : Cls2 X L J fl fl' (h0 :: hs) cl l) (hs1 : X.stack = X.env :: X.outer := by rfl) (hf1 : X.env.frame = some X.env.locals := by rfl) :
    PS X (.Try body (h0 :: hs) [] [] pos) (tS L J fl fl' W (sTryN cl f)) := by
  refine (ps_tryN hs1 hf1 hN tk hb hc.to1).imp fun D σ H ⟨F, B, ρ, r, p⟩ => ⟨F, B, ρ, r, ?_⟩
  unfold sTryN at p
  cases q : f ρ with
  | err c fs => rw [q] at p; exact p
  | stuck => rw [q] at p; exact p
  | ok z =>
    rw [q] at p
    cases z with
    | nx ρ' => exact p
    | rt d => exact p
    | bk ρ' => exact p
    | ct ρ' => exact p
    | ex c fs ρ' =>
      dsimp only at p
      intro cls d fl0 σ' F' H' s r' er
      by_cases hlr : ρ'.length = ρ.length
      · rw [if_pos hlr] at p
        have ec := er.1
        subst ec
        exact hc.run rfl r' (by rw [← r'.lr, hlr]; exact r.lr) s er p
      · rw [if_neg hlr] at p; exact p.elim

/-! isinstance(e, C) of the error that the suite holds -/
/-- what isinstance of an error of the class C asks -/
structure XE (K : PySem.W.Frag) (L : LE) (c : Str) : Prop where
  e : ExcC K (L.ca c)
/-- the class T stands at ca T; an error of the class c is one of T: b -/
structure XK (K : PySem.W.Frag) (mg : Str → Option Value) (L : LE) (c T : Str) (b : Bool) : Prop where
  g : mg T = some (.ref (L.ca T))
  k : PySem.W.kitOne K (.ref (L.ca c)) (.ref (L.ca T)) = some b
theorem e_isE (i : Nat) {a : Addr} {oe : Obj} {pn : List (Addr × Obj)} {c T n : Str} {b : Bool} {p p2 pn' : Pos} {bw : Bool} (xe : XE X.K L c) (xk : XK X.K X.mg L c T b) (hz : Zc (.ref (L.ca c)) none oe) (hv : ∃ vs, oe.data = .fields vs) (hm : X.mg "isinstance" = none)
    (hfl : fl[i]? = some (.x (.ref a) none) := by rfl) (hN : X.N[i]? = some n := by rfl) (hvi : Vis X.env.scope n := by first | exact Or.inl rfl | exact Or.inr (Or.inl rfl) | exact Or.inr (Or.inr rfl)) (hd : (n == ("__debug__" : Str)) = false := by decide) (hcd : (n == ("__classdict__" : Str)) = false := by decide)
    (hg : Gl X "isinstance" := by rfl) (hgT : Gl X T := by rfl) (hdb : (T == ("__debug__" : Str)) = false := by decide)
    (hse : starEach [.Name n pn', .Name T p2] X.env = (false, eval (.Name n pn') X.env) :: starEach [.Name T p2] X.env := by rfl) (hpl : (backTo pos (starEach [.Name T p2] X.env)).any (·.1) = false := by rfl) :
    PE (X.suite a ((a, oe) :: pn)) (.Call (.Name "isinstance" p) [.Name n pn', .Name T p2] [] pos) (tD L fl (.d bw) W (mC (.bl b))) :=
  (pe_callB (X := X.suite a ((a, oe) :: pn)) (call_isE xe.e hz hv) hg hm boot_isinstance (pa_cons (pv i hN hvi hd hcd) (pa_cons (pe_glob (v := .ref (L.ca T)) hgT xk.g rfl hdb) pa_nil) hse) (he := hse) (hpl := hpl)).imp fun σ H Q ⟨F, B, ρ, r, p⟩ =>
    ⟨.ref a, (r.px i _ _ hfl).1, .ref (L.ca T), .ref (L.ca T), b, rfl, fun u h => h, xk.k, postE_ok (d := .bl b) p r.refl .bl⟩
theorem e_isEb (i : Nat) {a : Addr} {oe : Obj} {pn : List (Addr × Obj)} {c TS n : Str} {T : String} {b : Bool} {p p2 pn' : Pos} {bw : Bool} (xe : XE X.K L c) (hT : X.mg TS = none) (hvT : bootBuiltins TS = some (.type T)) (xk : PySem.W.kitOne X.K (.ref (L.ca c)) (.type T) = some b) (hz : Zc (.ref (L.ca c)) none oe) (hv : ∃ vs, oe.data = .fields vs) (hm : X.mg "isinstance" = none)
    (hfl : fl[i]? = some (.x (.ref a) none) := by rfl) (hN : X.N[i]? = some n := by rfl) (hvi : Vis X.env.scope n := by first | exact Or.inl rfl | exact Or.inr (Or.inl rfl) | exact Or.inr (Or.inr rfl)) (hd : (n == ("__debug__" : Str)) = false := by decide) (hcd : (n == ("__classdict__" : Str)) = false := by decide)
    (hg : Gl X "isinstance" := by rfl) (hgT : Gl X TS := by rfl) (hn : TS ≠ "__name__" := by decide) (hdb : (TS == ("__debug__" : Str)) = false := by decide)
    (hse : starEach [.Name n pn', .Name TS p2] X.env = (false, eval (.Name n pn') X.env) :: starEach [.Name TS p2] X.env := by rfl) (hpl : (backTo pos (starEach [.Name TS p2] X.env)).any (·.1) = false := by rfl) :
    PE (X.suite a ((a, oe) :: pn)) (.Call (.Name "isinstance" p) [.Name n pn', .Name TS p2] [] pos) (tD L fl (.d bw) W (mC (.bl b))) :=
  (pe_callB (X := X.suite a ((a, oe) :: pn)) (call_isE xe.e hz hv) hg hm boot_isinstance (pa_cons (pv i hN hvi hd hcd) (pa_cons (pe_bltn (v := .ty T) hgT hT hvT rfl hn hdb) pa_nil) hse) (he := hse) (hpl := hpl)).imp fun σ H Q ⟨F, B, ρ, r, p⟩ =>
    ⟨.ref a, (r.px i _ _ hfl).1, .ty T, .type T, b, rfl, fun u h => h, xk, postE_ok (d := .bl b) p r.refl .bl⟩
/-! with a tuple of own classes -/
theorem call_isET {a C : Addr} {oe : Obj} {pn : List (Addr × Obj)} (E : ExcC X.K C) (hz : Zc (.ref C) none oe) (hf : ∃ vs, oe.data = .fields vs) : CallR (X.suite a ((a, oe) :: pn)) (.builtin "isinstance")
    (fun xs H Q => ∃ (tp : Addr) (cs : List Addr) (b : Bool), xs = [.ref a, .ref tp] ∧ H tp = some (.tup (cs.map V.ref)) ∧ PySem.W.kitAny X.K (.ref C) (cs.map Value.ref) = some b ∧ Q (.bl b) H) := by
  intro pins s σ H xs us Q I r h
  obtain ⟨tp, cs, b, rfl, hT, e, q⟩ := h
  obtain ⟨u1, u2, rfl, r1, r2⟩ := vals2 r
  cases (show u2 = Value.ref tp from r2)
  cases (show u1 = Value.ref a from r1)
  obtain ⟨hget, _⟩ := I.pin (a, oe) (List.mem_append.mpr (.inl List.mem_cons_self))
  obtain ⟨vs, hv⟩ := hf
  have J : PySem.W.InstAt s.heap a oe C none := by
    obtain ⟨oc, od, oda, osl⟩ := oe
    obtain ⟨h1, h2⟩ := hz
    dsimp only at h1 h2 hv
    subst h1 h2 hv
    exact ⟨hget, rfl, rfl, trivial⟩
  obtain ⟨_, its, rv, o, h1, h2, n, h3⟩ := (show ObjOk X.prog X.w H s.heap tp (.tup (cs.map V.ref)) from I.hok tp _ hT)
  have key : ∀ (cs : List Addr) (its : List Value), Paired RelV (cs.map V.ref) its → its = cs.map Value.ref := by
    intro cs
    induction cs with
    | nil => intro its h; cases h; rfl
    | cons c cs ih =>
      intro its h
      cases h with
      | cons h1 h2 =>
        rw [List.map_cons, ih _ h2]
        congr 1
  have e3 := key cs _ rv
  subst e3
  obtain ⟨oc, od, dt, sl⟩ := o
  simp only at h2 h3
  subst h2 h3
  exact PySem.W.kia_tup (PySem.W.handS_kitx_exc E.hg E.hk E.hs E.hd E.ha E.hn E.ht E.hm) I.kIn J h1 e (fun z => nomatch z) fun tk => ⟨.bl b, H, I.kept (t' := tk) fun _ _ z => z, rfl, q⟩
/-- own classes named in a row -/
inductive Clss (X : Cx) (L : LE) : List Expr → List Addr → Prop
  | nil : Clss X L [] []
  | cons {T : Str} {p : Pos} {es : List Expr} {cs : List Addr} : X.mg T = some (.ref (L.ca T)) → Gl X T → (T == ("__debug__" : Str)) = false → Clss X L es cs → (starEach (.Name T p :: es) X.env = (false, eval (.Name T p) X.env) :: starEach es X.env) → Clss X L (.Name T p :: es) (L.ca T :: cs)
theorem pa_clss {es : List Expr} {cs : List Addr} (h : Clss X L es cs) : PA X es (fun σ H Q => Q (cs.map V.ref) H) := by
  induction h with
  | nil => exact pa_nil.imp fun σ H Q h => h
  | cons h1 h2 h3 _ h5 ih => exact (pa_cons (pe_glob (v := .ref (L.ca _)) h2 h1 rfl h3) ih h5).imp fun σ H Q h => h
theorem e_isET (i : Nat) {a : Addr} {oe : Obj} {pn : List (Addr × Obj)} {c n : Str} {b : Bool} {p pn' tpos : Pos} {bw : Bool} {es : List Expr} {kk : Nat} {cs : List Addr} (xe : XE X.K L c) (hc : Clss (X.suite a ((a, oe) :: pn)) L es cs) (xk : PySem.W.kitAny X.K (.ref (L.ca c)) (cs.map Value.ref) = some b) (hlen : cs.length ≤ 100) (hz : Zc (.ref (L.ca c)) none oe) (hv : ∃ vs, oe.data = .fields vs) (hm : X.mg "isinstance" = none)
    (hfl : fl[i]? = some (.x (.ref a) none) := by rfl) (hN : X.N[i]? = some n := by rfl) (hvi : Vis X.env.scope n := by first | exact Or.inl rfl | exact Or.inr (Or.inl rfl) | exact Or.inr (Or.inr rfl)) (hd : (n == ("__debug__" : Str)) = false := by decide) (hcd : (n == ("__classdict__" : Str)) = false := by decide)
    (hg : Gl X "isinstance" := by rfl)
    (hse : starEach [.Name n pn', .Tuple es kk tpos] X.env = (false, eval (.Name n pn') X.env) :: starEach [.Tuple es kk tpos] X.env := by rfl) (hse2 : starEach [.Tuple es kk tpos] X.env = (false, eval (.Tuple es kk tpos) X.env) :: starEach [] X.env := by rfl) (hpl : (backTo pos (starEach [.Tuple es kk tpos] X.env)).any (·.1) = false := by rfl) :
    PE (X.suite a ((a, oe) :: pn)) (.Call (.Name "isinstance" p) [.Name n pn', .Tuple es kk tpos] [] pos) (tD L fl (.d bw) W (mC (.bl b))) :=
  (pe_callB (X := X.suite a ((a, oe) :: pn)) (call_isET xe.e hz hv) hg hm boot_isinstance (pa_cons (pv i hN hvi hd hcd) (pa_cons (pe_tup (pa_clss hc)) pa_nil hse2) hse) (he := hse) (hpl := hpl)).imp fun σ H Q ⟨F, B, ρ, r, p⟩ =>
    ⟨.ref a, (r.px i _ _ hfl).1, by rw [List.length_map]; exact le_line (by have : LN = 1000000 := rfl; omega), fun tp htp => ⟨tp, cs, b, rfl, upd_same, xk, postE_ok (d := .bl b) p (Ext.newH (T := L.T) r.bs.fh r.bs.nf htp) .bl⟩⟩
end
end PD
set_option Elab.async false
set_option linter.all false
set_option maxRecDepth 100000
set_option maxHeartbeats 2000000
namespace PD
open PySem PySem.Spec PyProof.Rows L2

/-! ### list(range(..)), xs[::-1] -/
def dListR1 : D → Option D
  | .int j => if -LR ≤ j ∧ j ≤ 1000000 then some (.lst (rngL 0 j.toNat)) else none
  | _ => none
def dListR2 : D → D → Option D
  | .int i, .int j => if (-LR ≤ i ∧ i ≤ LR) ∧ (-LR ≤ j ∧ j ≤ LR) ∧ (j - i).toNat ≤ 1000000 then some (.lst (rngL i (j - i).toNat)) else none
  | _, _ => none
def dRevL : D → Option D
  | .lst xs => some (.lst xs.reverse)
  | _ => none
theorem dat_rng {K : PySem.W.Frag} {F : Hp} {i j : Int} : DatL K F (rgV i j) (rngL i (j - i).toNat) := by
  unfold rgV rngL
  induction (List.range (j - i).toNat) with
  | nil => exact .nil
  | cons a l ih => exact .cons .int ih
theorem DatL.snoc {K : PySem.W.Frag} {F : Hp} {v : V} {d : D} : ∀ {vs : List V} {ds : List D}, DatL K F vs ds → Dat K F v d → DatL K F (vs ++ [v]) (ds ++ [d])
  | _, _, .nil, h => .cons h .nil
  | _, _, .cons a r, h => .cons a (DatL.snoc r h)
theorem DatL.revD {K : PySem.W.Frag} {F : Hp} : ∀ {vs : List V} {ds : List D}, DatL K F vs ds → DatL K F vs.reverse ds.reverse
  | _, _, .nil => .nil
  | _, _, .cons a r => by rw [List.reverse_cons, List.reverse_cons]; exact DatL.snoc (DatL.revD r) a
section
variable {X : Cx} {L : LE} {J : Jn} {fl fl1 fl' : List Sh} {W : WX} {pos : Pos}
/-- a new list of shared items -/
theorem newL {F H : Hp} {σ : L2.St} {Q : VK} {ds : List D} {vs : List V} {a : Addr} (b : Same F H) (n : NoT F) (p : PostE L F H (.l .s) (.ok (.lst ds)) W σ Q) (d : DatL L.K F vs ds) (hp : H a = none) : Q (.ref a) (upd H a (.lst vs)) := by
  refine p _ F _ [a] (Ext.newH (T := L.T) b n hp) (.l upd_same (OwnL.ofDat d)) (by simp) fun c m => ?_
  have e : c = a := by simpa using m
  subst e
  exact ⟨b.free hp, .of hp⟩
theorem e_listR1 {e : Expr} {f : Env → R D} {p rp : Pos} (hl : X.mg "list" = none) (hr : X.mg "range" = none) (he : PE X e (tD L fl .b W f)) (hc : X.calm = true := by rfl) (hg : Gl X "list" := by rfl) (hg2 : Gl X "range" := by rfl)
    (na : starEach [.Call (.Name "range" rp) [e] [] pos] X.env = (false, eval (.Call (.Name "range" rp) [e] [] pos) X.env) :: starEach [] X.env := by rfl) (na2 : starEach [e] X.env = (false, eval e X.env) :: starEach [] X.env := by rfl) {pos2 : Pos} :
    PE X (.Call (.Name "list" p) [.Call (.Name "range" rp) [e] [] pos] [] pos2) (tD L fl (.l .s) W (m1 dListR1 f)) :=
  (pe_listRg hc hg hl (prg_1 hg2 hr he na2) na).imp fun σ H Q ⟨F, B, ρ, r, p⟩ => by
    refine tD_bind rfl r (k := fun d => oR (dListR1 d)) p fun d v F1 H1 S1 _ e1 r1 o1 _ _ p1 => ?_
    have dv : Dat L.K H1 v d := (own_d o1).1
    have p2 := p1.weak e1
    cases d with
    | int j =>
      cases dv
      have q : oR (dListR1 (.int j)) = if -LR ≤ j ∧ j ≤ 1000000 then .ok (.lst (rngL 0 j.toNat)) else .stuck := by
        show oR (if _ then _ else _) = _
        split <;> rfl
      rw [q] at p2
      have e9 : LR = 1000000000 := rfl
      by_cases h : -LR ≤ j ∧ j ≤ 1000000
      · rw [if_pos h] at p2
        refine ⟨j, rfl, ⟨by omega, by omega, by omega, by omega, by omega⟩, fun a ha => ?_⟩
        refine newL r1.bs.fh r1.bs.nf p2 ?_ ha
        have := dat_rng (K := L.K) (F := F1) (i := 0) (j := j)
        rw [Int.sub_zero] at this
        exact this
      · rw [if_neg h] at p2; exact p2.elim
    | _ => exact p2.elim
theorem e_listR2 {a b : Expr} {f g : Env → R D} {p rp : Pos} (hl : X.mg "list" = none) (hr : X.mg "range" = none) (ha : PE X a (tD L fl .b W f)) (hb : PE X b (tD L fl .b W g)) (hc : X.calm = true := by rfl) (hg : Gl X "list" := by rfl) (hg2 : Gl X "range" := by rfl)
    (na : starEach [.Call (.Name "range" rp) [a, b] [] pos] X.env = (false, eval (.Call (.Name "range" rp) [a, b] [] pos) X.env) :: starEach [] X.env := by rfl) (na2 : starEach [a, b] X.env = (false, eval a X.env) :: starEach [b] X.env := by rfl) (nb : starEach [b] X.env = (false, eval b X.env) :: starEach [] X.env := by rfl) (hp : (backTo pos (starEach [b] X.env)).any (·.1) = false := by rfl) {pos2 : Pos} :
    PE X (.Call (.Name "list" p) [.Call (.Name "range" rp) [a, b] [] pos] [] pos2) (tD L fl (.l .s) W (m2 dListR2 f g)) :=
  (pe_listRg hc hg hl (prg_2 hg2 hr ha hb na2 nb hp) na).imp fun σ H Q ⟨F, B, ρ, r, p⟩ => by
    refine tD_bind rfl r (k := fun x => g ρ >>= fun y => oR (dListR2 x y)) p fun d v F1 H1 S1 _ e1 r1 o1 _ _ p1 => ?_
    have dv : Dat L.K H1 v d := (own_d o1).1
    refine tD_bind rfl r1 (k := fun y => oR (dListR2 d y)) (p1.weak e1) fun d2 v2 F2 H2 S2 _ e2 r2 o2 _ _ p2 => ?_
    have dv2 : Dat L.K H2 v2 d2 := (own_d o2).1
    have p3 := p2.weak e2
    cases d with
    | int i =>
      cases d2 with
      | int j =>
        cases dv; cases dv2
        have q : oR (dListR2 (.int i) (.int j)) = if (-LR ≤ i ∧ i ≤ LR) ∧ (-LR ≤ j ∧ j ≤ LR) ∧ (j - i).toNat ≤ 1000000 then .ok (.lst (rngL i (j - i).toNat)) else .stuck := by
          show oR (if _ then _ else _) = _
          split <;> rfl
        rw [q] at p3
        have e9 : LR = 1000000000 := rfl
        by_cases h : (-LR ≤ i ∧ i ≤ LR) ∧ (-LR ≤ j ∧ j ≤ LR) ∧ (j - i).toNat ≤ 1000000
        · rw [if_pos h] at p3
          refine ⟨i, j, rfl, rfl, ⟨by omega, by omega, by omega, by omega, by omega⟩, fun a ha => ?_⟩
          exact newL r2.bs.fh r2.bs.nf p3 dat_rng ha
        · rw [if_neg h] at p3; exact p3.elim
      | _ => exact p3.elim
    | _ => exact p3.elim
theorem e_rev {e : Expr} {f : Env → R D} {k : Nat} {p1 p2 p3 : Pos} (he : PE X e (tD L fl .s W f)) (hK : X.K = L.K := by rfl) : PE X (.Subscript e (.Slice none none (some (.UnaryOp .USub (.Constant (.int 1) k p1) p2)) p3) pos) (tD L fl (.l .s) W (m1 dRevL f)) :=
  (pe_revL he).imp fun σ H Q ⟨F, B, ρ, r, p⟩ => by
    refine tD_bind rfl r (k := fun d => oR (dRevL d)) p fun d v F1 H1 S1 _ e1 r1 o1 _ _ p1 => ?_
    have dv := (own_d o1).1
    have p2 := p1.weak e1
    cases d with
    | lst xs =>
      obtain ⟨a, vs, rfl, h1, h2⟩ := dat_sq dv
      exact ⟨a, vs, rfl, by rw [hK]; exact SqL.of (r1.bs.fh _ _ h1), fun c hc => newL r1.bs.fh r1.bs.nf p2 h2.rev hc⟩
    | _ => exact p2.elim

/-! ### owned tuples of atoms and lists -/
/-- an atom, as a thing of its own -/
theorem e_toN {e : Expr} {f : Env → R D} (h : PE X e (tD L fl .s W f)) : PE X e (tD L fl .n W (mAt f)) :=
  h.imp fun σ H Q ⟨F, B, ρ, r, p⟩ => ⟨F, B, ρ, r, by
    unfold mAt at p
    cases q : f ρ with
    | ok d =>
      rw [q, bind_ok] at p
      by_cases a : isAtom d = true
      · rw [if_pos a] at p
        exact fun v F' H' S e o nd fr => p v F' H' [] e (.na a (own_d o).1) List.nodup_nil (fun a m => nomatch m)
      · rw [if_neg a] at p; exact p.elim
    | err c fs => rw [q, bind_err] at p; exact p
    | stuck => rw [q, bind_stuck] at p; exact p⟩
theorem ownN_of {K : PySem.W.Frag} {F H : Hp} : ∀ {vs : List V} {ds : List D}, DatL K F vs ds → allAt ds = true → OwnL K F H .n vs ds []
  | _, _, .nil, _ => .nil
  | _, _, .cons h r, a => by
    unfold allAt at a
    rw [List.all_cons, Bool.and_eq_true] at a
    exact OwnL.cons (S := []) (S' := []) (.na a.1 h) (ownN_of r a.2)
theorem ownN_to {K : PySem.W.Frag} {F H : Hp} : ∀ {vs : List V} {ds : List D} {S : List Addr}, OwnL K F H .n vs ds S → allAt ds = true → DatL K F vs ds ∧ S = []
  | _, _, _, .nil, _ => ⟨.nil, rfl⟩
  | _, _, _, .cons h r, a => by
    unfold allAt at a
    rw [List.all_cons, Bool.and_eq_true] at a
    obtain ⟨r1, r2⟩ := ownN_to r a.2
    cases h with
    | na _ h => exact ⟨.cons h r1, by rw [r2]; rfl⟩
    | nl _ _ => cases a.1
    | nt _ _ => cases a.1
/-- an own list of atoms -/
def mAtL (f : Env → R D) : Env → R D := fun ρ => f ρ >>= fun d => match d with
  | .lst xs => if allAt xs = true then .ok (.lst xs) else .stuck
  | _ => .stuck
theorem e_lToN {e : Expr} {f : Env → R D} (h : PE X e (tD L fl (.l .s) W f)) : PE X e (tD L fl .n W (mAtL f)) :=
  h.imp fun σ H Q ⟨F, B, ρ, r, p⟩ => ⟨F, B, ρ, r, by
    unfold mAtL at p
    cases q : f ρ with
    | ok d =>
      rw [q, bind_ok] at p
      cases d with
      | lst xs =>
        dsimp only at p
        by_cases a : allAt xs = true
        · rw [if_pos a] at p
          intro v F' H' S e o nd fr
          cases o with
          | l hp ho =>
            obtain ⟨dv, eS⟩ := ho.datS
            subst eS
            exact p _ F' H' _ e (.nl hp (ownN_of dv a)) nd fr
        · rw [if_neg a] at p; exact p.elim
      | _ => exact p.elim
    | err c fs => rw [q, bind_err] at p; exact p
    | stuck => rw [q, bind_stuck] at p; exact p⟩
/-- expressions in a row, what they own -/
def PostN (L : LE) (F H : Hp) (r : R (List D)) (W : WX) (σ : L2.St) (Q : List V → Hp → Prop) : Prop := match r with
  | .ok ds => ∀ vs F' H' S, Ext L.T F H F' H' → OwnL L.K F' H' .n vs ds S → S.Nodup → (∀ a ∈ S, F' a = none ∧ Nw H a) → Q vs H'
  | .err c fs => ∀ cls d F' H', Ext L.T F H F' H' → ErrOk L c fs cls d F' H' → W cls d σ H'
  | .stuck => False
def tN (L : LE) (fl : List Sh) (W : WX) (f : Env → R (List D)) : TA := fun σ H Q => ∃ F B ρ, Rep L fl F B σ H ρ ∧ PostN L F H (f ρ) W σ Q
theorem n_nil : PA X [] (tN L fl W mNil) := pa_nil.imp fun σ H Q ⟨F, B, ρ, r, p⟩ => p [] F H [] r.refl .nil List.nodup_nil (fun a m => nomatch m)
theorem n_cons {e : Expr} {es : List Expr} {f : Env → R D} {fs : Env → R (List D)} (he : PE X e (tD L fl .n W f)) (hr : PA X es (tN L fl W fs)) (hs : starEach (e :: es) X.env = (false, eval e X.env) :: starEach es X.env := by rfl) :
    PA X (e :: es) (tN L fl W (mCons f fs)) :=
  (pa_cons he hr hs).imp fun σ H Q ⟨F, B, ρ, r, p⟩ => ⟨F, B, ρ, r, by
    unfold mCons at p
    cases q : f ρ with
    | ok d =>
      rw [q, bind_ok] at p
      intro v F1 H1 S1 e1 o1 nd1 fr1
      refine ⟨F1, B, ρ, r.ext e1, ?_⟩
      cases q2 : fs ρ with
      | ok ds =>
        rw [q2, bind_ok] at p
        intro vs F2 H2 S2 e2 o2 nd2 fr2
        refine p (v :: vs) F2 H2 (S1 ++ S2) (e1.trans e2) (.cons (o1.mono e2.ff.sm e2.hh) o2) ?_ fun a m => ?_
        · refine List.nodup_append.mpr ⟨nd1, nd2, fun a m1 b m2 z => ?_⟩
          subst z
          obtain ⟨o, h1, h2⟩ := o1.there a m1
          exact (fr2 a m2).2.no h1 h2
        · rcases List.mem_append.mp m with m | m
          · obtain ⟨o, h1, h2⟩ := o1.there a m
            exact ⟨e2.hid a o h1 h2 (fr1 a m).1, (fr1 a m).2⟩
          · exact ⟨(fr2 a m).1, (fr2 a m).2.back e1.hh⟩
      | err c fs' =>
        rw [q2, bind_err] at p
        exact fun cls d F2 H2 e2 x => p cls d F2 H2 (e1.trans e2) x
      | stuck => rw [q2, bind_stuck] at p; exact p.elim
    | err c fs' => rw [q, bind_err] at p; exact p
    | stuck => rw [q, bind_stuck] at p; exact p.elim⟩
theorem e_tupN {es : List Expr} {x1 : Nat} {fs : Env → R (List D)} (h : PA X es (tN L fl W fs)) : PE X (.Tuple es x1 pos) (tD L fl .n W (mN dTup fs)) :=
  (pe_tup h).imp fun σ H Q ⟨F, B, ρ, r, p⟩ => ⟨F, B, ρ, r, by
    unfold mN at p
    cases q : fs ρ with
    | ok ds =>
      rw [q, bind_ok] at p
      intro vs F1 H1 S1 e1 o1 nd1 fr1
      have hl := o1.length
      by_cases hn : ds.length ≤ LN
      · have q2 : dTup ds = some (.tup ds) := if_pos hn
        rw [q2] at p
        refine ⟨le_line (by omega), fun a ha => ?_⟩
        have e2 := Ext.newH (T := L.T) (o := .tup vs) e1.fh e1.nt ha
        refine p _ F1 _ (a :: S1) (e1.trans e2) (.nt upd_same (o1.mono e2.ff.sm e2.hh)) (List.nodup_cons.mpr ⟨fun m => ?_, nd1⟩) fun b m => ?_
        · obtain ⟨o, h1, _⟩ := o1.there a m
          rw [ha] at h1; cases h1
        · rcases List.mem_cons.mp m with z | m
          · subst z
            exact ⟨e1.fh.free ha, Nw.back (.of ha) e1.hh⟩
          · exact fr1 b m
      · have q2 : dTup ds = none := if_neg hn
        rw [q2] at p
        exact p.elim
    | err c fs' => rw [q, bind_err] at p; exact p
    | stuck => rw [q, bind_stuck] at p; exact p.elim⟩
theorem OwnL.getN {K : PySem.W.Frag} {F H : Hp} : ∀ {vs : List V} {ds : List D} {S : List Addr} {k : Nat} {d : D}, OwnL K F H .n vs ds S → ds[k]? = some d → ∃ v S', vs[k]? = some v ∧ Own K F H .n v d S' ∧ ∀ a ∈ S', a ∈ S
  | _, _, _, 0, _, .cons h r, e => by
    cases e
    exact ⟨_, _, rfl, h, fun a m => List.mem_append_left _ m⟩
  | _, _, _, k + 1, _, .cons h r, e => by
    rw [List.getElem?_cons_succ] at e
    obtain ⟨v, S', a1, a2, a3⟩ := OwnL.getN r e
    exact ⟨v, S', by rw [List.getElem?_cons_succ]; exact a1, a2, fun a m => List.mem_append_right _ (a3 a m)⟩
  | _, _, _, _, _, .nil, e => by cases e
/-! y = x[k]: the own list in x's tuple becomes y's, and x is given up -/
def sTake (j i k : Nat) : Env → R Fl := fun ρ => match ρ[i]? with
  | some (some (.tup ds)) => match ds[k]? with
    | some (.lst xs) => if allAt xs = true then .ok (.nx ((ρ.set i none).set j (some (.lst xs)))) else .stuck
    | _ => .stuck
  | _ => .stuck
theorem s_take (j i k : Nat) {x y : Str} {xp yp p2 p3 : Pos} {kk : Nat} (hN : X.N.Nodup) (hij : j ≠ i) (hK : X.K = L.K := by rfl) (hs : fl[i]? = some .n := by rfl) (hf' : fl.set j (.l .s) = fl1 := by rfl) (hNi : X.N[i]? = some x := by rfl) (hNj : X.N[j]? = some y := by rfl) (hx : Loc X.env.scope y := by first | exact Or.inl rfl | exact Or.inr rfl) (hv : Vis X.env.scope x := by first | exact Or.inl rfl | exact Or.inr (Or.inl rfl) | exact Or.inr (Or.inr rfl)) (hd : (x == ("__debug__" : Str)) = false := by decide)
    (hcd : (x == ("__classdict__" : Str)) = false := by decide) (hpi : PlainIx (.Constant (.int (k : Nat)) kk p2) := by exact fun _ _ => rfl)
    (hsw : swapsWith (.Subscript (.Name x xp) (.Constant (.int (k : Nat)) kk p2) p3) (some (.Name y yp)) pos.line X.env = pure false := by rfl) (hf : X.fn y = true ∨ X.env.scope.names.lookup y = some .local := by first | exact .inl rfl | exact .inr rfl | assumption) :
    PS X (.Assign [.Name y yp] (.Subscript (.Name x xp) (.Constant (.int (k : Nat)) kk p2) p3) pos) (tS L J fl fl1 W (sTake j i k)) :=
  (ps_set hN hNj hx (pe_ix ix_seq (pv i hNi hv hd hcd) pe_int hpi) hsw hf).imp fun D σ H ⟨F, B, ρ, r, p⟩ => by
    unfold sTake at p
    split at p
    · rename_i ds q
      split at p
      · rename_i xs qk
        by_cases ha : allAt xs = true
        · rw [if_pos ha] at p
          obtain ⟨Ss, h1, h2, h3, h4⟩ := r.sl
          obtain ⟨v, sh, a1, a2, a3, a4⟩ := h1 i _ q
          rw [hs] at a2
          cases a2
          have n2 := fun j a => h2 i j a
          have n4 := h4 i
          generalize hS : Ss i = S0 at a4 n2 n4
          cases a4 with
          | na z _ => cases z
          | nt hp ho =>
            rename_i pp vs S
            obtain ⟨w, S', e1, e2, e3⟩ := ho.getN qk
            cases e2 with
            | na z _ => cases z
            | nl hq hqo =>
              rename_i qq us S2
              obtain ⟨du, eS⟩ := ownN_to hqo ha
              subst eS
              have hkl : k < vs.length := (List.getElem?_eq_some_iff.mp e1).1
              have qin : qq ∈ pp :: S := List.mem_cons_of_mem _ (e3 qq List.mem_cons_self)
              refine ⟨.ref pp, a1, .inr (.inl ⟨pp, vs, _, .ref qq, rfl, rfl, by rw [hK]; exact SqT.of hp, ?_, ?_⟩)⟩
              · unfold atI
                have : ixN vs.length ((k : Nat) : Int) = some k := by
                  unfold ixN
                  rw [if_pos (by omega), if_pos (by omega)]
                  simp
                rw [this]; exact e1
              · subst hf'
                refine p _ F H (.refl _) ⟨r.bs, by rw [List.length_set, List.length_set]; exact r.ls, by rw [List.length_set, List.length_set, List.length_set]; exact r.lr, fun m u eo qq' => ?_, ?_⟩
                · by_cases z : m = j
                  · subst z
                    have hl : m < fl.length := by
                      have := (List.getElem?_eq_some_iff.mp qq').1
                      rwa [List.length_set] at this
                    rw [List.getElem?_set_self hl] at qq'
                    cases qq'
                  · rw [List.getElem?_set_ne (Ne.symm z)] at qq' ⊢
                    exact r.px m u eo qq'
                · refine ⟨fput (fput Ss i []) j [qq], fun m d q3 => ?_, fun m1 m2 a z1 z2 => ?_, fun m => ?_, fun m a z => ?_⟩
                  · by_cases zj : m = j
                    · subst zj
                      have hl : m < (ρ.set i none).length := by
                        have := (List.getElem?_eq_some_iff.mp q3).1
                        rwa [List.length_set] at this
                      rw [List.getElem?_set_self hl] at q3
                      cases q3
                      rw [fput_eq rfl]
                      rw [List.length_set] at hl
                      exact ⟨.ref qq, .l .s, List.getElem?_set_self (by rw [r.ls, ← r.lr]; exact hl), List.getElem?_set_self (by rw [← r.lr]; exact hl), rfl, .l hq (OwnL.ofDat du)⟩
                    · rw [List.getElem?_set_ne (Ne.symm zj)] at q3
                      by_cases zi : m = i
                      · subst zi
                        have hl : m < ρ.length := by
                          have := (List.getElem?_eq_some_iff.mp q3).1
                          rwa [List.length_set] at this
                        rw [List.getElem?_set_self hl] at q3
                        cases q3
                      · rw [List.getElem?_set_ne (Ne.symm zi)] at q3
                        obtain ⟨v', sh', b1, b2, b3, b4⟩ := h1 m d q3
                        rw [fput_ne zj, fput_ne zi]
                        exact ⟨v', sh', by rw [List.getElem?_set_ne (Ne.symm zj)]; exact b1, by rw [List.getElem?_set_ne (Ne.symm zj)]; exact b2, b3, b4⟩
                  · have key : ∀ m, m ≠ j → a ∈ fput (fput Ss i []) j [qq] m → a ∈ Ss m ∧ m ≠ i := fun m zj z => by
                      rw [fput_ne zj] at z
                      by_cases zi : m = i
                      · rw [fput_eq zi] at z; cases z
                      · rw [fput_ne zi] at z; exact ⟨z, zi⟩
                    by_cases y1 : m1 = j <;> by_cases y2 : m2 = j
                    · rw [y1, y2]
                    · rw [fput_eq y1] at z1
                      have : a = qq := by simpa using z1
                      subst this
                      obtain ⟨k1, k2⟩ := key m2 y2 z2
                      exact (k2 (n2 m2 a qin k1).symm).elim
                    · rw [fput_eq y2] at z2
                      have : a = qq := by simpa using z2
                      subst this
                      obtain ⟨k1, k2⟩ := key m1 y1 z1
                      exact (k2 (n2 m1 a qin k1).symm).elim
                    · exact h2 m1 m2 a (key m1 y1 z1).1 (key m2 y2 z2).1
                  · by_cases zj : m = j
                    · rw [fput_eq zj]; simp
                    · rw [fput_ne zj]
                      by_cases zi : m = i
                      · rw [fput_eq zi]; exact List.nodup_nil
                      · rw [fput_ne zi]; exact h3 m
                  · by_cases zj : m = j
                    · rw [fput_eq zj] at z
                      have : a = qq := by simpa using z
                      subst this
                      exact n4 a qin
                    · rw [fput_ne zj] at z
                      by_cases zi : m = i
                      · rw [fput_eq zi] at z; cases z
                      · rw [fput_ne zi] at z; exact h4 m a z
        · rw [if_neg ha] at p; exact p.elim
      · exact p.elim
    · exact p.elim
end
theorem boot_ValueError : bootBuiltins "ValueError" = some (.type "ValueError") := by decide +kernel
theorem boot_Exception : bootBuiltins "Exception" = some (.type "Exception") := by decide +kernel
/-! ### the classes that a try knows -/
/-- the class x is caught, those of l are let through -/
def tblL (x : Str) (l : List Str) : Str → Option Bool := fun c => if c = x then some true else if c ∈ l then some false else none
theorem tblL_ok {K : PySem.W.Frag} {L : LE} {x : Str} {l : List Str} (e : PySem.W.exmOne K (.ref (L.ca x)) (.ref (L.ca x)) = some true) (n : ∀ c ∈ l, PySem.W.exmOne K (.ref (L.ca c)) (.ref (L.ca x)) = some false) :
    ∀ c b, tblL x l c = some b → PySem.W.exmOne K (.ref (L.ca c)) (.ref (L.ca x)) = some b ∧ (b = true → c = x) := fun c b h => by
  unfold tblL at h
  by_cases z : c = x
  · rw [if_pos z] at h; cases h; subst z; exact ⟨e, fun _ => rfl⟩
  · rw [if_neg z] at h
    by_cases m : c ∈ l
    · rw [if_pos m] at h; cases h; exact ⟨n c m, fun q => (nomatch q)⟩
    · rw [if_neg m] at h; cases h
/-- a class that is caught -/
structure XH (K : PySem.W.Frag) (mg : Str → Option Value) (L : LE) (c : Str) : Prop where
  m : mg c = some (.ref (L.ca c))
  x : PySem.W.exmOne K (.ref (L.ca c)) (.ref (L.ca c)) = some true
  e : XE K L c
theorem xh_mk {K : PySem.W.Frag} {mg : Str → Option Value} {ca : Str → Addr} {T : List Addr} {c : Str} {x : Addr} (e : ca c = x) (g : mg c = some (.ref x)) (q : PySem.W.exmOne K (.ref x) (.ref x) = some true) (z : ExcC K x) : XH K mg ⟨K, ca, T⟩ c := by
  subst e
  exact ⟨g, q, ⟨z⟩⟩
theorem xk_mk {K : PySem.W.Frag} {mg : Str → Option Value} {ca : Str → Addr} {T : List Addr} {c d : Str} {x y : Addr} {b : Bool} (e : ca c = x) (e2 : ca d = y) (g : mg d = some (.ref y)) (q : PySem.W.kitOne K (.ref x) (.ref y) = some b) : XK K mg ⟨K, ca, T⟩ c d b := by
  subst e e2
  exact ⟨g, q⟩
theorem kb_mk {K : PySem.W.Frag} {ca : Str → Addr} {c : Str} {x : Addr} {v : Value} {b : Bool} (e : ca c = x) (q : PySem.W.kitOne K (.ref x) v = some b) : PySem.W.kitOne K (.ref (ca c)) v = some b := by
  subst e
  exact q
end PD
set_option Elab.async false
set_option linter.all false
set_option maxRecDepth 100000
set_option maxHeartbeats 4000000
namespace PD
open PySem PySem.Spec PyProof.Rows L2

/-! ### sets of texts and ints -/
section
variable {X : Cx}
/-- what a comprehension over a walk must grant, where the new set of keys stands at A -/
def tSk (P : Program) (w : World) (wi : TI) (g : TG) (tt : TT) (te : TE) (vs : List Nat) : TE := fun σ H Q => wi σ H fun Jt H1 =>
  ∀ A, H1 A = none → ∃ V : Nat → Nat → Hp → Prop, (∃ m, V 0 m (upd H1 A (SetK P w A (fun _ => false) 0))) ∧
    ∀ i m G, V i m G → (Jt.stop i G ∧ Q (.ref A) G) ∨ (Jt.go i G ∧ ∃ Nx : Hp → Prop, (∀ G', Nx G' → ∃ m', m' < m ∧ V (i + 1) m' G') ∧
      ∀ x G', Jt.yld i G x G' → g x (wipe σ vs) G' fun σ2 G2 => wipe σ2 vs = wipe σ vs ∧ tt σ2 G2 fun b G3 =>
        if b = true then te σ2 G3 fun y G4 => ∃ (k : Key) (S : Key → Bool) (n : Nat), y = kV k ∧ G4 A = some (SetK P w A S n) ∧ n + 1 < scanBound ∧ Nx (upd G4 A (SetK P w A (fun j => S j || decide (j = k)) (if S k = true then n else n + 1)))
        else Nx G3)
/-- a key goes into the set -/
theorem put_key {pins : List (Addr × Obj)} {σ : L2.St} {H : Hp} {s : Shared} {E : Value → Shared → Prop} {A : Addr} {S : Key → Bool} {n : Nat} {k : Key} {u : Value} {Q : Value → Shared → Prop} (I : Inv X pins σ H s) (hA : H A = some (SetK X.prog X.w A S n)) (ru : RelV (kV k) u) (room : n + 1 < scanBound)
    (go : ∀ s', Inv X pins σ (upd H A (SetK X.prog X.w A (fun j => S j || decide (j = k)) (if S k = true then n else n + 1))) s' → Q .none s') : wpAny (model X.prog X.w) X.A (call (.builtin "set.add") [.ref A, u]) Q E s :=
  call_set_add (kV_is ru) (key_scan ru) (setK_get I hA) room fun h' sb new => go _ (I.write (e := A) (t' := s.toks + 1) (by rw [hA]; trivial) (.inl rfl) (fun b o hb ho => (sb.2 b hb).trans ho) (by
    obtain ⟨o, _, _, _, ho, _⟩ := new
    exact ⟨o, ho⟩) (setK_new new))
/-- the object of an empty set -/
abbrev noKeys (w : World) : Obj := { cls := .type "set", dict := none, data := .set #[] 0 (.fresh 0 0 (!w.params.followText "set-order")) }
theorem noKeys_at (P : Program) (w : World) (h : Heap) : (h.push (noKeys w)).SetOf (mixKind P w) h.objs.size (fun _ => false) 0 :=
  ⟨_, #[], 0, _, Heap.get?_push_size _ rfl, ⟨rfl, rfl, rfl⟩, rfl, (fun e he => by simp at he), (fun k => by simp), (by decide), (by rfl), rfl⟩
theorem pe_sk {elt tg iter : Expr} {ifs : List Expr} {scope : Scope} {own : List (Str × Nat)} {pos : Pos} {wi : TI} {g : TG} {tt : TT} {te : TE} (hc : X.calm = true) (hN : X.N.Nodup) (hi : PI X tg iter wi) (ok : BlkOk X.N X.env.scope scope own)
    (hg : ∀ (s : Shared) (H : Hp) (C : Addr) (cl : List (Str × Addr)) (fp : List Addr), PG (X.blk s H scope (compEnvC scope cl C X.env) fp) tg g)
    (ht : ∀ (s : Shared) (H : Hp) (C : Addr) (cl : List (Str × Addr)) (fp : List Addr), PTs (X.blk s H scope (compEnvC scope cl C X.env) fp) ifs tt)
    (he : ∀ (s : Shared) (H : Hp) (C : Addr) (cl : List (Str × Addr)) (fp : List Addr), PE (X.blk s H scope (compEnvC scope cl C X.env) fp) elt te)
    (hs : ∀ x, foldedSetIterable iter X.env x = pure x := by intro _; rfl) : PE X (.SetComp elt [⟨tg, iter, ifs, 0⟩] scope pos) (tSk X.prog X.w wi g tt te (own.map (·.2))) := by
  refine ⟨fun pins s σ H Q I hw => ?_⟩
  rw [PpSet.eval_SetComp]
  have free : ∀ y ∈ scope.names, y.2 = .free → ∃ c, X.env.cells.lookup y.1 = some c := fun y m e => (ok.free y m e).elim (fun k => I.ok.has _ (.inl k)) fun k => I.ok.has _ (.inr k)
  refine wpAny_comprehension_free (use := none) rfl hs (closure_ok free) ok.kind (fun y m e => by rw [ok.uniq y m, e]) (thn (hi.run pins s σ H _ I hw) fun xv sa ha => thn ha fun iv sb hb => ?_)
  obtain ⟨it, fp, tn, Jt, Hb, rfl, Ib, Tb, stb, fb, want⟩ := hb
  refine PpSet.newSet_ok (newEnv_comp ?_)
  -- the address of the set
  obtain ⟨A, hA⟩ : ∃ A, A = sb.heap.objs.size := ⟨_, rfl⟩
  have nA : Hb A = none := Ib.hok.fresh (Nat.le_of_eq hA.symm)
  obtain ⟨V, ⟨m0, v0⟩, turn⟩ := want A nA
  have I1 : Inv X pins σ (upd Hb A (SetK X.prog X.w A (fun _ => false) 0)) { sb with heap := sb.heap.push (noKeys X.w) } := by
    refine Ib.laid (t' := sb.toks) (fun b o e => Heap.get?_push_of_some _ e) (Nat.le_of_eq hA.symm) ?_
    rw [hA]
    exact setK_new (noKeys_at X.prog X.w sb.heap)
  obtain ⟨s1, hs1⟩ : ∃ s1 : Shared, s1 = { sb with heap := sb.heap.push (noKeys X.w) } := ⟨_, rfl⟩
  have grow : s1.heap = sb.heap.push (noKeys X.w) := by rw [hs1]
  rw [← hs1] at I1
  obtain ⟨H0, hH0⟩ : ∃ H0, H0 = upd Hb A (SetK X.prog X.w A (fun _ => false) 0) := ⟨_, rfl⟩
  rw [← hH0] at I1 v0
  have below : ∀ b ∈ fp, b < sb.heap.objs.size := fun b m => by
    obtain ⟨o, e, _⟩ := Tb.obj _ _ stb b m
    exact Heap.lt_size e
  have f1 : ∀ b ∈ fp, FpOk X pins H0 b ∧ b < s1.heap.objs.size := fun b m => by
    have lt := below b m
    refine ⟨⟨?_, (fb b m).2⟩, by rw [grow, Heap.size_push]; exact Nat.lt_succ_of_lt lt⟩
    rw [hH0, upd_ne (by rw [hA]; exact Nat.ne_of_lt lt)]
    exact (fb b m).1
  have st1 : tn 0 s1.heap := Tb.keep _ _ _ stb fun b _ o e => by rw [grow]; exact Heap.get?_push_of_some _ e
  have I2 := block_start I1 ok hN f1
  obtain ⟨cl, hcl⟩ : ∃ cl, cl = cellsFrom (s1.heap.objs.size + 1) scope.names (cloFrom X.env.cells scope.names []) := ⟨_, rfl⟩
  have rg := hg s1 H0 s1.heap.objs.size cl fp
  have rt := ht s1 H0 s1.heap.objs.size cl fp
  have re := he s1 H0 s1.heap.objs.size cl fp
  rw [← hcl] at I2
  have out : ∀ b ∈ fp, H0 b = none := fun b m => (f1 b m).1.1
  obtain ⟨ce, hce⟩ : ∃ ce, ce = compEnvC scope cl s1.heap.objs.size X.env := ⟨_, rfl⟩
  have lo : ce.locals = s1.heap.objs.size := by rw [hce]; rfl
  rw [← hce] at I2 rg rt re
  obtain ⟨s2, hs2⟩ : ∃ s2 : Shared, s2 = { s1 with heap := pushCells (s1.heap.push { cls := .type "dict", data := .dict #[] }) scope.names } := ⟨_, rfl⟩
  rw [← hs2] at I2
  have st2 : tn 0 s2.heap := Tb.keep _ _ _ st1 fun b _ o e => by rw [hs2]; exact pushCells_keeps _ _ _ _ (Heap.get?_push_of_some _ e)
  have hold : ∀ {σ' : L2.St} {G : Hp} {z : Shared}, L2.Inv (X.blk s1 H0 scope ce fp) [] σ' G z → (∀ b ∈ fp, G b = none) → ∀ b ∈ fp, FpOk (X.blk s1 H0 scope ce fp) [] G b := fun {σ' G z} Iz nz b m =>
    ⟨nz b m, (Iz.ok.exf b m).1, Iz.ok.exfs b m, .inl m, fun x c e => (Iz.ok.exf b m).2 x c e, fun p mp => absurd (show p ∈ ([] : List (Addr × Obj)) ++ [] from mp) (by simp)⟩
  have walk : codeAny (model X.prog X.w) X.A (.compLoop (.SetComp elt [⟨tg, iter, ifs, 0⟩] scope pos) 0 (.ref it) (.ref A) ce) (compPost (model X.prog X.w) X.A X.xe none (EP X pins σ Q) (.ref A) s1.heap.objs.size) s2 := by
    refine PpSet.compLoopS_any (fun n z => ∃ i G, L2.Inv (X.blk s1 H0 scope ce fp) [] (wipe σ (own.map (·.2))) G z ∧ tn i z.heap ∧ (∀ b ∈ fp, G b = none) ∧ V i n G) (fun n z ⟨i, G, Iz, stz, nz, vz⟩ => ?_) m0 ⟨0, H0, I2, st2, out, v0⟩
    cases turn i n G vz with
    | inl fin =>
      obtain ⟨stop, q⟩ := fin
      refine thnF (Tb.done (X.blk s1 H0 scope ce fp) rfl rfl rfl hc i [] z _ G (fun _ _ => False) Iz (hold Iz nz) stz stop) fun r y ⟨hr, Iy⟩ => ?_
      subst hr
      have nloc : G s1.heap.objs.size = none := by
        have f := Iy.free
        rw [show (X.blk s1 H0 scope ce fp).env.locals = s1.heap.objs.size from lo] at f
        exact f
      obtain ⟨mm, hn, _⟩ := Iy.loc
      have hn2 : y.heap.Ns s1.heap.objs.size mm := lo ▸ (show y.heap.Ns ce.locals mm from hn)
      have Ix : L2.Inv X pins σ G y := I1.call' (ch := fp) Iy.os Iy.base Iy.hok Iy.bare fun b m => ⟨(f1 b m).1.2.2.2.1, (f1 b m).1.2.1, (f1 b m).1.2.2.2.2.1, (f1 b m).1.2.2.2.2.2⟩
      obtain ⟨p0, p1, p2, p3, p4, p5⟩ := I1.fpOk (Nat.le_refl _) nloc
      exact ⟨mm, hn2, fun h'' sb2 => ⟨.ref A, G, Ix.turned (t' := y.toks) (fun b o hb e => (sb2.2 b hb).trans e) p0 p1 p3 p4 p5, rfl, q⟩⟩
    | inr more =>
      obtain ⟨go, Nx, hNx, step⟩ := more
      refine thnF (Tb.item (X.blk s1 H0 scope ce fp) rfl rfl rfl hc i [] z _ G (fun _ _ => False) Iz (hold Iz nz) stz go) fun r y ⟨u, hr, hy⟩ => ?_
      subst hr
      refine thnF hy fun _ a ⟨x, Ga, Ia, ra, ya, sta, na⟩ => ?_
      have Ip := Ia.pinned (hold Ia na) (Tb.obj _ _ sta)
      refine thnF (rg.run _ a _ Ga x u _ Ip ra (step x Ga ya)) fun _ c ⟨σc, Gc, Ic, hwc, qc⟩ => ?_
      refine thnF (rt.run _ c σc Gc _ Ic qc) fun b d ⟨Gd, Id, qd⟩ => ?_
      have close : ∀ {y' : Shared} {G' : Hp}, L2.Inv (X.blk s1 H0 scope ce fp) ([] ++ pinsAt fp a.heap) σc G' y' → Nx G' → ∃ m, m < n ∧ ∃ i G2, L2.Inv (X.blk s1 H0 scope ce fp) [] (wipe σ (own.map (·.2))) G2 y' ∧ tn i y'.heap ∧ (∀ b ∈ fp, G2 b = none) ∧ V i m G2 := fun {y' G'} J nx => by
        obtain ⟨m', lt, v'⟩ := hNx G' nx
        have still : ∀ b ∈ fp, ∀ o, a.heap.get? b = some o → y'.heap.get? b = some o ∧ G' b = none := fun b m o e => by
          have pz := J.pin (b, o) (List.mem_append_right _ (List.mem_append_right _ (mem_pinsAt m e)))
          exact ⟨pz.1, pz.2.1⟩
        refine ⟨m', lt, i + 1, G', (J.unpinned (pins := [])).weak (by rw [← hwc, wipe_length]) (fun j v e => ?_), Tb.keep _ _ _ sta fun b m o e => (still b m o e).1, fun b m => ?_, v'⟩
        · rw [← hwc] at e
          exact (wipe_some e).1
        · obtain ⟨o, e, _⟩ := Tb.obj _ _ sta b m
          exact (still b m o e).2
      cases b with
      | false =>
        rw [if_neg Bool.false_ne_true] at qd ⊢
        exact close Id qd
      | true =>
        rw [if_pos rfl] at qd ⊢
        refine thnF (re.run _ d σc Gd _ Id qd) fun w e ⟨yv, Ge, Ie, rw', k, S0, n0, ey, hS, room, nx⟩ => ?_
        subst ey
        exact put_key (X := X.blk s1 H0 scope ce fp) Ie hS rw' room fun f If => close If nx
  have start := PpSet.codeAny_compStart_set walk (Tb.self X.A 0 _ _ _ st2 walk)
  subst hs2 hce hcl hH0 hs1 hA
  exact start
end
/-! ### len({e for x in it}), e texts -/
/-- the different ones, as they come -/
def ded : List (List Nat) → List (List Nat) → List (List Nat)
  | acc, [] => acc
  | acc, z :: zs => ded (if z ∈ acc then acc else acc ++ [z]) zs
theorem ded_len : ∀ (zs acc : List (List Nat)), (ded acc zs).length ≤ acc.length + zs.length
  | [], acc => by unfold ded; omega
  | z :: zs, acc => by
    unfold ded
    have := ded_len zs (if z ∈ acc then acc else acc ++ [z])
    have h : (if z ∈ acc then acc else acc ++ [z]).length ≤ acc.length + 1 := by split <;> simp
    rw [List.length_cons]
    omega
def mLenSc (fi : Env → R (List D)) (vs : List Nat) (T : D → Env → Option Env) (ft : Env → R Bool) (fe : Env → R D) : Env → R D := fun ρ => fi ρ >>= fun ds => lcGo T ft fe (wipeD ρ vs) ds >>= fun xs => match strsOf xs with
  | some zs => if zs.length ≤ 4000 then .ok (.int ((ded [] zs).length : Nat)) else .stuck
  | none => .stuck
def keyS (z : List Nat) : Key := .inr ⟨z.toArray⟩
theorem keyS_inj {a b : List Nat} (h : keyS a = keyS b) : a = b := by
  unfold keyS at h
  have h2 := Sum.inr.inj h
  have := congrArg (fun s : Str => s.cps.toList) h2
  simpa using this
theorem call_lenK {X : Cx} : CallR X (.builtin "len") (fun xs H Q => ∃ (a : Addr) (S : Key → Bool) (n : Nat), xs = [.ref a] ∧ H a = some (SetK X.prog X.w a S n) ∧ Q (.int (n : Nat)) H) := by
  intro pins s σ H xs us Q I r h
  obtain ⟨a, S, n, rfl, hS, q⟩ := h
  cases r with
  | cons r0 rr =>
    cases rr
    cases r0
    obtain ⟨o, es, ep, t, ho, hex, hd, _, _, hb, hf, hn⟩ := setK_get I hS
    have b : scanBound = 4096 := rfl
    refine call_len_set ho hex hd hf (by omega) ⟨.int (n : Nat), H, I.tok _, ⟨_, by rw [hn]⟩, q⟩
/-- the set holds the texts of acc -/
def HasK (P : Program) (w : World) (H : Hp) (A : Addr) (acc : List (List Nat)) : Prop := ∃ S : Key → Bool, (∀ k, S k = true ↔ k ∈ acc.map keyS) ∧ H A = some (SetK P w A S acc.length)
theorem hasK_step {P : Program} {w : World} {H : Hp} {A : Addr} {acc : List (List Nat)} {z : List Nat} {S : Key → Bool} (hS : ∀ k, S k = true ↔ k ∈ acc.map keyS) :
    HasK P w (upd H A (SetK P w A (fun j => S j || decide (j = keyS z)) (if S (keyS z) = true then acc.length else acc.length + 1))) A (if z ∈ acc then acc else acc ++ [z]) := by
  refine ⟨fun j => S j || decide (j = keyS z), fun k => ?_, ?_⟩
  · dsimp only
    rw [Bool.or_eq_true, hS k, decide_eq_true_eq]
    by_cases h : z ∈ acc
    · rw [if_pos h]
      exact ⟨fun q => q.elim id fun e => e ▸ List.mem_map.mpr ⟨z, h, rfl⟩, .inl⟩
    · rw [if_neg h, List.map_append, List.map_cons, List.map_nil, List.mem_append, List.mem_singleton]
  · have e : S (keyS z) = decide (z ∈ acc) := by
      rw [Bool.eq_iff_iff, hS, decide_eq_true_eq, List.mem_map]
      exact ⟨fun ⟨y, m, q⟩ => keyS_inj q ▸ m, fun m => ⟨z, m, rfl⟩⟩
    rw [upd_same, e]
    by_cases h : z ∈ acc
    · rw [if_pos h, if_pos (decide_eq_true h)]
    · rw [if_neg h, if_neg (by rw [decide_eq_false h]; exact Bool.false_ne_true), List.length_append, List.length_singleton]
section
variable {X : Cx} {L : LE} {fl : List Sh} {W : WX} {pos : Pos}
theorem t_sk {P : Program} {w : World} {fi : Env → R (List D)} {vs : List Nat} {T : D → Env → Option Env} {ft : Env → R Bool} {fe : Env → R D} {σ : L2.St} {H : Hp} {Q : VK} {bw : Bool} (hw : noXs fl vs = true) (h : tD L fl (.d bw) W (mLenSc fi vs T ft fe) σ H Q) :
    tSk P w (tI L fl W fi) (tG L fl fl vs T) (tT L fl W0 ft) (tD L fl .s W0 fe) vs σ H (fun v H1 => ∃ (a : Addr) (S : Key → Bool) (n : Nat), [v] = [.ref a] ∧ H1 a = some (SetK P w a S n) ∧ Q (.int (n : Nat)) H1) := by
  obtain ⟨F, B, ρ, r, p⟩ := h
  refine ⟨F, B, ρ, r, ?_⟩
  unfold mLenSc at p
  cases qi : fi ρ with
  | err c fs => rw [qi, bind_err] at p; exact p
  | stuck => rw [qi, bind_stuck] at p; exact p
  | ok ds =>
    rw [qi, bind_ok] at p
    intro Jt F1 H1 e1 wk A hA
    have r1 := r.ext e1
    have p := p.weak e1
    cases qg : lcGo T ft fe (wipeD ρ vs) ds with
    | err c fs => exact (lc_noerr _ qg).elim
    | stuck => rw [qg, bind_stuck] at p; exact p.elim
    | ok xs =>
      rw [qg, bind_ok] at p
      cases qz : strsOf xs with
      | none => rw [qz] at p; exact p.elim
      | some zs =>
        rw [qz] at p
        dsimp only at p
        by_cases hlen : zs.length ≤ 4000
        · rw [if_pos hlen] at p
          have hF1 : F1 A = none := e1.fh.free hA
          have nt : ∀ {S n}, isTbl (SetK P w A S n) = false := rfl
          refine ⟨fun i m G => m = ds.length - i ∧ i ≤ ds.length ∧ ∃ F' acc rest rz, Ext L.T F1 H1 F' G ∧ F' A = none ∧ HasK P w G A acc ∧ lcGo T ft fe (wipeD ρ vs) (ds.drop i) = .ok rest ∧ strsOf rest = some rz ∧ ded [] zs = ded acc rz ∧ acc.length + rz.length ≤ 4000,
            ⟨ds.length, rfl, Nat.zero_le _, F1, [], xs, zs, Ext.newH r1.bs.fh r1.bs.nf hA, hF1, ⟨fun _ => false, fun k => ⟨fun q => (nomatch q), fun q => (nomatch q)⟩, upd_same⟩, qg, qz, rfl, by simpa using hlen⟩, ?_⟩
          rintro i m G ⟨rfl, hle, F2, acc, rest, rz, e2, hF2, hK, hg, hz, hd, hn⟩
          obtain ⟨w1, w2⟩ := wk F2 G e2.ff e2.fh e2.nt
          by_cases hlt : i < ds.length
          · have hdi : ds[i]? = some ds[i] := List.getElem?_eq_getElem hlt
            obtain ⟨go, yl⟩ := w1 i _ hdi
            refine .inr ⟨go, fun G' => ∃ F' acc rest rz, Ext L.T F1 H1 F' G' ∧ F' A = none ∧ HasK P w G' A acc ∧ lcGo T ft fe (wipeD ρ vs) (ds.drop (i + 1)) = .ok rest ∧ strsOf rest = some rz ∧ ded [] zs = ded acc rz ∧ acc.length + rz.length ≤ 4000,
              fun G' n => ⟨ds.length - (i + 1), by omega, rfl, hlt, n⟩, fun x G3 y => ?_⟩
            obtain ⟨F3, e3, d3⟩ := yl x G3 y
            have e13 := e2.trans e3
            have r3 : Rep L fl F3 B (wipe σ vs) G3 (wipeD ρ vs) := (r1.ext e13).wipe vs hw
            rw [List.drop_eq_getElem_cons hlt] at hg
            unfold lcGo at hg
            cases qT : T ds[i] (wipeD ρ vs) with
            | none => rw [qT] at hg; cases hg
            | some ρ' =>
              rw [qT] at hg
              dsimp only at hg
              refine ⟨F3, B, wipeD ρ vs, ds[i], r3, d3, ρ', qT, fun σ' ⟨hl', hk'⟩ r4 => ⟨by rw [wipe_same hl' hk', wipe_wipe], F3, B, ρ', r4, ?_⟩⟩
              cases qt : ft ρ' with
              | err c fs => rw [qt] at hg; cases hg
              | stuck => rw [qt] at hg; cases hg
              | ok b =>
                rw [qt] at hg
                have hg : (if b = true then nE (fe ρ') >>= fun y => lcGo T ft fe (wipeD ρ vs) (ds.drop (i + 1)) >>= fun ys => .ok (y :: ys) else lcGo T ft fe (wipeD ρ vs) (ds.drop (i + 1))) = .ok rest := hg
                intro F4 G4 e4
                obtain ⟨S, hS, hSA⟩ := hK
                have out : ∀ {F5 G5}, Ext L.T F2 G F5 G5 → F5 A = none := fun e => e.hid A _ hSA rfl hF2
                cases b with
                | false =>
                  rw [if_neg Bool.false_ne_true] at hg ⊢
                  have e24 := e3.trans e4
                  exact ⟨F4, acc, rest, rz, e13.trans e4, out e24, ⟨S, hS, e24.hh _ _ hSA rfl⟩, hg, hz, hd, hn⟩
                | true =>
                  rw [if_pos rfl] at hg ⊢
                  refine ⟨F4, B, ρ', r4.ext e4, ?_⟩
                  cases qe : fe ρ' with
                  | err c fs => rw [qe] at hg; cases hg
                  | stuck => rw [qe] at hg; cases hg
                  | ok y =>
                    rw [qe] at hg
                    have hg : (lcGo T ft fe (wipeD ρ vs) (ds.drop (i + 1)) >>= fun ys => .ok (y :: ys)) = .ok rest := hg
                    intro v F5 G5 S5 e5 o5 _ _
                    have e25 := (e3.trans e4).trans e5
                    cases ql : lcGo T ft fe (wipeD ρ vs) (ds.drop (i + 1)) with
                    | err c fs => rw [ql] at hg; cases hg
                    | stuck => rw [ql] at hg; cases hg
                    | ok ys =>
                      rw [ql, bind_ok] at hg
                      cases hg
                      cases y with
                      | str z =>
                        have dv := (own_d o5).1
                        cases dv
                        have hz2 : (strsOf ys).map (z :: ·) = some rz := hz
                        cases qy : strsOf ys with
                        | none => rw [qy] at hz2; cases hz2
                        | some ry =>
                          rw [qy] at hz2
                          cases hz2
                          have b4 : scanBound = 4096 := rfl
                          rw [List.length_cons] at hn
                          refine ⟨keyS z, S, acc.length, rfl, e25.hh _ _ hSA rfl, by omega, F5, (if z ∈ acc then acc else acc ++ [z]), ys, ry, ?_, out e25, hasK_step hS, rfl, qy, ?_, ?_⟩
                          · have e15 := (e13.trans e4).trans e5
                            have ne : ∀ a o, H1 a = some o → a ≠ A := fun a o h z => by rw [z, hA] at h; cases h
                            refine ⟨fun a o h t => by rw [upd_ne (ne a o h)]; exact e15.hh a o h t, fun P m h => ?_, e15.ff, fun a o h => ?_, e15.hid, e15.nt⟩
                            · obtain ⟨ps, q1, q2⟩ := e15.ht P m h
                              obtain ⟨ps0, q3, _⟩ := h
                              exact ⟨ps, by rw [upd_ne (ne P _ q3)]; exact q1, q2⟩
                            · rw [upd_ne fun z => by rw [z, out e25] at h; cases h]
                              exact e15.fh a o h
                          · rw [hd]; rfl
                          · have h : (if z ∈ acc then acc else acc ++ [z]).length ≤ acc.length + 1 := by split <;> simp
                            omega
                      | _ => cases hz
          · have e : i = ds.length := by omega
            subst e
            rw [List.drop_length] at hg
            cases hg
            cases hz
            obtain ⟨S, hS, hSA⟩ := hK
            have hd2 : ded [] zs = acc := hd
            refine .inl ⟨w2 _ (Nat.le_refl _), A, S, acc.length, rfl, hSA, ?_⟩
            rw [hd2] at p
            exact postE_ok (d := .int (acc.length : Nat)) p e2 .int
        · rw [if_neg hlen] at p; exact p.elim
theorem e_lenSc {elt tg iter : Expr} {ifs : List Expr} {scope : Scope} (own : List (Str × Nat)) {fi : Env → R (List D)} {T : D → Env → Option Env} {ft : Env → R Bool} {fe : Env → R D} {p cpos : Pos} {bw : Bool} (hlen : X.mg "len" = none) (hN : X.N.Nodup) (hi : PI X tg iter (tI L fl W fi)) (ok : blkC X.N X.env.scope scope own = true)
    (hg : ∀ (s : Shared) (H : Hp) (C : Addr) (cl : List (Str × Addr)) (fp : List Addr), PG (X.blk s H scope (compEnvC scope cl C X.env) fp) tg (tG L fl fl (own.map (·.2)) T))
    (ht : ∀ (s : Shared) (H : Hp) (C : Addr) (cl : List (Str × Addr)) (fp : List Addr), PTs (X.blk s H scope (compEnvC scope cl C X.env) fp) ifs (tT L fl W0 ft))
    (he : ∀ (s : Shared) (H : Hp) (C : Addr) (cl : List (Str × Addr)) (fp : List Addr), PE (X.blk s H scope (compEnvC scope cl C X.env) fp) elt (tD L fl .s W0 fe))
    (hc : X.calm = true := by rfl) (hw : noXs fl (own.map (·.2)) = true := by rfl) (hs : ∀ x, foldedSetIterable iter X.env x = pure x := by intro _; rfl) (hgl : Gl X "len" := by rfl)
    (hse : starEach [.SetComp elt [⟨tg, iter, ifs, 0⟩] scope pos] X.env = (false, eval (.SetComp elt [⟨tg, iter, ifs, 0⟩] scope pos) X.env) :: starEach [] X.env := by rfl) (hpl : (backTo cpos (starEach [] X.env)).any (·.1) = false := by rfl) :
    PE X (.Call (.Name "len" p) [.SetComp elt [⟨tg, iter, ifs, 0⟩] scope pos] [] cpos) (tD L fl (.d bw) W (mLenSc fi (own.map (·.2)) T ft fe)) :=
  (pe_callB call_lenK hgl hlen PySem.boot_len (pa_cons (pe_sk hc hN hi (blkOk_by ok) hg ht he hs) pa_nil hse) (he := hse) (hpl := hpl)).imp fun σ H Q h => t_sk hw h
end
end PD
set_option Elab.async false
set_option linter.all false
set_option maxRecDepth 100000
set_option maxHeartbeats 4000000
namespace PD
open PySem PySem.Spec PyProof.Rows L2

/-! ### a range as a value -/
def dRng1 : D → Option D
  | .int j => if -LR ≤ j ∧ j ≤ LR then some (.rng 0 j) else none
  | _ => none
def gRn : D → Option (List D)
  | .rng lo hi => if (-LR ≤ lo ∧ lo ≤ LR) ∧ (-LR ≤ hi ∧ hi ≤ LR) then some (rngL lo (hi - lo).toNat) else none
  | _ => none
section
variable {X : Cx} {L : LE} {J : Jn} {fl fl1 fl' : List Sh} {W : WX} {pos : Pos} {tg : Expr}
theorem cr_range1v : CallR X (.type "range") (fun vs H Q => ∃ j, vs = [V.int j] ∧ ∀ p, H p = none → Q (.ref p) (upd H p (.rng 0 j))) := by
  intro pins s σ H vs us Q I r h
  obtain ⟨j, rfl, q⟩ := h
  cases r with
  | cons r0 rr =>
    cases rr
    obtain ⟨t, rfl⟩ := r0
    refine call_range_1 ⟨.ref s.heap.objs.size, upd H s.heap.objs.size (.rng 0 j), I.laid (t' := s.toks + 1 + 1) (fun b u e => Heap.get?_push_of_some _ e) (Nat.le_refl _) ⟨s.toks, t, s.toks + 1, Heap.get?_push_size _ rfl⟩, rfl, q _ (I.hok.fresh (Nat.le_refl _))⟩
theorem e_rng1 {e : Expr} {f : Env → R D} {p : Pos} {bw : Bool} (hm : X.mg "range" = none) (he : PE X e (tD L fl .b W f)) (hg : Gl X "range" := by rfl) (hse : starEach [e] X.env = (false, eval e X.env) :: starEach [] X.env := by rfl) (hpl : (backTo pos (starEach [] X.env)).any (·.1) = false := by rfl) :
    PE X (.Call (.Name "range" p) [e] [] pos) (tD L fl (.d bw) W (m1 dRng1 f)) :=
  (pe_callTy cr_range1v hg hm boot_range (pa_cons he pa_nil hse) (he := hse) (hpl := hpl)).imp fun σ H Q ⟨F, B, ρ, r, p⟩ => by
    refine tD_bind rfl r (k := fun d => oR (dRng1 d)) p fun d v F1 H1 S1 _ e1 r1 o1 _ _ p1 => ?_
    have dv : Dat L.K H1 v d := (own_d o1).1
    have p2 := p1.weak e1
    cases d with
    | int j =>
      cases dv
      have q : oR (dRng1 (.int j)) = if -LR ≤ j ∧ j ≤ LR then .ok (.rng 0 j) else .stuck := by
        show oR (if _ then _ else _) = _
        split <;> rfl
      rw [q] at p2
      by_cases h : -LR ≤ j ∧ j ≤ LR
      · rw [if_pos h] at p2
        refine ⟨j, rfl, fun a ha => ?_⟩
        have e2 := Ext.newF (T := L.T) (o := .rng 0 j) r1.bs.fh r1.bs.nf ha rfl
        exact postE_ok p2 e2 (dat_lift e2.fh (.rng upd_same))
      · rw [if_neg h] at p2; exact p2.elim
    | _ => exact p2.elim
theorem pi_rngv {l : Expr} {tl : TE} (hl : PE X l tl) : PI X tg l (fun σ H R => tl σ H fun x H1 => ∃ a lo hi, x = .ref a ∧ H1 a = some (.rng lo hi) ∧ (-(2 ^ 62) ≤ lo ∧ lo < 2 ^ 62) ∧ (-(2 ^ 62) ≤ hi ∧ hi < 2 ^ 62) ∧ R (Itr lo (hi - lo).toNat) H1) := by
  refine ⟨fun pins s σ H R I h => thn (hl.run pins s σ H _ I h) fun u s1 ⟨x, H1, I1, r1, a, lo, hi, ex, ha, ⟨b1, b2⟩, ⟨b3, b4⟩, q⟩ => ?_⟩
  subst ex
  cases r1
  obtain ⟨t, u, v, ho⟩ := (show ObjOk X.prog X.w H1 s1.heap a (.rng lo hi) from I1.hok a _ ha)
  refine wpAny_pyIter_range (a := lo) (b := hi) (c := 1) (t := t) (u := u) (v := v) ho (small_one b1 b2 b3 b4) ?_
  obtain ⟨N, hN⟩ : ∃ N, N = s1.heap.objs.size := ⟨_, rfl⟩
  refine ⟨s1.heap.objs.size, [s1.heap.objs.size], _, _, H1, rfl, I1.kept (t' := s1.toks) (fun b o e => Heap.get?_push_of_some _ e), turn_range _ lo (hi - lo).toNat, ?_, fun b hb => ?_, q⟩
  · have z1 : lo + ((0 : Nat) : Int) * 1 = lo := by simp
    have z2 : (((hi - lo).toNat : Nat) : Int) - ((0 : Nat) : Int) = Builtin.Range.rangeSize lo hi 1 := by rw [rangeSize_one]; split <;> omega
    show IsRangeIter _ _ (lo + ((0 : Nat) : Int) * 1) ((((hi - lo).toNat : Nat) : Int) - ((0 : Nat) : Int)) 1
    rw [z1, z2]
    exact Heap.get?_push_size _ rfl
  · obtain rfl : b = s1.heap.objs.size := List.mem_singleton.mp hb
    exact I1.fpOk (Nat.le_refl _) (I1.hok.fresh (Nat.le_refl _))
theorem i_rng {l : Expr} {f : Env → R D} (hl : PE X l (tD L fl .s W f)) : PI X tg l (tI L fl W (iOf gRn f)) := by
  refine ⟨fun pins s σ H Q I h => (pi_rngv (tg := tg) hl).run pins s σ H Q I ?_⟩
  obtain ⟨F, B, ρ, r, p⟩ := h
  refine ⟨F, B, ρ, r, PostI.bindE p fun d v F1 H1 S _ p1 e1 o1 => ?_⟩
  have dv := (own_d o1).1
  obtain ⟨xs, q⟩ := p1.oR
  rw [q] at p1
  cases dv with
  | @rng a lo hi h =>
    have q2 : (if (-LR ≤ lo ∧ lo ≤ LR) ∧ (-LR ≤ hi ∧ hi ≤ LR) then some (rngL lo (hi - lo).toNat) else none) = some xs := q
    have e9 : LR = 1000000000 := rfl
    split at q2
    · rename_i b
      cases q2
      exact ⟨a, lo, hi, rfl, e1.fh _ _ h, ⟨by omega, by omega⟩, ⟨by omega, by omega⟩, p1 _ F1 H1 e1 (wk_rng lo (hi - lo).toNat F1)⟩
    · cases q2
  | _ => cases q
end
end PD
set_option Elab.async false
set_option linter.all false
set_option maxRecDepth 100000
set_option maxHeartbeats 4000000
namespace PD
open PySem PySem.Spec PyProof.Rows L2

/-! ### sum, max, min of a list of ints -/
def intsOf : List D → Option (List Int)
  | [] => some []
  | .int i :: ds => (intsOf ds).map (i :: ·)
  | _ => none
theorem ints_V {K : PySem.W.Frag} {F : Hp} : ∀ {vs : List V} {ds : List D} {ns : List Int}, DatL K F vs ds → intsOf ds = some ns → vs = ns.map V.int
  | _, _, ns, .nil, e => by
    unfold intsOf at e
    cases e
    rfl
  | _, _, ns, .cons (d := d) (ds := ds) h r, e => by
    cases d with
    | int i =>
      unfold intsOf at e
      cases q : intsOf ds with
      | none => rw [q] at e; cases e
      | some ys =>
        rw [q] at e
        cases e
        cases h
        rw [ints_V r q]
        rfl
    | _ => unfold intsOf at e; cases e
def dSumL : List D → Option D
  | [.lst xs] => match intsOf xs with
    | some ns => some (.int ns.sum)
    | none => none
  | _ => none
def maxI : List Int → Int
  | [] => 0
  | [x] => x
  | x :: y :: r => if maxI (y :: r) > x then maxI (y :: r) else x
def dMaxL : List D → Option D
  | [.lst xs] => match intsOf xs with
    | some ns => if ns = [] then none else some (.int (maxI ns))
    | none => none
  | _ => none
theorem maxI_ok : ∀ {ns : List Int} {m : Int}, m ∈ ns → (∀ y, y ∈ ns → y ≤ m) → m = maxI ns
  | [x], m, h, _ => by
    rw [List.mem_singleton.mp h]; rfl
  | x :: y :: r, m, h, k => by
    unfold maxI
    have hx := k x List.mem_cons_self
    rcases List.mem_cons.mp h with e | h2
    · subst e
      by_cases c : maxI (y :: r) > m
      · exfalso
        have : ∀ l : List Int, l ≠ [] → maxI l ∈ l := by
          intro l
          induction l with
          | nil => intro z; exact absurd rfl z
          | cons a l ih =>
            intro _
            cases l with
            | nil => exact List.mem_singleton.mpr rfl
            | cons b l =>
              unfold maxI
              split
              · exact List.mem_cons_of_mem _ (ih (by simp))
              · exact List.mem_cons_self
        have q := k _ (List.mem_cons_of_mem _ (this (y :: r) (by simp)))
        omega
      · rw [if_neg c]
    · have e := maxI_ok h2 fun z mz => k z (List.mem_cons_of_mem _ mz)
      rw [← e]
      by_cases c : m > x
      · rw [if_pos c]
      · rw [if_neg c]; omega
section
variable {X : Cx} {L : LE} {bw : Bool}
theorem cd_sum {bw2 : Bool} (hK : X.K = L.K) : CallD L (rSum X.K) bw (.d bw2) dSumL := callD_pure fun F H vs ds d s hx e => by
  unfold dSumL at e
  split at e
  · rename_i xs
    split at e
    · rename_i ns q
      cases e
      obtain ⟨v, rfl, h⟩ := datL1 hx
      obtain ⟨a, ws, rfl, h1, h2⟩ := dat_sq h
      have e1 := ints_V h2 q
      exact ⟨_, fun _ => .int, fun Q k => ⟨a, ns, rfl, by rw [hK, ← e1]; exact sm_l (cond_sm s) (SqL.of h1), k⟩⟩
    · cases e
  · cases e
theorem cd_maxL {bw2 : Bool} (hK : X.K = L.K) : CallD L (rMax X.K) bw (.d bw2) dMaxL := callD_pure fun F H vs ds d s hx e => by
  unfold dMaxL at e
  split at e
  · rename_i xs
    split at e
    · rename_i ns q
      split at e <;> cases e
      rename_i hn
      obtain ⟨v, rfl, h⟩ := datL1 hx
      obtain ⟨a, ws, rfl, h1, h2⟩ := dat_sq h
      have e1 := ints_V h2 q
      exact ⟨_, fun _ => .int, fun Q k => ⟨a, ns, rfl, by rw [hK, ← e1]; exact sm_l (cond_sm s) (SqL.of h1), by cases ns with
        | nil => exact absurd rfl hn
        | cons _ _ => exact Nat.succ_pos _, fun m hm hk => by rw [maxI_ok hm hk]; exact k⟩⟩
    · cases e
  · cases e
end
theorem boot_sum' : bootBuiltins "sum" = some (.builtin "sum") := by decide +kernel
end PD
set_option Elab.async false
set_option linter.all false
set_option maxRecDepth 100000
set_option maxHeartbeats 4000000
namespace PD
open PySem PySem.Spec PyProof.Rows L2

/-! ### for k, x in enumerate(xs, start=c) -/
/-- the turns over a list of n items, counted from c -/
def Itn (K : PySem.W.Frag) (a : Addr) (c : Int) (n : Nat) : It :=
  ⟨fun i H => ∃ (xs : List V) (x : V), SqL K H a xs ∧ xs.length = n ∧ xs[i]? = some x,
   fun i H v H' => ∃ T x, v = .ref T ∧ H T = none ∧ H' = upd H T (.tup [.int (c + (i : Nat)), x]) ∧ ∀ xs, SqL K H a xs → xs[i]? = some x,
   fun i H => ∃ xs : List V, SqL K H a xs ∧ xs.length = n ∧ n ≤ i⟩
theorem turn_from {P : Program} {w : World} {K : PySem.W.Frag} {elts : List Expr} {kk : Nat} {tpos : Pos} (a e it : Addr) (c : Int) (n : Nat) :
    Turn P w K (.Tuple elts kk tpos) (Itn K a c n) [e, it] e (fun i h => (∃ old, IsEnum h e it (c + (i : Nat)) old) ∧ h.IsListIter it a i ∧ e ≠ it ∧ i ≤ n) where
  mem := List.mem_cons_self
  obj := fun i h st b hb => by
    obtain ⟨⟨old, he⟩, ⟨o, ho, hc, hd⟩, _⟩ := st
    rcases List.mem_cons.mp hb with z | z
    · rw [z]; exact ⟨_, he, fun v q => nomatch q⟩
    · rw [List.mem_singleton.mp z]; exact ⟨o, ho, fun v q => by rw [hd] at q; cases q⟩
  keep := fun i h h' st k => by
    obtain ⟨⟨old, he⟩, hi, hne, hn⟩ := st
    exact ⟨⟨old, k e List.mem_cons_self _ he⟩, hi.at fun o q => k it (List.mem_cons_of_mem _ (List.mem_singleton.mpr rfl)) o q, hne, hn⟩
  item := by
    intro X hP hw hK hc i pins s σ H E I hf st hg
    subst hP hw hK
    obtain ⟨⟨old, he⟩, hit, hne, hn⟩ := st
    obtain ⟨xs, x, hq, hxn, hx⟩ := hg
    obtain ⟨its, rv, pl, hz⟩ := I.list hq
    obtain ⟨u, hu, ru⟩ := rv.get hx
    have lst := pl.isList
    have inl : i < its.toArray.size := by
      have := (List.getElem?_eq_some_iff.mp hu).1
      simpa using this
    have nea : e ≠ a := fun z => by
      obtain ⟨o, ho, hcl, _⟩ := lst
      rw [← z, he] at ho
      have eo := Option.some.inj ho
      rw [← eo] at hcl
      exact absurd (Value.type.inj (show Value.type "enumerate" = Value.type "list" from hcl)) (by decide)
    have nai : a ≠ it := fun z => by
      obtain ⟨o, ho, hcl, _⟩ := lst
      obtain ⟨o2, ho2, hcl2, _⟩ := hit
      rw [z, ho2] at ho
      have eo := Option.some.inj ho
      rw [← eo, hcl2] at hcl
      exact absurd (Value.type.inj hcl) (by decide)
    have hel : e < s.heap.objs.size := Heap.lt_size he
    have hil : it < s.heap.objs.size := by
      obtain ⟨_, q, _⟩ := hit
      exact Heap.lt_size q
    refine wpAny_pyNext_enum_itemC (Draws.list (prog := X.prog) (w := X.w) (A := X.A.in1) (show X.A.in1.handled = none from I.ok.hd hc) it a nai its.toArray) he ⟨hit, lst⟩ inl hne (by simp [hne, nea]) fun y h' tk hy ho st' hT hsz hk => ?_
    have ey : y = u := by
      have q : its.toArray[i]? = some y := hy
      rw [show its.toArray[i]? = its[i]? by simp, hu] at q
      exact (Option.some.inj q).symm
    subst ey
    refine ⟨_, rfl, wpAny_letOwnedTupleGo_enum (s := { s with heap := h', toks := tk + 1 }) ho fun h2 he2 sb => ?_⟩
    have tup : h2.get? s.heap.objs.size = some { cls := .type "tuple", data := .seq #[.int (c + (i : Nat)) tk, y] } := (sb.2 _ (Nat.ne_of_gt hel)).trans hT
    have J : L2.Inv X pins σ (upd H s.heap.objs.size (.tup [.int (c + (i : Nat)), x])) { s with heap := h2, toks := tk + 1 } := by
      refine I.turnedNew (ch := [e, it]) (fun b o hb q => ?_) hf (Nat.le_refl _) ⟨(by show 2 ≤ sizeLine; decide), [.int (c + (i : Nat)) tk, y], .cons ⟨_, rfl⟩ (.cons ru .nil), ⟨_, tup, rfl, _, rfl⟩⟩
      have b1 : b ≠ e := fun z => hb (by rw [z]; exact List.mem_cons_self)
      have b2 : b ≠ it := fun z => hb (by rw [z]; exact List.mem_cons_of_mem _ (List.mem_singleton.mpr rfl))
      exact (sb.2 b b1).trans (hk b o b1 b2 q)
    refine ⟨.ref s.heap.objs.size, _, J, rfl, ⟨_, x, rfl, I.hok.fresh (Nat.le_refl _), rfl, fun ys hy => by rw [I.list_inj hy hq]; exact hx⟩, ⟨⟨y, ?_⟩, st'.1.at fun o q => (sb.2 it (Ne.symm hne)).trans q, hne, ?_⟩, fun b hb => ?_⟩
    · rw [show c + ((i + 1 : Nat) : Int) = c + (i : Nat) + 1 by omega]
      exact he2
    · have := (List.getElem?_eq_some_iff.mp hx).1
      omega
    · have lt : b < s.heap.objs.size := by
        rcases List.mem_cons.mp hb with z | z
        · rw [z]; exact hel
        · rw [List.mem_singleton.mp z]; exact hil
      rw [upd_ne (Nat.ne_of_lt lt)]
      exact (hf b hb).1
  done := by
    intro X hP hw hK hc i pins s σ H E I hf st hg
    subst hP hw hK
    obtain ⟨⟨old, he⟩, hit, hne, hn⟩ := st
    obtain ⟨xs, hq, hxn, hle⟩ := hg
    obtain ⟨its, rv, pl, hz⟩ := I.list hq
    have lst := pl.isList
    have hl := rv.length
    have nai : a ≠ it := fun z => by
      obtain ⟨o, ho, hcl, _⟩ := lst
      obtain ⟨o2, ho2, hcl2, _⟩ := hit
      rw [z, ho2] at ho
      have eo := Option.some.inj ho
      rw [← eo, hcl2] at hcl
      exact absurd (Value.type.inj hcl) (by decide)
    have hi : i = its.toArray.size := by simp; omega
    subst hi
    obtain ⟨f0, f1, f2, f3, f4, f5⟩ := hf it (List.mem_cons_of_mem _ (List.mem_singleton.mpr rfl))
    exact wpAny_pyNext_enum_endD (Draws.list (prog := X.prog) (w := X.w) (A := X.A.in1) (show X.A.in1.handled = none from I.ok.hd hc) it a nai its.toArray) he ⟨hit, lst⟩ fun h' eb => ⟨rfl, I.turned (t' := s.toks) (fun b o hb q => eb b o hb q) f0 f1 f3 f4 f5⟩
  self := fun A i s Q E st h => by
    obtain ⟨⟨_, he⟩, _⟩ := st
    exact wpAny_pyIter_enum he h
/-- a built-in class called with keywords -/
theorem call_tyK {M : Model} {A : Around} {E : Value → Shared → Prop} {s : Shared} {env : PySem.Env} {pos : Pos} {Ty : String} {e : Expr} {kws : List Keyword} {Q : Value → Shared → Prop} (hse : starEach [e] env = (false, eval e env) :: starEach [] env) (hall : (backToKw pos (keywordEach kws env)).all (·.1.isSome) = true) (hno : (backToKw pos (keywordEach kws env)).any (·.1.isNone) = false) (hpl : (backTo pos (starEach [e] env)).any (·.1) = false)
    (h : wpAny M A (spliced (backTo pos (starEach [e] env))) (fun vs s1 => wpAny M A (evalAll ((backToKw pos (keywordEach kws env)).map (·.2))) (fun ks s2 => wpAny M A (call (.type Ty) vs (((backToKw pos (keywordEach kws env)).filterMap (·.1)).zip ks)) Q E s2) E s1) E s) :
    wpAny M A (callWith pos (.type Ty) [] (backTo pos (starEach [e] env)) (backToKw pos (keywordEach kws env))) Q E s := by
  have ev := evalArgs_kw2 (f := .type Ty) (Q := fun a s1 => wpAny M A (call (.type Ty) ([] ++ a.pos) a.kw) Q E s1) hall h hse
  unfold callWith
  refine wpAny_bind (wpAny_holding (wpAny_mono ev (fun a s1 ha => wpAny_bind (wpAny_standAt ?_)) fun _ _ z => z))
  rw [hpl, hno, Bool.or_self]
  refine wpAny_bind (wpAny_pure ?_)
  exact wpAny_bind (wpAny_mono ha (fun v s2 hv => wpAny_bind (wpAny_holding (wpAny_point (wpAny_pure hv)))) fun _ _ z => z)
section
variable {X : Cx} {L : LE} {fl : List Sh} {W : WX} {pos : Pos}
theorem pi_enumFrom {e : Expr} {te : TE} {c : Int} {j kk : Nat} {p p2 kp tpos : Pos} {elts : List Expr} (hg : Gl X "enumerate") (hm : X.mg "enumerate" = none) (he : PE X e te) (hc0 : -(2 ^ 62) ≤ c) (hc1 : c < 2 ^ 62) (hse : starEach [e] X.env = (false, eval e X.env) :: starEach [] X.env := by rfl) (hpl : (backTo pos (starEach [e] X.env)).any (·.1) = false := by rfl) :
    PI X (.Tuple elts kk tpos) (.Call (.Name "enumerate" p) [e] [⟨some "start", .Constant (.int c) j p2, kp⟩] pos) (fun σ H R => te σ H fun x H1 => ∃ a xs, x = .ref a ∧ SqL X.K H1 a xs ∧ R (Itn X.K a c xs.length) H1) := by
  refine ⟨fun pins s σ H R I h => ?_⟩
  refine wpAny_Call_Name_kw (ld_blt I hg hm boot_enumerate ?_)
  refine call_tyK hse (by rfl) (by rfl) hpl (thn ((pa_cons he pa_nil hse).run pos pins s σ H (fun vs H1 => match vs with | [x] => ∃ a xs, x = .ref a ∧ SqL X.K H1 a xs ∧ R (Itn X.K a c xs.length) H1 | _ => False) I h) fun us s1 ⟨vs, H1, I1, r1, q1⟩ => ?_)
  cases r1 with
  | nil => exact q1.elim
  | cons rx rr =>
    cases rr with
    | cons _ _ => exact q1.elim
    | nil =>
      obtain ⟨a, xs, ex, hq, q⟩ := q1
      subst ex
      cases rx
      refine kws_cons (thn ((pe_int (X := X) (i := c) (j := j) (pos := p2)).run pins s1 σ H1 (fun v H2 => v = .int c ∧ H2 = H1) I1 ⟨rfl, rfl⟩) fun w s2 ⟨v, H2, I2, rv, ev, eH⟩ => kws_nil ?_)
      subst ev eH
      obtain ⟨t, rfl⟩ := rv
      obtain ⟨its, rl, pl, hz⟩ := I2.list hq
      show wpAny _ _ (call (.type "enumerate") [.ref a] [(Str.ofString "start", .int c t)]) _ _ _
      refine enum_begins_start (begins_list a its.toArray) pl.isList (by omega) (by omega) fun h' ie il hsz keep => wpAny_pyIter_enum ie ?_
      have I3 : L2.Inv X pins σ H2 { s2 with heap := h' } := I2.kept (t' := s2.toks) keep
      refine ⟨s2.heap.objs.size + 1, [s2.heap.objs.size + 1, s2.heap.objs.size], _, _, H2, rfl, I3, turn_from a (s2.heap.objs.size + 1) s2.heap.objs.size c xs.length, ⟨⟨.none, ?_⟩, ⟨_, il, rfl, rfl⟩, Nat.succ_ne_self _, Nat.zero_le _⟩, fun b hb => ?_, q⟩
      · rw [show c + ((0 : Nat) : Int) = c by omega]; exact ie
      · have le : s2.heap.objs.size ≤ b := by
          rcases List.mem_cons.mp hb with z | z
          · rw [z]; exact Nat.le_succ _
          · rw [List.mem_singleton.mp z]; exact Nat.le_refl _
        exact I2.fpOk le (I2.hok.fresh le)
/-- pairs of counts and items -/
def enumL (c : Int) : List D → List D
  | [] => []
  | x :: xs => .tup [.int c, x] :: enumL (c + 1) xs
theorem enumL_len : ∀ {c : Int} {xs : List D}, (enumL c xs).length = xs.length
  | _, [] => rfl
  | c, x :: xs => by unfold enumL; rw [List.length_cons, List.length_cons, enumL_len]
theorem enumL_get : ∀ {c : Int} {xs : List D} {i : Nat}, (enumL c xs)[i]? = (xs[i]?).map fun x => .tup [.int (c + (i : Nat)), x]
  | _, [], i => by simp [enumL]
  | c, x :: xs, 0 => by simp [enumL]
  | c, x :: xs, i + 1 => by
    unfold enumL
    rw [List.getElem?_cons_succ, List.getElem?_cons_succ, enumL_get, show c + 1 + (i : Nat) = c + ((i + 1 : Nat) : Int) by omega]
def gEn (c : Int) : D → Option (List D)
  | .lst xs => some (enumL c xs)
  | _ => none
theorem wk_enum {F0 : Hp} {a : Addr} {vs : List V} {xs : List D} (c : Int) (hF : F0 a = some (.lst vs)) (hd : DatL L.K F0 vs xs) : Wk L (Itn L.K a c vs.length) F0 (enumL c xs) := fun F H s1 s2 nt => by
  have hH : SqL L.K H a vs := SqL.of (s2 _ _ (s1 _ _ hF))
  refine ⟨fun i d hi => ?_, fun i hi => ⟨vs, hH, rfl, by rw [enumL_len, ← hd.length] at hi; exact hi⟩⟩
  rw [enumL_get] at hi
  cases qx : xs[i]? with
  | none => rw [qx] at hi; cases hi
  | some x =>
    rw [qx] at hi
    cases hi
    obtain ⟨w, e1, e2⟩ := hd.get qx
    refine ⟨⟨vs, w, hH, rfl, e1⟩, fun v H' y => ?_⟩
    obtain ⟨Tn, z, rfl, hT, rfl, hz⟩ := y
    have ez : z = w := by
      have := hz vs hH
      rw [e1] at this
      exact (Option.some.inj this).symm
    subst ez
    have e := Ext.newF (T := L.T) (o := .tup [.int (c + (i : Nat)), z]) s2 nt hT rfl
    exact ⟨_, e, .tup (SqT.of upd_same) (.cons .int (.cons (e2.mono (s1.trans e.ff).sm) .nil))⟩
theorem i_enum {e : Expr} {f : Env → R D} {c : Int} {j kk : Nat} {p p2 kp tpos : Pos} {elts : List Expr} (hm : X.mg "enumerate" = none) (he : PE X e (tD L fl .s W f)) (hc : -1000 ≤ c ∧ c ≤ 1000 := by decide) (hK : X.K = L.K := by rfl) (hg : Gl X "enumerate" := by rfl) (hse : starEach [e] X.env = (false, eval e X.env) :: starEach [] X.env := by rfl) (hpl : (backTo pos (starEach [e] X.env)).any (·.1) = false := by rfl) :
    PI X (.Tuple elts kk tpos) (.Call (.Name "enumerate" p) [e] [⟨some "start", .Constant (.int c) j p2, kp⟩] pos) (tI L fl W (iOf (gEn c) f)) := by
  refine ⟨fun pins s σ H Q I h => (pi_enumFrom (elts := elts) (kk := kk) (tpos := tpos) (kp := kp) (j := j) (p2 := p2) hg hm he (by omega) (by omega) hse hpl).run pins s σ H Q I ?_⟩
  obtain ⟨F, B, ρ, r, q⟩ := h
  refine ⟨F, B, ρ, r, PostI.bindE q fun d v F1 H1 S _ p1 e1 o1 => ?_⟩
  have dv := (own_d o1).1
  cases d with
  | lst xs =>
    obtain ⟨a, vs, rfl, h1, h2⟩ := dat_sq dv
    refine ⟨a, vs, rfl, by rw [hK]; exact SqL.of (e1.fh _ _ h1), ?_⟩
    rw [hK]
    exact p1 _ F1 H1 e1 (wk_enum c h1 h2)
  | _ => exact p1.elim
end
end PD
set_option Elab.async false
set_option linter.all false
set_option maxRecDepth 100000
set_option maxHeartbeats 2000000
/-! # own classes: fields, methods -/
namespace PD
open PySem PySem.Spec PyProof.Rows L2
section
variable {K : PySem.W.Frag}
theorem lookup_zip {F : Hp} {f : Str} {d : D} : ∀ {ks : List Str} {us : List V} {ds : List D}, DatL K F us ds → (ks.zip ds).lookup f = some d → ∃ v, (ks.zip us).lookup f = some v ∧ Dat K F v d
  | [], us, ds, _, h => by simp at h
  | k :: ks, [], [], .nil, h => by simp at h
  | k :: ks, u :: us, e :: ds, .cons hd hr, h => by
    rw [List.zip_cons_cons] at h ⊢
    rw [List.lookup_cons] at h ⊢
    cases q : f == k with
    | true =>
      rw [q] at h
      cases h
      exact ⟨u, rfl, hd⟩
    | false =>
      rw [q] at h
      exact lookup_zip hr h
theorem lookup_no {f : Str} : ∀ {ks : List Str} {us : List V}, ks.contains f = false → (ks.zip us).lookup f = none
  | [], us, _ => rfl
  | k :: ks, [], _ => rfl
  | k :: ks, u :: us, h => by
    rw [List.contains_cons] at h
    obtain ⟨h1, h2⟩ := Bool.or_eq_false_iff.mp h
    rw [List.zip_cons_cons, List.lookup_cons, h1]
    exact lookup_no h2
/-- the class c has the attribute f from its instances alone -/
def FldC (K : PySem.W.Frag) (c f : Str) : Prop := ∀ C, PySem.W.nsIn K mainGlobals c = some (some (.ref C)) → Cls K C ∧ NoAttr K C f
theorem fldC_mk {c f : Str} {x : Addr} (a : PySem.W.nsIn K mainGlobals c = some (some (.ref x))) (h1 : PySem.W.plainGet K x Str.empty = true) (h2 : PySem.W.hasDictIn K x = true) (h3 : PySem.W.plainOver K x = true)
    (h4 : PySem.W.findIn K (.ref x) "__setattr__" = some (some (.builtin "object.__setattr__"))) (h5 : PySem.W.findIn K (.ref x) f = some none) : FldC K c f := fun C h => by
  rw [a] at h
  cases h
  exact ⟨⟨h1, h2, h3, h4⟩, h5⟩
end
def dFld (cs : List Str) (f : Str) : D → Option D
  | .obj c ks vs => if c ∈ cs then (ks.zip vs).lookup f else none
  | _ => none
/-- a method that may be called -/
structure MCal (P : Program) (w : World) (K : PySem.W.Frag) (mg : Str → Option Value) (base : Heap) (L : LE) (c m : Str) (k : Nat) (rs : Sh) (n : Nat) (mt : List D → R D) : Prop where
  ex : ∀ C, PySem.W.nsIn K mainGlobals c = some (some (.ref C)) → ∃ f fd ps, Cls K C ∧ Meth K C m f ∧ FnOk P w K mg base (L2.CX P w) k f fd ps (spD L rs (n + 1) mt) ∧ Binds K fd ps []
theorem mcal_mk {P : Program} {w : World} {K : PySem.W.Frag} {mg : Str → Option Value} {base : Heap} {L : LE} {c m : Str} {k n : Nat} {rs : Sh} {mt : List D → R D} {x f : Addr} {fd : FuncData} {ps : List Str}
    (a : PySem.W.nsIn K mainGlobals c = some (some (.ref x))) (h1 : PySem.W.plainGet K x Str.empty = true) (h2 : PySem.W.hasDictIn K x = true) (h3 : PySem.W.plainOver K x = true)
    (h4 : PySem.W.findIn K (.ref x) "__setattr__" = some (some (.builtin "object.__setattr__"))) (h5 : PySem.W.findIn K (.ref x) m = some (some (.ref f))) (h6 : PySem.W.isFn K (.ref f) = true) (h7 : PySem.W.keepIn K (.ref f) = true)
    (G : FnOk P w K mg base (L2.CX P w) k f fd ps (spD L rs (n + 1) mt)) (b : Binds K fd ps []) : MCal P w K mg base L c m k rs n mt := ⟨fun C h => by
  rw [a] at h
  cases h
  exact ⟨f, fd, ps, ⟨h1, h2, h3, h4⟩, ⟨h5, h6, h7⟩, G, b⟩⟩
def mMeth (tab : List (Str × (List D → R D))) (m : Str) (n : Nat) (fo : Env → R D) (fs : Env → R (List D)) : Env → R D := fun ρ => fo ρ >>= fun o => match o with
  | .obj c ks vs => match tab.lookup c with
    | some mt => if ks.contains m = true then .stuck else fs ρ >>= fun ds => if ds.length = n then mt (.obj c ks vs :: ds) else .stuck
    | none => .stuck
  | _ => .stuck
section
variable {X : Cx} {L : LE} {fl : List Sh} {W : WX} {pos : Pos}
theorem e_fld {cs : List Str} {e : Expr} {f : Str} {fe : Env → R D} {bw : Bool} (hc : ∀ c ∈ cs, FldC L.K c f) (he : PE X e (tD L fl (.d bw) W fe)) (hK : X.K = L.K := by rfl) (hb : attributeBase e f X.env (eval e X.env) = eval e X.env := by rfl) :
    PE X (.Attribute e f pos) (tD L fl (.d bw) W (m1 (dFld cs f) fe)) :=
  (pe_fld he hb).imp fun σ H Q ⟨F, B, ρ, r, p⟩ => by
    refine tD_bind rfl r (k := fun x => oR (dFld cs f x)) p fun d v F1 H1 S1 _ e1 r1 o1 _ _ p1 => ?_
    have dv := (own_d o1).1
    cases d with
    | obj c ks ds =>
      have p2 : PostE L F H (.d bw) (oR (if c ∈ cs then (ks.zip ds).lookup f else none)) W σ Q := p1
      by_cases hm : c ∈ cs
      · rw [if_pos hm] at p2
        cases dv with
        | @obj a C dx _ _ us _ hn ha hl hd =>
          cases q : (ks.zip ds).lookup f with
          | none => rw [q] at p2; exact p2.elim
          | some d =>
            rw [q] at p2
            obtain ⟨v, h1, h2⟩ := lookup_zip hd q
            obtain ⟨c1, c2⟩ := hc c hm C hn
            rw [hK]
            refine ⟨a, C, dx, _, v, rfl, ?_, c1, c2, h1, postE_ok p2 e1 h2⟩
            cases bw with
            | true => exact ha
            | false => exact e1.fh _ _ ha
      · rw [if_neg hm] at p2; exact p2.elim
    | _ => exact p1.elim
theorem postF_of {F1 B H1 : Hp} {rs : Sh} {r0 : R D} {σ : L2.St} {Q : VK} (r1 : Bs L F1 B H1) (p1 : PostE L F1 H1 rs r0 W σ Q) : PostF L F1 (offH F1 H1) rs r0 Q (WE W σ) := by
  unfold PostE at p1
  unfold PostF
  cases r0 with
  | ok d =>
    intro v F2 H2 S s b o nd fr
    refine p1 v F2 H2 S (offH_ext s r1.fh b) o nd fun a m => ⟨(fr a m).1, fun u hu => ?_⟩
    cases t : isTbl u with
    | true => rfl
    | false =>
      have z := (fr a m).2
      cases qf : F1 a with
      | none => rw [offH_some qf hu t] at z; cases z
      | some u' =>
        have z2 := (fr a m).1
        rw [s a u' qf] at z2
        cases z2
  | err c fs => exact fun cls d F2 H2 s b x => p1 cls d F2 H2 (offH_ext s r1.fh b) x
  | stuck => exact p1
theorem e_meth {pl : Sem Bool} {tab : List (Str × (List D → R D))} {o e : Expr} {es : List Expr} {m : Str} {apos : Pos} {k j n : Nat} {rs : Sh} {fo : Env → R D} {fs : Env → R (List D)}
    (ht : ∀ c mt, tab.lookup c = some mt → MCal X.prog X.w X.K X.mg X.base L c m k rs n mt) (hr : Room j X.A) (tk : Takes X W) (ho : PE X o (tD L fl .s W fo)) (ha : PA X (e :: es) (tA L fl false W fs)) (hk : k ≤ j := by first | decide | omega)
    (hst : starEach (e :: es) X.env = (false, eval e X.env) :: starEach es X.env := by rfl) (hpl : (backTo pos (starEach es X.env)).any (·.1) = false := by rfl)
    (hev : eval (.Call (.Attribute o m apos) (e :: es) [] pos) X.env = (do
      let ov ← eval o X.env
      standAt apos.atName
      let (f, first) ← holding [ov] (getMethod ov m pl)
      callWith pos f first (backTo pos (starEach (e :: es) X.env)) (backToKw pos (keywordEach [] X.env))) := by rfl) (hK : X.K = L.K := by rfl) :
    PE X (.Call (.Attribute o m apos) (e :: es) [] pos) (tD L fl rs W (mMeth tab m n fo fs)) := ⟨fun pins s σ H Q I ⟨F, B, ρ, r, p⟩ => by
  have ho' : tD L fl .s W fo σ H (fun v H1 => ∃ d F1, Ext L.T F H F1 H1 ∧ Rep L fl F1 B σ H1 ρ ∧ Dat L.K F1 v d ∧ PostE L F1 H1 rs (match d with
      | .obj c ks vs => match tab.lookup c with
        | some mt => if ks.contains m = true then .stuck else fs ρ >>= fun ds => if ds.length = n then mt (.obj c ks vs :: ds) else .stuck
        | none => .stuck
      | _ => .stuck) W σ Q) := tD_bind rfl r p fun d v F1 H1 S1 _ e1 r1 o1 _ _ p1 => ⟨d, F1, e1, r1, (own_d o1).1, p1.weak e1⟩
  refine PySem.W.methodCall_KW (pl := pl) (thn (ho.run pins s σ H _ I ho') fun u s1 ⟨x, H1, I1, rx, d, F1, e1, r1, dv, p1⟩ => ?_) hev
  cases d with
  | obj c ks ds =>
    dsimp only at p1
    cases qt : tab.lookup c with
    | none => rw [qt] at p1; exact p1.elim
    | some mt =>
      rw [qt] at p1
      dsimp only at p1
      by_cases hc : ks.contains m = true
      · rw [if_pos hc] at p1; exact p1.elim
      · rw [if_neg hc] at p1
        have hn0 : ks.contains m = false := by simpa using hc
        cases dv with
        | @obj a C dx _ _ us _ hn hA hl hd =>
          obtain rfl : u = Value.ref a := rx
          obtain ⟨f, fd, ps, c1, c2, G, hb⟩ := (ht c mt qt).ex C (by rw [hK]; exact hn)
          refine getmeth_ok I1 (r1.bs.fh _ _ hA) c1 c2 (lookup_no hn0) ?_
          have ha' : tA L fl false W fs σ H1 (fun vs H2 => ∃ F2 ds2, Ext L.T F1 H1 F2 H2 ∧ Rep L fl F2 B σ H2 ρ ∧ DatL L.K F2 vs ds2 ∧ PostE L F2 H2 rs (if ds2.length = n then mt (.obj c ks ds :: ds2) else .stuck) W σ Q) :=
            tA_bind rfl r1 p1 fun ds2 vs F2 H2 _ e2 r2 d2 p2 => ⟨F2, ds2, e2, r2, d2, p2⟩
          refine PySem.W.callWith_K (first := [.ref a]) (h₀ := X.base) I1.ok.mod.kin c2.kp (thn (ha.run pos pins s1 σ H1 _ I1 ha') fun vs2 s2 ⟨ws, H2, I2, rw2, F2, ds2, e2, r2, d2, p2⟩ => ⟨I2.kIn, ?_⟩) hst hpl
          by_cases hlen : ds2.length = n
          · rw [if_pos hlen] at p2
            refine run_fnS (us := .ref a :: vs2) (vs := .ref a :: ws) G (hr.mono hk) hb (passAt tk σ) I2 (.cons rfl rw2) ⟨F2, offH F2 H2, .obj c ks ds :: ds2, offH_bs r2.bs, .cons (.obj hn (e2.ff _ _ hA) hl (hd.mono e2.ff.sm)) d2, by rw [List.length_cons, hlen], postF_of r2.bs p2⟩
          · rw [if_neg hlen] at p2; exact p2.elim
  | _ => exact p1.elim⟩
def mMeth0 (tab : List (Str × (List D → R D))) (m : Str) (fo : Env → R D) : Env → R D := fun ρ => fo ρ >>= fun o => match o with
  | .obj c ks vs => match tab.lookup c with
    | some mt => if ks.contains m = true then .stuck else mt [.obj c ks vs]
    | none => .stuck
  | _ => .stuck
theorem e_meth0 {pl : Sem Bool} {tab : List (Str × (List D → R D))} {o : Expr} {m : Str} {apos : Pos} {k j : Nat} {rs : Sh} {fo : Env → R D}
    (ht : ∀ c mt, tab.lookup c = some mt → MCal X.prog X.w X.K X.mg X.base L c m k rs 0 mt) (hr : Room j X.A) (tk : Takes X W) (ho : PE X o (tD L fl .s W fo)) (hk : k ≤ j := by first | decide | omega)
    (hev : eval (.Call (.Attribute o m apos) [] [] pos) X.env = (do
      let ov ← eval o X.env
      standAt apos.atName
      let (f, first) ← holding [ov] (getMethod ov m pl)
      callWith pos f first (backTo pos (starEach [] X.env)) (backToKw pos (keywordEach [] X.env))) := by rfl) (hK : X.K = L.K := by rfl) :
    PE X (.Call (.Attribute o m apos) [] [] pos) (tD L fl rs W (mMeth0 tab m fo)) := ⟨fun pins s σ H Q I ⟨F, B, ρ, r, p⟩ => by
  have ho' : tD L fl .s W fo σ H (fun v H1 => ∃ d F1, Ext L.T F H F1 H1 ∧ Rep L fl F1 B σ H1 ρ ∧ Dat L.K F1 v d ∧ PostE L F1 H1 rs (match d with
      | .obj c ks vs => match tab.lookup c with
        | some mt => if ks.contains m = true then .stuck else mt [.obj c ks vs]
        | none => .stuck
      | _ => .stuck) W σ Q) := tD_bind rfl r p fun d v F1 H1 S1 _ e1 r1 o1 _ _ p1 => ⟨d, F1, e1, r1, (own_d o1).1, p1.weak e1⟩
  refine PySem.W.methodCall_KW (pl := pl) (thn (ho.run pins s σ H _ I ho') fun u s1 ⟨x, H1, I1, rx, d, F1, e1, r1, dv, p1⟩ => ?_) hev
  cases d with
  | obj c ks ds =>
    dsimp only at p1
    cases qt : tab.lookup c with
    | none => rw [qt] at p1; exact p1.elim
    | some mt =>
      rw [qt] at p1
      dsimp only at p1
      by_cases hc : ks.contains m = true
      · rw [if_pos hc] at p1; exact p1.elim
      · rw [if_neg hc] at p1
        have hn0 : ks.contains m = false := by simpa using hc
        cases dv with
        | @obj a C dx _ _ us _ hn hA hl hd =>
          obtain rfl : u = Value.ref a := rx
          obtain ⟨f, fd, ps, c1, c2, G, hb⟩ := (ht c mt qt).ex C (by rw [hK]; exact hn)
          refine getmeth_ok I1 (r1.bs.fh _ _ hA) c1 c2 (lookup_no hn0) ?_
          exact PySem.W.callWith_K0 (first := [.ref a]) I1.kIn c2.kp (run_fnS (us := [.ref a]) (vs := [.ref a]) G (hr.mono hk) hb (passAt tk σ) I1 (.cons rfl .nil) ⟨F1, offH F1 H1, [.obj c ks ds], offH_bs r1.bs, .cons (.obj hn hA hl hd) .nil, rfl, postF_of r1.bs p1⟩)
  | _ => exact p1.elim⟩
end
end PD
set_option Elab.async false
set_option linter.all false
set_option maxRecDepth 100000
set_option maxHeartbeats 2000000
/-! # own classes: __init__, C(..) -/
namespace PD
open PySem PySem.Spec PyProof.Rows L2
section
variable {L : LE} {fl : List Sh} {F B H : Hp} {σ : L2.St} {ρ : Env}
/-- the instance that a slot holds gets its fields -/
theorem Rep.mutI {i : Nat} {p C dx : Addr} {c : Str} {ks : List Str} {ds : List D} (r : Rep L fl F B σ H ρ) (hs : fl[i]? = some (.i p C dx)) (hx : ρ[i]? = some (some (.obj c ks ds))) :
    ∃ us, σ[i]? = some (some (.ref p)) ∧ PySem.W.nsIn L.K mainGlobals c = some (some (.ref C)) ∧ H p = some (.ins C dx (ks.zip us)) ∧ ks.length = us.length ∧ DatL L.K F us ds ∧ F p = none ∧ B p = none ∧
      ∀ F' H0 ks' us' ds', Ext L.T F H F' H0 → ks'.length = us'.length → DatL L.K F' us' ds' → Rep L fl F' B σ (upd H0 p (.ins C dx (ks'.zip us'))) (ρ.set i (some (.obj c ks' ds'))) := by
  obtain ⟨Ss, h1, h2, h3, h4⟩ := r.sl
  obtain ⟨v, sh, a1, a2, a3, a4⟩ := h1 i _ hx
  rw [hs] at a2
  cases a2
  have n4 := h4 i
  have n2 := fun j a => h2 i j a
  generalize hS : Ss i = S0 at a4 n4 n2
  cases a4 with
  | @i _ _ _ _ _ us _ hc hp hl hd =>
    have nF := (n4 p List.mem_cons_self).1
    have nB := (n4 p List.mem_cons_self).2.1
    refine ⟨us, a1, hc, hp, hl, hd, nF, nB, fun F' H0 ks' us' ds' ex l' d' => ?_⟩
    have r' := r.ext ex
    have Fp : F' p = none := ex.hid p _ hp rfl nF
    have at_ : ∀ a, a ≠ p → upd H0 p (.ins C dx (ks'.zip us')) a = H0 a := fun a z => upd_ne z
    refine ⟨⟨fun a o q => ?_, fun a o q => ?_, r'.bs.fb, r'.bs.nf, r'.bs.nb, fun P hP => ?_⟩, r.ls, by rw [List.length_set]; exact r.lr, r'.px, ?_⟩
    · rw [at_ a fun z => by rw [z, Fp] at q; cases q]; exact r'.bs.fh a o q
    · rw [at_ a fun z => by rw [z, nB] at q; cases q]; exact r'.bs.bh a o q
    · obtain ⟨ps, q, k⟩ := r'.bs.tab P hP
      have hp0 := ex.hh p _ hp rfl
      exact ⟨ps, by rw [at_ P fun z => by rw [z, hp0] at q; cases q]; exact q, k⟩
    · refine ⟨Ss, fun j d2 q => ?_, h2, h3, fun j a m => ?_⟩
      · by_cases z : j = i
        · subst z
          have hlr : j < ρ.length := (List.getElem?_eq_some_iff.mp hx).1
          rw [List.getElem?_set_self hlr] at q
          cases q
          rw [hS]
          exact ⟨_, _, a1, hs, a3, .i hc upd_same l' d'⟩
        · rw [List.getElem?_set_ne (Ne.symm z)] at q
          obtain ⟨v', sh', b1, b2, b3, b4⟩ := h1 j d2 q
          refine ⟨v', sh', b1, b2, b3, Own.at ex.ff.sm b3 b4 fun a m => ?_⟩
          have na : a ≠ p := fun w => z (h2 j i a m (by rw [hS, w]; exact List.mem_cons_self))
          rw [at_ a na]
          obtain ⟨_, _, u, q3, q4⟩ := h4 j a m
          rw [q3]
          exact ex.hh a u q3 q4
      · obtain ⟨q1, q2, u, q3, q4⟩ := h4 j a m
        by_cases w : a = p
        · subst w
          exact ⟨Fp, nB, _, upd_same, rfl⟩
        · exact ⟨ex.hid a u q3 q4 q1, q2, u, by rw [at_ a w]; exact ex.hh a u q3 q4, q4⟩
theorem putF_new {f : Str} {y : V} : ∀ {ks : List Str} {us : List V}, ks.length = us.length → ks.contains f = false → putF f y (ks.zip us) = (ks ++ [f]).zip (us ++ [y])
  | [], [], _, _ => rfl
  | k :: ks, [], h, _ => by simp at h
  | [], u :: us, h, _ => by simp at h
  | k :: ks, u :: us, h, n => by
    rw [List.contains_cons] at n
    obtain ⟨n1, n2⟩ := Bool.or_eq_false_iff.mp n
    have hk : ¬ k = f := fun e => by rw [e] at n1; simp at n1
    have ih := putF_new (f := f) (y := y) (ks := ks) (us := us) (by simpa using h) n2
    show (if k = f then _ else (k, u) :: putF f y (ks.zip us)) = (k, u) :: (ks ++ [f]).zip (us ++ [y])
    rw [if_neg hk, ih]
end
/-- self.f = e, a new field -/
def sFldI (i : Nat) (f : Str) (fe : Env → R D) : Env → R Fl := fun ρ => liftE (fe ρ) ρ fun d => match ρ[i]? with
  | some (some (.obj c ks vs)) => if ks.contains f = false ∧ ks.length < 900 then .ok (.nx (ρ.set i (some (.obj c (ks ++ [f]) (vs ++ [d]))))) else .stuck
  | _ => .stuck
section
variable {X : Cx} {L : LE} {J : Jn} {fl fl1 fl' : List Sh} {W : WX} {pos : Pos}
theorem s_fldI (i : Nat) {p0 C dx : Addr} {x f : Str} {e : Expr} {fe : Env → R D} {xp pos' : Pos} {c : Str} (hc : FldC L.K c f) (hcn : PySem.W.nsIn L.K mainGlobals c = some (some (.ref C))) (he : PE X e (tD L fl .s W fe)) (hK : X.K = L.K := by rfl) (hs : fl[i]? = some (.i p0 C dx) := by rfl)
    (hN : X.N[i]? = some x := by rfl) (hv : Vis X.env.scope x := by first | exact Or.inl rfl | exact Or.inr (Or.inl rfl) | exact Or.inr (Or.inr rfl)) (hd : (x == ("__debug__" : Str)) = false := by decide) (hcd : (x == ("__classdict__" : Str)) = false := by decide)
    (hsw : swapsWith e (some (.Attribute (.Name x xp) f pos')) pos.line X.env = pure false := by rfl) :
    PS X (.Assign [.Attribute (.Name x xp) f pos'] e pos) (tS L J fl fl W (sFldI i f fe)) :=
  (ps_fld (pv i hN hv hd hcd) he hsw).imp fun D σ H ⟨F, B, ρ, r, p⟩ => by
    refine ⟨F, B, ρ, r, PostS.bindE r p fun d v F1 H1 S1 _ e1 r1 o1 _ _ p1 => ?_⟩
    have dv := (own_d o1).1
    cases q : ρ[i]? with
    | none => rw [q] at p1; exact p1.elim
    | some o =>
      cases o with
      | none => rw [q] at p1; exact p1.elim
      | some d0 =>
        rw [q] at p1
        cases d0 with
        | obj c' ks ds =>
          dsimp only at p1
          by_cases hk : ks.contains f = false ∧ ks.length < 900
          · rw [if_pos hk] at p1
            obtain ⟨us, a1, a2, a3, a4, a5, a6, a7, up⟩ := r1.mutI hs q
            obtain ⟨c1, c2⟩ := hc C hcn
            refine ⟨.ref p0, a1, p0, C, dx, ks.zip us, rfl, a3, by rw [hK]; exact c1, by rw [hK]; exact c2, by rw [List.length_zip]; omega, ?_⟩
            rw [putF_new a4 hk.1]
            refine p1 _ F1 _ (.refl _) (up F1 H1 (ks ++ [f]) (us ++ [v]) (ds ++ [d]) (.refl r1.bs.fh r1.bs.nf) (by rw [List.length_append, List.length_append, a4]; rfl) (a5.append (.cons dv .nil)))
          · rw [if_neg hk] at p1; exact p1.elim
        | _ => exact p1.elim
end

/-! ### __init__ -/
def PostIn (L : LE) (F B : Hp) (x C dx : Addr) (ks : List Str) (r : R (List D)) (Q : VK) (E : L2.XK) : Prop := match r with
  | .ok ds => ∀ F' H' us, Same F F' → Bs L F' B H' → F' x = none → H' x = some (.ins C dx (ks.zip us)) → ks.length = us.length → DatL L.K F' us ds → Q .non H'
  | .err c fs => ∀ cls d F' H', Same F F' → Bs L F' B H' → ErrOk L c fs cls d F' H' → E cls d H'
  | .stuck => False
def spI (L : LE) (c : Str) (ks : List Str) (n : Nat) (m : List D → R (List D)) : Sp := fun vs H Q E => ∃ F B ds x C dx us, vs = .ref x :: us ∧ PySem.W.nsIn L.K mainGlobals c = some (some (.ref C)) ∧ Bs L F B H ∧ F x = none ∧ B x = none ∧
  H x = some (.ins C dx []) ∧ DatL L.K F us ds ∧ ds.length = n ∧ PostIn L F B x C dx ks (m ds) Q E
def initOf (ks : List Str) (ρ : Env) : R (List D) := match ρ[0]? with
  | some (some (D.obj _ ks' vs)) => if ks' = ks then .ok vs else .stuck
  | _ => .stuck
def mInit (c : Str) (ks : List Str) (N : Nat) (b : Env → R Fl) : List D → R (List D) := fun ds => match b (some (.obj c [] []) :: (ds.map some ++ List.replicate (N - 1 - ds.length) none)) with
  | .ok (.nx ρ) => initOf ks ρ
  | .ok (.ex c fs _) => .err c fs
  | _ => .stuck
section
variable {P : Program} {w : World} {K : PySem.W.Frag} {mg : Str → Option Value} {base : Heap} {L : LE}
theorem fnI {c : Str} {ks : List Str} {x qual : Str} {st : Stmt} {f : Addr} {fd : FuncData} {N ps : List Str} {s0 : Str} {k : Nat} (F : Fun K x qual st f fd) (S : FnScope N (s0 :: ps) (defScope st)) (hL : L.K = K) {fl fl' rest : List Sh} {b : Env → R Fl}
    (hfl : fl = List.replicate ps.length .s ++ rest) (hln : fl.length + 1 = N.length) (hnx : fl.all (fun sh => !sh.isX) = true)
    (hb : ∀ (y C dx : Addr) (hc : PySem.W.nsIn L.K mainGlobals c = some (some (.ref C))) (cdv : Value) (A : Around) (outer : List PySem.Env) (s : Shared) (H : Hp) (E : L2.XK), Room k (A.deeper (envOfC qual (defScope st) s.heap.objs.size f cdv)) →
      PSs (cxOf (L2.CX P w) P w K mg base N qual (defScope st) f cdv A outer s H E) (defBody st) (tS L ⟨.s, [], []⟩ (.i y C dx :: fl) (.i y C dx :: fl') (WF' E) b)) :
    FnOk P w K mg base (L2.CX P w) (k + 1) f fd (s0 :: ps) (spI L c ks ps.length (mInit c ks N.length b)) := by
  refine F.okX S (fun vs H Q E ⟨_, _, ds, _, _, _, us, e, _, _, _, _, _, d, hl, _⟩ => by rw [e, List.length_cons, List.length_cons, d.length, hl]) (fun cdv A outer s H vs Q E hr ⟨F0, B, ds, y, C, dx, us, ev, hc, bs, n1, n2, hy, d, hl, p⟩ => ⟨_, hb y C dx hc cdv A outer s H E hr, ?_⟩)
  subst ev
  have hus := d.length
  have r0 : Rep L (.i y C dx :: fl) F0 B (L2.start N (.ref y :: us)) H (some (.obj c [] []) :: (ds.map some ++ List.replicate (N.length - 1 - ds.length) none)) := by
    have hrl : ds.length ≤ fl.length := by
      rw [hfl, List.length_append, List.length_replicate]
      omega
    refine ⟨bs, ?_, ?_, fun i u eo q => ?_, (fun i => if i = 0 then [y] else []), fun i d' q => ?_, fun i j a m1 m2 => ?_, fun i => ?_, fun i a m => ?_⟩
    · unfold L2.start
      rw [List.length_append, List.length_map, List.length_replicate, List.length_cons, List.length_cons, hus]
      omega
    · rw [List.length_cons, List.length_append, List.length_map, List.length_replicate, List.length_cons]
      omega
    · cases i with
      | zero => cases q
      | succ i =>
        have := List.all_eq_true.mp hnx _ (List.mem_of_getElem? (show fl[i]? = some (Sh.x u eo) from q))
        cases this
    · cases i with
      | zero =>
        cases q
        exact ⟨.ref y, .i y C dx, rfl, rfl, rfl, .i (us := []) hc hy rfl .nil⟩
      | succ i =>
        rw [List.getElem?_cons_succ] at q
        by_cases hi : i < ds.length
        · rw [List.getElem?_append_left (by rw [List.length_map]; exact hi), List.getElem?_map, List.getElem?_eq_getElem hi] at q
          cases q
          obtain ⟨v, e, dv⟩ := d.get (List.getElem?_eq_getElem hi)
          refine ⟨v, .s, ?_, ?_, rfl, .d (bw := false) dv⟩
          · unfold L2.start
            rw [List.map_cons, List.cons_append, List.getElem?_cons_succ, List.getElem?_append_left (by rw [List.length_map, hus]; exact hi), List.getElem?_map, e]
            rfl
          · rw [List.getElem?_cons_succ, hfl, List.getElem?_append_left (by rw [List.length_replicate]; omega), List.getElem?_replicate, if_pos (by omega)]
        · rw [List.getElem?_append_right (by rw [List.length_map]; omega), List.getElem?_replicate] at q
          split at q <;> cases q
    · dsimp only at m1 m2
      have z1 : i = 0 := by
        by_cases z : i = 0
        · exact z
        · rw [if_neg z] at m1; cases m1
      have z2 : j = 0 := by
        by_cases z : j = 0
        · exact z
        · rw [if_neg z] at m2; cases m2
      rw [z1, z2]
    · dsimp only
      by_cases z : i = 0
      · rw [if_pos z]; simp
      · rw [if_neg z]; exact List.nodup_nil
    · dsimp only at m
      by_cases z : i = 0
      · rw [if_pos z] at m
        have e : a = y := by simpa using m
        subst e
        exact ⟨n1, n2, _, hy, rfl⟩
      · rw [if_neg z] at m; cases m
  refine ⟨F0, B, _, r0, ?_⟩
  unfold mInit at p
  generalize b (some (.obj c [] []) :: (ds.map some ++ List.replicate (N.length - 1 - ds.length) none)) = r at p
  cases r with
  | ok z =>
    cases z with
    | nx ρ =>
      dsimp only at p
      intro σ' F' H' s r'
      unfold initOf at p
      cases q : ρ[0]? with
      | none => rw [q] at p; exact p.elim
      | some o =>
        cases o with
        | none => rw [q] at p; exact p.elim
        | some d0 =>
          rw [q] at p
          cases d0 with
          | obj c' ks' vs =>
            dsimp only at p
            by_cases hk : ks' = ks
            · rw [if_pos hk] at p
              subst hk
              obtain ⟨us', a1, a2, a3, a4, a5, a6, a7, _⟩ := r'.mutI (i := 0) rfl q
              exact p F' H' us' s r'.bs a6 a3 a4 a5
            · rw [if_neg hk] at p; exact p.elim
          | _ => exact p.elim
    | ex c fs ρ => exact fun cls d fl0 σ' F' H' s r' x => p cls d F' H' s r'.bs x
    | _ => exact p.elim
  | err c fs => exact p.elim
  | stuck => exact p.elim
end
end PD
namespace PD
open PySem PySem.Spec PyProof.Rows L2
/-- a class that may be made -/
structure MkC (P : Program) (w : World) (K : PySem.W.Frag) (mg : Str → Option Value) (base : Heap) (L : LE) (c : Str) (k : Nat) (ks : List Str) (n : Nat) (mi : List D → R (List D)) : Prop where
  ex : ∃ C f fd ps, PySem.W.nsIn K mainGlobals c = some (some (.ref C)) ∧ mg c = some (.ref C) ∧ Mk K C f ∧ FnOk P w K mg base (L2.CX P w) k f fd ps (spI L c ks n mi) ∧ Binds K fd ps []
def mMake (c : Str) (ks : List Str) (n : Nat) (mi : List D → R (List D)) (fs : Env → R (List D)) : Env → R D := fun ρ => fs ρ >>= fun ds => if ds.length = n then mi ds >>= fun vs => .ok (.obj c ks vs) else .stuck
theorem make_ext {L : LE} {F1 F' B1 H1 H' : Hp} {x C dx : Addr} {fs : List (Str × V)} (nx : H1 x = none) (s : Same F1 F') (fh0 : Same F1 H1) (hB : ∀ a o, F1 a = none → H1 a = some o → isTbl o = false → B1 a = some o) (b : Bs L F' B1 H') (fx : F' x = none) (hx : H' x = some (.ins C dx fs)) :
    Ext L.T F1 H1 (upd F' x (.ins C dx fs)) H' := by
  refine ⟨fun a o h t => ?_, fun P m _ => b.tab P m, fun a o h => ?_, fun a o h => ?_, fun a o h t n => ?_, fun a o h => ?_⟩
  · cases q : F1 a with
    | none => exact b.bh a o (hB a o q h t)
    | some u =>
      have z := fh0 a u q
      rw [h] at z
      cases z
      exact b.fh a o (s a o q)
  · have z := s a o h
    rw [upd_ne fun e => by rw [e, fx] at z; cases z]
    exact z
  · by_cases e : a = x
    · subst e; rw [upd_same] at h; cases h; exact hx
    · rw [upd_ne e] at h; exact b.fh a o h
  · have ne : a ≠ x := fun e => by rw [e, nx] at h; cases h
    rw [upd_ne ne]
    exact b.fb a o (hB a o n h t)
  · by_cases e : a = x
    · subst e; rw [upd_same] at h; cases h; rfl
    · rw [upd_ne e] at h; exact b.nf a o h
section
variable {X : Cx} {L : LE} {fl : List Sh} {W : WX} {pos : Pos}
/-- C's own __init__ runs on a new instance -/
theorem run_mk {C f : Addr} {fd : FuncData} {ps : List Str} {sp : Sp} {E : L2.St → L2.XK} {k : Nat} {pins : List (Addr × Obj)} {σ : L2.St} {H : Hp} {s : Shared} {Q : VK} {us : List Value} {vs : List V} (M : Mk X.K C f) (G : FnOk X.prog X.w X.K X.mg X.base (L2.CX X.prog X.w) k f fd ps sp) (hr : Room (k + 1) X.A) (hb : Binds X.K fd ps [])
    (hx : PassesAt (L2.CX X.prog X.w) X σ (E σ)) (I : Inv X pins σ H s) (r : Vals vs us) (hb2 : ∀ x dx, H x = none → H dx = none → dx ≠ x → ∀ (h' : Hp), h' = upd (upd H dx (.own x)) x (.ins C dx []) → sp (.ref x :: vs) h' (fun v H2 => v = .non ∧ Q (.ref x) H2) (fun c d H2 => E σ c d H2)) 
    (hxx : ∀ (h' : Hp) (s2 : Shared) (e : Value) (s' : Shared), Inv X pins σ h' s2 → L2.CX X.prog X.w X.stack h' s2 (E σ) e s' → X.xe e s') :
    wpAny (model X.prog X.w) X.A (call (.ref C) us) (EP X pins σ Q) X.xe s := by
  obtain ⟨n1, hn1⟩ : ∃ n, n = s.heap.objs.size := ⟨_, rfl⟩
  have q := hb2 (s.heap.objs.size + 1) s.heap.objs.size (I.hok.fresh (Nat.le_succ _)) (I.hok.fresh (Nat.le_refl _)) (Nat.ne_of_lt (Nat.lt_succ_self _)) _ rfl
  have J := Inv.made (C := C) I
  have r' : Vals (V.ref (s.heap.objs.size + 1) :: vs) (Value.ref (s.heap.objs.size + 1) :: us) := .cons rfl r
  have hl : (Value.ref (s.heap.objs.size + 1) :: us).length = ps.length := by rw [← r'.length]; exact G.len _ _ _ _ q
  have b := hb _ (Value.ref (s.heap.objs.size + 1) :: us) J.kIn (by rw [List.append_nil]; exact hl)
  rw [List.append_nil] at b
  refine wpAny_call (make_map (f := f) I.kIn M.makes M.init (beq_iff_eq.mp M.fn) (codeAny_mono (G.run _ X.stack _ _ ⟨Value.ref (s.heap.objs.size + 1) :: us, []⟩ _ _ _ _ (hr.make C us []) (J.env0.make C us []) b r' q) fun z s' hz => ?_))
  cases z with
  | error e => exact hxx _ _ e s' J hz
  | ok fl =>
    cases fl with
    | ret u =>
      obtain ⟨v, H', I3, rv, ev, q3⟩ := J.after hz
      subst ev
      exact ⟨rv, ⟨V.ref (s.heap.objs.size + 1), H', I3, rfl, q3⟩⟩
    | _ => exact False.elim hz
/-- the making, from what is frozen -/
theorem make_core {c : Str} {k n : Nat} {ks : List Str} {mi : List D → R (List D)} {C f : Addr} {fd : FuncData} {ps : List Str} {pins : List (Addr × Obj)} {σ : L2.St} {H1 F1 : Hp} {s1 : Shared} {us : List Value} {vs : List V} {ds : List D} {Q : VK}
    (hn : PySem.W.nsIn X.K mainGlobals c = some (some (.ref C))) (M : Mk X.K C f) (G : FnOk X.prog X.w X.K X.mg X.base (L2.CX X.prog X.w) k f fd ps (spI L c ks n mi)) (hb : Binds X.K fd ps []) (hr : Room (k + 1) X.A) (tk : Takes X W) (I1 : Inv X pins σ H1 s1) (rv : Vals vs us)
    (fh : Same F1 H1) (nf : NoT F1) (tab : ∀ P ∈ L.T, GxR.TabG H1 P) (d1 : DatL L.K F1 vs ds) (hl : ds.length = n) (hK : X.K = L.K) (p1 : PostE L F1 H1 .s (mi ds >>= fun vs => .ok (.obj c ks vs)) W σ Q) :
    wpAny (model X.prog X.w) X.A (call (.ref C) us) (EP X pins σ Q) X.xe s1 := by
    refine run_mk (E := WE W) M G hr hb (passAt tk σ) I1 rv (fun x dx nx ndx ne h' eh' => ?_) (fun h' s2 e s' J z => tk e s' (XE.of_call J (fun _ _ _ h => h) z))
    subst eh'
    have f1x : F1 x = none := fh.free nx
    have f1d : F1 dx = none := fh.free ndx
    obtain ⟨B1, hB1⟩ : ∃ B1, B1 = offH F1 (upd H1 dx (.own x)) := ⟨_, rfl⟩
    have hBx : B1 x = none := by
      cases q : B1 x with
      | none => rfl
      | some o =>
        rw [hB1] at q
        have := (offH_of q).2.1
        rw [upd_ne (Ne.symm ne), nx] at this
        cases this
    have bs : Bs L F1 B1 (upd (upd H1 dx (.own x)) x (.ins C dx [])) := by
      refine ⟨fun a o h => ?_, fun a o h => ?_, fun a o h => ?_, nf, fun a o h => ?_, fun P m => ?_⟩
      · have z1 : a ≠ x := fun z => by rw [z, f1x] at h; cases h
        have z2 : a ≠ dx := fun z => by rw [z, f1d] at h; cases h
        rw [upd_ne z1, upd_ne z2]
        exact fh a o h
      · rw [upd_ne fun z => by rw [z, hBx] at h; cases h]
        rw [hB1] at h
        exact (offH_of h).2.1
      · rw [hB1] at h; exact (offH_of h).1
      · rw [hB1] at h; exact (offH_of h).2.2
      · obtain ⟨t, z, y⟩ := tab P m
        have z1 : P ≠ x := fun w => by rw [w, nx] at z; cases z
        have z2 : P ≠ dx := fun w => by rw [w, ndx] at z; cases z
        exact ⟨t, by rw [upd_ne z1, upd_ne z2]; exact z, y⟩
    have hB : ∀ a o, F1 a = none → H1 a = some o → isTbl o = false → B1 a = some o := fun a o n h t => by
      rw [hB1]
      exact offH_some n (by rw [upd_ne fun z => by rw [z, ndx] at h; cases h]; exact h) t
    refine ⟨F1, B1, ds, x, C, dx, vs, rfl, by rw [← hK]; exact hn, bs, f1x, hBx, upd_same, d1, hl, ?_⟩
    unfold PostIn
    cases qm : mi ds with
    | ok ws =>
      rw [qm, bind_ok] at p1
      intro F' H' us' s b fx hx hlk dw
      have ex := make_ext (L := L) nx s fh hB b fx hx
      refine ⟨rfl, postE_ok p1 ex (dat_lift ex.fh (.obj (by rw [← hK]; exact hn) upd_same hlk (dw.mono (same_upd fx).sm)))⟩
    | err c2 fs2 =>
      rw [qm, bind_err] at p1
      intro cls d F' H' s b x
      have hext : Ext L.T F1 H1 F' H' := by
        refine ⟨fun a o h t => ?_, fun P m _ => b.tab P m, s, b.fh, fun a o h t n => b.fb a o (hB a o n h t), b.nf⟩
        cases q : F1 a with
        | none => exact b.bh a o (hB a o q h t)
        | some u =>
          have z := fh a u q
          rw [h] at z
          cases z
          exact b.fh a o (s a o q)
      exact p1 cls d F' H' hext x
    | stuck => rw [qm] at p1; exact p1
theorem postE_s {F H : Hp} {bw : Bool} {r0 : R D} {σ : L2.St} {Q : VK} (p : PostE L F H (.d bw) r0 W σ Q) : PostE L F H .s r0 W σ Q := by
  unfold PostE at p ⊢
  split at p
  · exact fun v F' H' S e o nd fr => p v F' H' [] e (.d (dat_lift e.fh (own_d o).1)) List.nodup_nil (fun a m => nomatch m)
  · exact p
  · exact p
theorem e_make {c : Str} {p : Pos} {e : Expr} {es : List Expr} {k j n : Nat} {ks : List Str} {mi : List D → R (List D)} {fs : Env → R (List D)} {bw : Bool} (q : MkC X.prog X.w X.K X.mg X.base L c k ks n mi) (hr : Room j X.A) (tk : Takes X W)
    (ha : PA X (e :: es) (tA L fl false W fs)) (hk : k + 1 ≤ j := by first | decide | omega) (hg : Gl X c := by rfl) (hdb : (c == ("__debug__" : Str)) = false := by decide) (he : starEach (e :: es) X.env = (false, eval e X.env) :: starEach es X.env := by rfl) (hpl : (backTo pos (starEach es X.env)).any (·.1) = false := by rfl) (hK : X.K = L.K := by rfl) :
    PE X (.Call (.Name c p) (e :: es) [] pos) (tD L fl (.d bw) W (mMake c ks n mi fs)) := ⟨fun pins s σ H Q I ⟨F, B, ρ, r, pp⟩ => by
  obtain ⟨C, f, fd, ps, hn, hm, M, G, hb⟩ := q.ex
  have ha' : tA L fl false W fs σ H (fun vs H2 => ∃ F2 ds2, Ext L.T F H F2 H2 ∧ Rep L fl F2 B σ H2 ρ ∧ DatL L.K F2 vs ds2 ∧ PostE L F2 H2 (.d bw) (if ds2.length = n then mi ds2 >>= fun vs => .ok (.obj c ks vs) else .stuck) W σ Q) :=
    tA_bind rfl r pp fun ds2 vs F2 H2 _ e2 r2 d2 p2 => ⟨F2, ds2, e2, r2, d2, p2⟩
  refine wpAny_Call_Name_kw (ld_glob I hg hm ?_ hdb)
  refine PySem.W.callWith_K (h₀ := X.base) I.ok.mod.kin M.kp (thn (ha.run pos pins s σ H _ I ha') fun us s1 ⟨vs, H1, I1, rv, F1, ds, e1, r1, d1, p1⟩ => ⟨I1.kIn, ?_⟩) he hpl
  by_cases hl : ds.length = n
  · rw [if_pos hl] at p1
    exact make_core hn M G hb (hr.mono hk) tk I1 rv r1.bs.fh r1.bs.nf r1.bs.tab d1 hl hK (postE_s p1)
  · rw [if_neg hl] at p1; exact p1.elim⟩
end
/-! ### own lists handed to a call whose result holds no list -/
mutual
/-- no list within -/
def noL : D → Bool
  | .lst _ => false
  | .scr _ => false
  | .tup xs => noLs xs
  | .obj _ _ xs => noLs xs
  | .dic _ _ => false
  | .dct _ _ => false
  | _ => true
def noLs : List D → Bool
  | [] => true
  | x :: xs => noL x && noLs xs
end
def isLst : HO → Bool
  | .lst _ => true
  | _ => false
/-- what is frozen, and all lists -/
noncomputable def lf (F H : Hp) : Hp := fun a => match F a with
  | some o => some o
  | none => match H a with
    | some (.lst vs) => some (.lst vs)
    | _ => none
section
variable {K : PySem.W.Frag} {F H F2 F3 : Hp}
theorem lf_F {a : Addr} {o : HO} (h : F a = some o) : lf F H a = some o := by unfold lf; rw [h]
theorem lf_l {a : Addr} {vs : List V} (n : F a = none) (h : H a = some (.lst vs)) : lf F H a = some (.lst vs) := by unfold lf; rw [n, h]
theorem lf_of {a : Addr} {o : HO} (h : lf F H a = some o) : F a = some o ∨ (F a = none ∧ H a = some o ∧ isLst o = true) := by
  unfold lf at h
  cases q : F a with
  | some u => rw [q] at h; exact .inl h
  | none =>
    rw [q] at h
    dsimp only at h
    split at h
    · rename_i vs e
      cases h
      exact .inr ⟨rfl, e, rfl⟩
    · cases h
theorem lf_same : Same F (lf F H) := fun a o h => lf_F h
theorem lf_to (s : Same F H) : Same (lf F H) H := fun a o h => by
  rcases lf_of h with h | ⟨_, h, _⟩
  · exact s a o h
  · exact h
theorem lf_nt (n : NoT F) : NoT (lf F H) := fun a o h => by
  rcases lf_of h with h | ⟨_, _, h⟩
  · exact n a o h
  · cases o with
    | lst _ => rfl
    | _ => cases h
theorem rd_no {a : Addr} {u : HO} (nu : isLst u = false) (k : ∀ a o, F2 a = some o → isLst o = false → F3 a = some o) (h : Rd F2 a u) : Rd F3 a u := by
  rcases h with h | ⟨o, h⟩
  · exact .inl (k _ _ h nu)
  · exact .inr ⟨o, k _ _ h rfl⟩
mutual
theorem dat_noL (k : ∀ a o, F2 a = some o → isLst o = false → F3 a = some o) : ∀ {v : V} {d : D}, noL d = true → Dat K F2 v d → Dat K F3 v d
  | _, _, _, .non => .non
  | _, _, _, .bl => .bl
  | _, _, _, .int => .int
  | _, _, _, .str => .str
  | _, _, n, .lst _ _ => nomatch n
  | _, _, n, .scr _ => nomatch n
  | _, _, n, .tup h r => .tup (by
      rcases h with h | h
      · exact .inl (rd_no rfl k h)
      · exact .inr h) (datL_noL k (by unfold noL at n; exact n) r)
  | _, _, _, .rng h => .rng (k _ _ h rfl)
  | _, _, n, .obj c h l r => .obj c (k _ _ h rfl) l (datL_noL k (by unfold noL at n; exact n) r)
  | _, _, n, .dic _ _ _ => nomatch n
  | _, _, n, .dct _ _ _ => nomatch n
theorem datL_noL (k : ∀ a o, F2 a = some o → isLst o = false → F3 a = some o) : ∀ {vs : List V} {ds : List D}, noLs ds = true → DatL K F2 vs ds → DatL K F3 vs ds
  | _, _, _, .nil => .nil
  | _, _, n, .cons h r => by
    unfold noLs at n
    rw [Bool.and_eq_true] at n
    exact .cons (dat_noL k n.1 h) (datL_noL k n.2 r)
end
end
def gNoL (d : D) : R D := if noL d = true then .ok d else .stuck
open Classical in
/-- what was frozen, and what is new -/
noncomputable def newF (F1 H1 F2 : Hp) : Hp := fun a => match F1 a with
  | some o => some o
  | none => if ∃ o, H1 a = some o ∧ isTbl o = false then none else F2 a
section
variable {L : LE} {W : WX} {F1 H1 F2 H2 : Hp}
theorem newF_ext (fh : Same F1 H1) (nf : NoT F1) (e : Ext L.T (lf F1 H1) H1 F2 H2) : Ext L.T F1 H1 (newF F1 H1 F2) H2 ∧ ∀ a o, F2 a = some o → isLst o = false → newF F1 H1 F2 a = some o := by
  have s12 : Same F1 F2 := fun a o h => e.ff a o (lf_F h)
  refine ⟨⟨e.hh, e.ht, fun a o h => ?_, fun a o h => ?_, fun a o h t n => ?_, fun a o h => ?_⟩, fun a o h nl => ?_⟩
  · unfold newF; rw [h]
  · unfold newF at h
    cases q : F1 a with
    | some u => rw [q] at h; cases h; exact e.fh a o (s12 a o q)
    | none =>
      rw [q] at h
      dsimp only at h
      split at h
      · cases h
      · exact e.fh a o h
  · unfold newF
    rw [n]
    dsimp only
    rw [if_pos ⟨o, h, t⟩]
  · unfold newF at h
    cases q : F1 a with
    | some u => rw [q] at h; cases h; exact nf a o q
    | none =>
      rw [q] at h
      dsimp only at h
      split at h
      · cases h
      · exact e.nt a o h
  · unfold newF
    cases q : F1 a with
    | some u =>
      have z := s12 a u q
      rw [h] at z
      cases z
      rfl
    | none =>
      dsimp only
      split
      · rename_i hx
        obtain ⟨u, h1, h2⟩ := hx
        exfalso
        cases ql : lf F1 H1 a with
        | none =>
          have z := e.hid a u h1 h2 ql
          rw [h] at z; cases z
        | some u' =>
          have z := e.ff a u' ql
          rw [h] at z
          cases z
          rcases lf_of ql with y | ⟨_, _, y⟩
          · rw [q] at y; cases y
          · rw [y] at nl; cases nl
      · exact h
theorem errOk_noL {c : Str} {fs : List (Str × D)} {cls : Value} {d : Option Addr} {F3 : Hp} (k : ∀ a o, F2 a = some o → isLst o = false → F3 a = some o) (h : ErrOk L c fs cls d F2 H2) : ErrOk L c fs cls d F3 H2 := by
  obtain ⟨h1, h2⟩ := h
  refine ⟨h1, ?_⟩
  split at h2
  · exact h2
  · obtain ⟨dx, ws, a1, a2, a3⟩ := h2
    exact ⟨dx, ws, a1, k _ _ a2 rfl, fun p m => by
      obtain ⟨v, b1, b2, b3⟩ := a3 p m
      exact ⟨v, b1, b2, dat_atom b2 b3⟩⟩
theorem postE_lf {bw : Bool} {r0 : R D} {σ : L2.St} {Q : VK} (fh : Same F1 H1) (nf : NoT F1) (p : PostE L F1 H1 (.d bw) (r0 >>= gNoL) W σ Q) : PostE L (lf F1 H1) H1 .s r0 W σ Q := by
  cases r0 with
  | ok d =>
    rw [bind_ok] at p
    unfold gNoL at p
    by_cases n : noL d = true
    · rw [if_pos n] at p
      intro v F2 H2 S e o nd fr
      obtain ⟨ex, k⟩ := newF_ext fh nf e
      exact postE_ok p ex (dat_lift ex.fh (dat_noL k n (own_d o).1))
    · rw [if_neg n] at p; exact p.elim
  | err c fs =>
    rw [bind_err] at p
    intro cls d F2 H2 e x
    obtain ⟨ex, k⟩ := newF_ext fh nf e
    exact p cls d _ H2 ex (errOk_noL k x)
  | stuck => exact p
end
/-- shapes of lists, and lists of lists -/
def Sh.listy : Sh → Bool
  | .d bw => !bw
  | .l e => e.listy
  | _ => false
section
variable {K : PySem.W.Frag} {F H : Hp}
mutual
theorem Own.lf : ∀ {sh : Sh} {v : V} {d : D} {S : List Addr}, sh.listy = true → Own K F H sh v d S → (∀ a ∈ S, F a = none) → Dat K (PD.lf F H) v d
  | _, _, _, _, _, .d (bw := false) h, _ => h.mono lf_same.sm
  | _, _, _, _, n, .d (bw := true) _, _ => nomatch n
  | _, _, _, _, n, .l h r, k => .lst (lf_l (k _ List.mem_cons_self) h) (OwnL.lf (by exact n) r fun a m => k a (List.mem_cons_of_mem _ m))
  | _, _, _, _, n, .na _ _, _ => nomatch n
  | _, _, _, _, n, .nl _ _, _ => nomatch n
  | _, _, _, _, n, .nt _ _, _ => nomatch n
  | _, _, _, _, n, .i _ _ _ _, _ => nomatch n
  | _, _, _, _, n, .q _ _ _, _ => nomatch n
  | _, _, _, _, n, .qt _ _ _, _ => nomatch n
theorem OwnL.lf : ∀ {sh : Sh} {vs : List V} {ds : List D} {S : List Addr}, sh.listy = true → OwnL K F H sh vs ds S → (∀ a ∈ S, F a = none) → DatL K (PD.lf F H) vs ds
  | _, _, _, _, _, .nil, _ => .nil
  | _, _, _, _, n, .cons h r, k => .cons (Own.lf n h fun a m => k a (List.mem_append_left _ m)) (OwnL.lf n r fun a m => k a (List.mem_append_right _ m))
end
end
def PostL (L : LE) (F H : Hp) (r : R D) (W : WX) (σ : L2.St) (Q : VK) : Prop := match r with
  | .ok d => ∀ v F' H', Ext L.T F H F' H' → Dat L.K (lf F' H') v d → Q v H'
  | .err c fs => ∀ cls d F' H', Ext L.T F H F' H' → ErrOk L c fs cls d F' H' → W cls d σ H'
  | .stuck => False
def PostAL (L : LE) (F H : Hp) (r : R (List D)) (W : WX) (σ : L2.St) (Q : List V → Hp → Prop) : Prop := match r with
  | .ok ds => ∀ vs F' H', Ext L.T F H F' H' → DatL L.K (lf F' H') vs ds → Q vs H'
  | .err c fs => ∀ cls d F' H', Ext L.T F H F' H' → ErrOk L c fs cls d F' H' → W cls d σ H'
  | .stuck => False
def tL (L : LE) (fl : List Sh) (W : WX) (f : Env → R D) : TE := fun σ H Q => ∃ F B ρ, Rep L fl F B σ H ρ ∧ PostL L F H (f ρ) W σ Q
def tAl (L : LE) (fl : List Sh) (W : WX) (f : Env → R (List D)) : TA := fun σ H Q => ∃ F B ρ, Rep L fl F B σ H ρ ∧ PostAL L F H (f ρ) W σ Q
theorem lf_mono {L : LE} {F1 H1 F2 H2 : Hp} (e : Ext L.T F1 H1 F2 H2) : Sm (lf F1 H1) (lf F2 H2) := fun a o h t => by
  rcases lf_of h with h | ⟨n, h, l⟩
  · exact lf_F (e.ff a o h)
  · cases o with
    | lst vs => exact lf_l (e.hid a _ h rfl n) (e.hh a _ h rfl)
    | _ => cases l
section
variable {X : Cx} {L : LE} {fl : List Sh} {W : WX} {pos : Pos}
theorem l_s {e : Expr} {f : Env → R D} (h : PE X e (tD L fl .s W f)) : PE X e (tL L fl W f) := h.imp fun σ H Q ⟨F, B, ρ, r, p⟩ => ⟨F, B, ρ, r, by
  unfold PostL at p
  unfold PostE
  cases q : f ρ <;> rw [q] at p
  · exact fun v F' H' S e o _ _ => p v F' H' e ((own_d o).1.mono lf_same.sm)
  · exact p
  · exact p⟩
/-- a new list that is handed on at once -/
theorem l_new {sh : Sh} {e : Expr} {f : Env → R D} (h : PE X e (tD L fl sh W f)) (hl : sh.listy = true := by rfl) : PE X e (tL L fl W f) := h.imp fun σ H Q ⟨F, B, ρ, r, p⟩ => ⟨F, B, ρ, r, by
  unfold PostL at p
  unfold PostE
  cases q : f ρ <;> rw [q] at p
  · exact fun v F' H' S e o _ fr => p v F' H' e (o.lf hl fun a m => (fr a m).1)
  · exact p
  · exact p⟩
theorem l_own (i : Nat) {sh : Sh} {x : Str} {pos : Pos} (hs : fl[i]? = some sh := by rfl) (hl : sh.listy = true := by rfl) (hN : X.N[i]? = some x := by rfl) (hv : Vis X.env.scope x := by first | exact Or.inl rfl | exact Or.inr (Or.inl rfl) | exact Or.inr (Or.inr rfl)) (hd : (x == ("__debug__" : Str)) = false := by decide)
    (hcd : (x == ("__classdict__" : Str)) = false := by decide) : PE X (.Name x pos) (tL L fl W (mV i)) := by
  refine (pv i hN hv hd hcd).imp fun σ H Q ⟨F, B, ρ, r, p⟩ => ?_
  unfold mV at p
  split at p
  · rename_i d e
    obtain ⟨Ss, h1, _, _, h4⟩ := r.sl
    obtain ⟨v, sh', a1, a2, _, a4⟩ := h1 i d e
    rw [hs] at a2
    cases a2
    exact ⟨v, a1, p v F H r.refl (a4.lf hl fun a m => (h4 i a m).1)⟩
  · exact p.elim
theorem al_nil : PA X [] (tAl L fl W mNil) := pa_nil.imp fun σ H Q ⟨F, B, ρ, r, p⟩ => p [] F H r.refl .nil
theorem al_cons {e : Expr} {es : List Expr} {f : Env → R D} {fs : Env → R (List D)} (he : PE X e (tL L fl W f)) (hr : PA X es (tAl L fl W fs)) (hs : starEach (e :: es) X.env = (false, eval e X.env) :: starEach es X.env := by rfl) :
    PA X (e :: es) (tAl L fl W (mCons f fs)) :=
  (pa_cons he hr hs).imp fun σ H Q ⟨F, B, ρ, r, p⟩ => ⟨F, B, ρ, r, by
    unfold mCons at p
    cases q : f ρ with
    | ok d =>
      rw [q, bind_ok] at p
      intro v F1 H1 e1 d1
      refine ⟨F1, B, ρ, r.ext e1, ?_⟩
      cases q2 : fs ρ with
      | ok ds =>
        rw [q2, bind_ok] at p
        exact fun vs F2 H2 e2 d2 => p (v :: vs) F2 H2 (e1.trans e2) (.cons (d1.mono (lf_mono e2)) d2)
      | err c xs => rw [q2, bind_err] at p; exact fun cls d F2 H2 e2 x => p cls d F2 H2 (e1.trans e2) x
      | stuck => rw [q2, bind_stuck] at p; exact p
    | err c xs => rw [q, bind_err] at p; exact p
    | stuck => rw [q, bind_stuck] at p; exact p⟩
theorem tAl_bind {f : Env → R (List D)} {F B H : Hp} {σ : L2.St} {ρ : Env} (r : Rep L fl F B σ H ρ) {Q : List V → Hp → Prop} {Q' : VK} {k : List D → R D} {sh' : Sh}
    (p : PostE L F H sh' (f ρ >>= k) W σ Q')
    (hk : ∀ ds vs F' H', Ext L.T F H F' H' → Rep L fl F' B σ H' ρ → DatL L.K (lf F' H') vs ds → PostE L F' H' sh' (k ds) W σ Q' → Q vs H') : tAl L fl W f σ H Q := by
  refine ⟨F, B, ρ, r, ?_⟩
  cases q : f ρ with
  | ok ds =>
    rw [q, bind_ok] at p
    exact fun vs F' H' e o => hk ds vs F' H' e (r.ext e) o (p.weak e)
  | err c fs => rw [q, bind_err] at p; exact p
  | stuck => rw [q, bind_stuck] at p; exact p
def mCallL (n : Nat) (m : List D → R D) (fs : Env → R (List D)) : Env → R D := fun ρ => fs ρ >>= fun ds => if ds.length = n then m ds >>= gNoL else .stuck
theorem lf_bs {F1 B1 H1 : Hp} (b : Bs L F1 B1 H1) : Bs L (lf F1 H1) (offH (lf F1 H1) H1) H1 := ⟨lf_to b.fh, fun a o h => (offH_of h).2.1, fun a o h => (offH_of h).1, lf_nt b.nf, fun a o h => (offH_of h).2.2, b.tab⟩
theorem e_callL {x : Str} {p : Pos} {e : Expr} {es : List Expr} {k j n : Nat} {m : List D → R D} {fs : Env → R (List D)} {bw : Bool} (c : Cal X.prog X.w X.K X.mg X.base L x k .s n m) (hr : Room j X.A) (tk : Takes X W)
    (ha : PA X (e :: es) (tAl L fl W fs)) (hk : k ≤ j := by first | decide | omega) (hg : Gl X x := by rfl) (hdb : (x == ("__debug__" : Str)) = false := by decide) (he : starEach (e :: es) X.env = (false, eval e X.env) :: starEach es X.env := by rfl) (hpl : (backTo pos (starEach es X.env)).any (·.1) = false := by rfl) :
    PE X (.Call (.Name x p) (e :: es) [] pos) (tD L fl (.d bw) W (mCallL n m fs)) := by
  obtain ⟨f, fd, ps, G, hm, hkp, hb⟩ := c.ex
  refine (pe_callS G (hr.mono hk) hg hm hkp hb (fun σ => passAt tk σ) ha hdb he hpl).imp fun σ H Q ⟨F, B, ρ, r, p⟩ => ?_
  refine tAl_bind r (k := fun ds => if ds.length = n then m ds >>= gNoL else .stuck) p fun ds vs F1 H1 e1 r1 d1 p1 => ?_
  by_cases hl : ds.length = n
  · rw [if_pos hl] at p1
    have b := lf_bs r1.bs
    exact ⟨lf F1 H1, offH (lf F1 H1) H1, ds, b, d1, hl, postF_of b (postE_lf r1.bs.fh r1.bs.nf p1)⟩
  · rw [if_neg hl] at p1; exact p1.elim
def mMakeL (c : Str) (ks : List Str) (n : Nat) (mi : List D → R (List D)) (fs : Env → R (List D)) : Env → R D := fun ρ => fs ρ >>= fun ds => if ds.length = n then (mi ds >>= fun vs => .ok (.obj c ks vs)) >>= gNoL else .stuck
theorem e_makeL {c : Str} {p : Pos} {e : Expr} {es : List Expr} {k j n : Nat} {ks : List Str} {mi : List D → R (List D)} {fs : Env → R (List D)} {bw : Bool} (q : MkC X.prog X.w X.K X.mg X.base L c k ks n mi) (hr : Room j X.A) (tk : Takes X W)
    (ha : PA X (e :: es) (tAl L fl W fs)) (hk : k + 1 ≤ j := by first | decide | omega) (hg : Gl X c := by rfl) (hdb : (c == ("__debug__" : Str)) = false := by decide) (he : starEach (e :: es) X.env = (false, eval e X.env) :: starEach es X.env := by rfl) (hpl : (backTo pos (starEach es X.env)).any (·.1) = false := by rfl) (hK : X.K = L.K := by rfl) :
    PE X (.Call (.Name c p) (e :: es) [] pos) (tD L fl (.d bw) W (mMakeL c ks n mi fs)) := ⟨fun pins s σ H Q I ⟨F, B, ρ, r, pp⟩ => by
  obtain ⟨C, f, fd, ps, hn, hm, M, G, hb⟩ := q.ex
  have ha' : tAl L fl W fs σ H (fun vs H2 => ∃ F2 ds2, Rep L fl F2 B σ H2 ρ ∧ DatL L.K (lf F2 H2) vs ds2 ∧ PostE L F2 H2 (.d bw) (if ds2.length = n then (mi ds2 >>= fun vs => .ok (.obj c ks vs)) >>= gNoL else .stuck) W σ Q) :=
    tAl_bind r pp fun ds2 vs F2 H2 e2 r2 d2 p2 => ⟨F2, ds2, r2, d2, p2⟩
  refine wpAny_Call_Name_kw (ld_glob I hg hm ?_ hdb)
  refine PySem.W.callWith_K (h₀ := X.base) I.ok.mod.kin M.kp (thn (ha.run pos pins s σ H _ I ha') fun us s1 ⟨vs, H1, I1, rv, F1, ds, r1, d1, p1⟩ => ⟨I1.kIn, ?_⟩) he hpl
  by_cases hl : ds.length = n
  · rw [if_pos hl] at p1
    exact make_core hn M G hb (hr.mono hk) tk I1 rv (lf_to r1.bs.fh) (lf_nt r1.bs.nf) r1.bs.tab d1 hl hK (postE_lf r1.bs.fh r1.bs.nf p1)
  · rw [if_neg hl] at p1; exact p1.elim⟩
end
end PD
set_option Elab.async false
set_option linter.all false
set_option maxRecDepth 100000
set_option maxHeartbeats 4000000
/-! # what is not reached; tables of methods; walks over lists and tuples; enumerate; isinstance of an own class -/
namespace PD
open PySem PySem.Spec PyProof.Rows L2
section
variable {X : Cx} {L : LE} {J : Jn} {fl fl1 fl' : List Sh} {W : WX} {pos : Pos}
theorem s_stuck {st : Stmt} : PS X st (tS L J fl fl' W (fun _ => .stuck)) := ⟨fun pins s D σ H I h => by
  obtain ⟨F, B, ρ, r, p⟩ := h
  exact p.elim⟩
theorem e_stuck {e : Expr} {sh : Sh} : PE X e (tD L fl sh W (fun _ => .stuck)) := ⟨fun pins s σ H Q I h => by
  obtain ⟨F, B, ρ, r, p⟩ := h
  exact p.elim⟩
theorem i_seq {tg e : Expr} {f : Env → R D} {g : D → Option (List D)} (he : PE X e (tD L fl .s W f)) (hg : ∀ d xs, g d = some xs → gL d = some xs ∨ gT d = some xs ∨ gS d = some xs) (hK : X.K = L.K := by rfl) : PI X tg e (tI L fl W (iOf g f)) := ⟨fun pins s σ H Q I h => by
  obtain ⟨F, B, ρ, r, p⟩ := h
  cases q : f ρ with
  | stuck => unfold iOf at p; rw [q] at p; exact p.elim
  | err c fs => exact (i_list he hK).run pins s σ H Q I ⟨F, B, ρ, r, by unfold iOf at p ⊢; rw [q] at p ⊢; exact p⟩
  | ok d =>
    cases qg : g d with
    | none => unfold iOf at p; rw [q, bind_ok, qg] at p; exact p.elim
    | some xs =>
      have p' : PostI L F H (.ok xs) W σ Q := by unfold iOf at p; rw [q, bind_ok, qg] at p; exact p
      rcases hg d xs qg with z | z | z
      · exact (i_list he hK).run pins s σ H Q I ⟨F, B, ρ, r, by unfold iOf; rw [q, bind_ok, z]; exact p'⟩
      · exact (i_tup he hK).run pins s σ H Q I ⟨F, B, ρ, r, by unfold iOf; rw [q, bind_ok, z]; exact p'⟩
      · exact (i_str he).run pins s σ H Q I ⟨F, B, ρ, r, by unfold iOf; rw [q, bind_ok, z]; exact p'⟩⟩
end
/-- a list, a tuple or a text walked -/
def gSq : D → Option (List D)
  | .lst xs => some xs
  | .tup xs => some xs
  | .scr ns => some (ns.map .int)
  | .str s => some (s.map fun c => .str [c])
  | _ => none
theorem gSq_ok : ∀ d xs, gSq d = some xs → gL d = some xs ∨ gT d = some xs ∨ gS d = some xs := fun d xs h => by
  cases d with
  | lst ys => exact .inl h
  | tup ys => exact .inr (.inl h)
  | scr ns => exact .inl h
  | str s => exact .inr (.inr h)
  | _ => cases h
section
variable {P : Program} {w : World} {K : PySem.W.Frag} {mg : Str → Option Value} {base : Heap} {L : LE} {m : Str} {n : Nat} {rs : Sh}
theorem MCal.mono {c : Str} {j k : Nat} {mt : List D → R D} (h : MCal P w K mg base L c m j rs n mt) (hk : j ≤ k) : MCal P w K mg base L c m k rs n mt := ⟨fun C hC => by
  obtain ⟨f, fd, ps, a, b, G, d⟩ := h.ex C hC
  exact ⟨f, fd, ps, a, b, G.mono hk, d⟩⟩
theorem tab_nil {k : Nat} : ∀ c mt, ([] : List (Str × (List D → R D))).lookup c = some mt → MCal P w K mg base L c m k rs n mt := fun c mt h => (nomatch h)
theorem tab_cons {c : Str} {j k : Nat} {mt : List D → R D} {tab : List (Str × (List D → R D))} (h : MCal P w K mg base L c m j rs n mt) (r : ∀ c' mt', tab.lookup c' = some mt' → MCal P w K mg base L c' m k rs n mt') (hk : j ≤ k := by decide) :
    ∀ c' mt', ((c, mt) :: tab).lookup c' = some mt' → MCal P w K mg base L c' m k rs n mt' := fun c' mt' q => by
  rw [List.lookup_cons] at q
  cases e : c' == c with
  | true =>
    rw [e] at q
    cases q
    have : c' = c := by simpa using e
    subst this
    exact h.mono hk
  | false => rw [e] at q; exact r c' mt' q
theorem mkC_mk {c : Str} {ks : List Str} {mi : List D → R (List D)} {k : Nat} {x f : Addr} {fd : FuncData} {ps : List Str} (a : PySem.W.nsIn K mainGlobals c = some (some (.ref x))) (g : mg c = some (.ref x)) (h1 : PySem.W.makesIn K x = true) (h2 : PySem.W.findIn K (.ref x) "__init__" = some (some (.ref f)))
    (h3 : PySem.W.isFn K (.ref f) = true) (h4 : PySem.W.keepIn K (.ref x) = true) (G : FnOk P w K mg base (L2.CX P w) k f fd ps (spI L c ks n mi)) (b : Binds K fd ps []) : MkC P w K mg base L c k ks n mi := ⟨x, f, fd, ps, a, g, ⟨h1, h2, h3, h4⟩, G, b⟩
end
/-! ### enumerate(list) -/
section
variable {X : Cx} {L : LE} {fl : List Sh} {W : WX} {pos : Pos}
theorem wk_enum0 {F0 : Hp} {a : Addr} {vs : List V} {xs : List D} (hF : F0 a = some (.lst vs)) (hd : DatL L.K F0 vs xs) : Wk L (Ite L.K a) F0 (enumL 0 xs) := fun F H s1 s2 nt => by
  have hH : SqL L.K H a vs := SqL.of (s2 _ _ (s1 _ _ hF))
  refine ⟨fun i d hi => ?_, fun i hi => ⟨vs, hH, by rw [enumL_len, ← hd.length] at hi; exact hi⟩⟩
  rw [enumL_get] at hi
  cases qx : xs[i]? with
  | none => rw [qx] at hi; cases hi
  | some x =>
    rw [qx] at hi
    cases hi
    obtain ⟨w, e1, e2⟩ := hd.get qx
    refine ⟨⟨vs, w, hH, e1⟩, fun v H' y => ?_⟩
    obtain ⟨Tn, z, rfl, hT, rfl, hz⟩ := y
    have ez : z = w := by
      have := hz vs hH
      rw [e1] at this
      exact (Option.some.inj this).symm
    subst ez
    have e := Ext.newF (T := L.T) (o := .tup [.int ((i : Nat) : Int), z]) s2 nt hT rfl
    refine ⟨_, e, .tup (SqT.of upd_same) ?_⟩
    rw [show (0 : Int) + (i : Nat) = ((i : Nat) : Int) by omega]
    exact .cons .int (.cons (e2.mono (s1.trans e.ff).sm) .nil)
theorem i_enum0 {e : Expr} {f : Env → R D} {kk : Nat} {p tpos : Pos} {elts : List Expr} (hm : X.mg "enumerate" = none) (he : PE X e (tD L fl .s W f)) (hK : X.K = L.K := by rfl) (hg : Gl X "enumerate" := by rfl) (hse : starEach [e] X.env = [(false, eval e X.env)] := by rfl) :
    PI X (.Tuple elts kk tpos) (.Call (.Name "enumerate" p) [e] [] pos) (tI L fl W (iOf (gEn 0) f)) := by
  refine ⟨fun pins s σ H Q I h => (pi_enum (elts := elts) (kk := kk) (tpos := tpos) hg hm (pa_cons he pa_nil (by first | exact hse | rfl)) hse).run pins s σ H Q I ?_⟩
  obtain ⟨F, B, ρ, r, q⟩ := h
  refine ⟨F, B, ρ, r, PostI.bindE q fun d v F1 H1 S _ p1 e1 o1 => ?_⟩
  have dv := (own_d o1).1
  cases d with
  | lst xs =>
    obtain ⟨a, vs, rfl, h1, h2⟩ := dat_sq dv
    refine ⟨a, vs, rfl, by rw [hK]; exact SqL.of (e1.fh _ _ h1), ?_⟩
    rw [hK]
    exact p1 _ F1 H1 e1 (wk_enum0 h1 h2)
  | _ => exact p1.elim
/-! ### isinstance(e, C) of an instance of C -/
def dIsC (c : Str) : D → Option D
  | .obj c' _ _ => if c' = c then some (.bl true) else none
  | _ => none
/-- what isinstance of the class asks -/
structure IsC (K : PySem.W.Frag) (mg : Str → Option Value) (c : Str) : Prop where
  ex : ∃ C, PySem.W.nsIn K mainGlobals c = some (some (.ref C)) ∧ mg c = some (.ref C) ∧ C8.InsC K C
theorem e_isC {c : Str} {e : Expr} {f : Env → R D} {p p2 : Pos} {bw : Bool} (q : IsC X.K X.mg c) (hm : X.mg "isinstance" = none) (he : PE X e (tD L fl .b W f)) (hK : X.K = L.K := by rfl) (hg : Gl X "isinstance" := by rfl) (hgc : Gl X c := by rfl) (hdb : (c == ("__debug__" : Str)) = false := by decide)
    (hse : starEach [e, .Name c p2] X.env = (false, eval e X.env) :: starEach [.Name c p2] X.env := by rfl) (hpl : (backTo pos (starEach [.Name c p2] X.env)).any (·.1) = false := by rfl) :
    PE X (.Call (.Name "isinstance" p) [e, .Name c p2] [] pos) (tD L fl (.d bw) W (m1 (dIsC c) f)) := by
  obtain ⟨C, hn, hmc, hi⟩ := q.ex
  refine (pe_callB (C8.call_isC hi) hg hm boot_isinstance (pa_cons he (pa_cons (pe_glob (v := .ref C) hgc hmc rfl hdb) pa_nil) hse) (he := hse) (hpl := hpl)).imp fun σ H Q ⟨F, B, ρ, r, p⟩ => ?_
  refine tD_bind rfl r (k := fun x => oR (dIsC c x)) p fun d v F1 H1 S1 _ e1 r1 o1 _ _ p1 => ?_
  have dv : Dat L.K H1 v d := (own_d o1).1
  cases d with
  | obj c' ks ds =>
    have p2 : PostE L F H (.d bw) (oR (if c' = c then some (D.bl true) else none)) W σ Q := p1
    by_cases hc : c' = c
    · rw [if_pos hc] at p2
      subst hc
      cases dv with
      | obj h1 h2 h3 h4 =>
        rw [← hK, hn] at h1
        cases h1
        exact ⟨_, _, _, rfl, h2, postE_ok (d := .bl true) p2 e1 .bl⟩
    · rw [if_neg hc] at p2; exact p2.elim
  | _ => exact p1.elim
/-- a tuple of what is borrowed -/
theorem e_tupB {es : List Expr} {x1 : Nat} {fs : Env → R (List D)} (h : PA X es (tA L fl true W fs)) : PE X (.Tuple es x1 pos) (tD L fl .b W (mN dTup fs)) :=
  (pe_tup h).imp fun σ H Q ⟨F, B, ρ, r, p⟩ => by
    refine tA_bind rfl r (k := fun xs => oR (dTup xs)) p fun ds vs F1 H1 _ e1 r1 d1 p1 => ?_
    have hl := d1.length
    unfold dTup at p1
    by_cases q : ds.length ≤ LN
    · rw [if_pos q] at p1
      refine ⟨le_line (by omega), fun a hp => ?_⟩
      have e2 := Ext.newH (T := L.T) (o := .tup vs) r1.bs.fh r1.bs.nf hp
      exact postE_ok p1 e2 (.tup (SqT.of upd_same) (DatL.mono e2.hh d1))
    · rw [if_neg q] at p1; exact p1.elim
/-- min of a list -/
def minI : List Int → Int
  | [] => 0
  | [x] => x
  | x :: y :: r => if minI (y :: r) < x then minI (y :: r) else x
def dMinL : List D → Option D
  | [.lst xs] => match intsOf xs with
    | some ns => if ns = [] then none else some (.int (minI ns))
    | none => none
  | _ => none
theorem minI_le : ∀ {ns : List Int} {y : Int}, y ∈ ns → minI ns ≤ y
  | [x], y, h => by rw [List.mem_singleton.mp h]; exact Int.le_refl _
  | x :: y :: r, z, h => by
    unfold minI
    rcases List.mem_cons.mp h with h | h
    · subst h; split <;> omega
    · have := minI_le h; split <;> omega
theorem minI_mem : ∀ {ns : List Int}, ns ≠ [] → minI ns ∈ ns
  | [x], _ => List.mem_singleton.mpr rfl
  | x :: y :: r, _ => by
    unfold minI
    split
    · exact List.mem_cons_of_mem _ (minI_mem (by simp))
    · exact List.mem_cons_self
theorem minI_ok {ns : List Int} {m : Int} (h : m ∈ ns) (k : ∀ y, y ∈ ns → m ≤ y) : m = minI ns := by
  have h1 := minI_le h
  have h2 := k _ (minI_mem (ns := ns) (by intro e; rw [e] at h; cases h))
  omega
theorem cd_minL {bw bw2 : Bool} (hK : X.K = L.K) : CallD L (rMin X.K) bw (.d bw2) dMinL := callD_pure fun F H vs ds d s hx e => by
  unfold dMinL at e
  split at e
  · rename_i xs
    split at e
    · rename_i ns q
      split at e <;> cases e
      rename_i hn
      obtain ⟨v, rfl, h⟩ := datL1 hx
      obtain ⟨a, ws, rfl, h1, h2⟩ := dat_sq h
      have e1 := ints_V h2 q
      exact ⟨_, fun _ => .int, fun Q k => ⟨a, ns, rfl, by rw [hK, ← e1]; exact sm_l (cond_sm s) (SqL.of h1), by cases ns with
        | nil => exact absurd rfl hn
        | cons _ _ => exact Nat.succ_pos _, fun m hm hk => by rw [minI_ok hm hk]; exact k⟩⟩
    · cases e
  · cases e
end
end PD
namespace PD
open PySem PySem.Spec PyProof.Rows L2
theorem fld_nil {K : PySem.W.Frag} {f : Str} : ∀ c ∈ ([] : List Str), FldC K c f := fun c h => (nomatch h)
theorem fld_cons {K : PySem.W.Frag} {f c : Str} {cs : List Str} (h : FldC K c f) (r : ∀ c ∈ cs, FldC K c f) : ∀ c' ∈ c :: cs, FldC K c' f := fun c' m => by
  rcases List.mem_cons.mp m with e | m
  · subst e; exact h
  · exact r c' m
theorem nl_nil {K : PySem.W.Frag} {L : LE} {x : Str} : ∀ c ∈ ([] : List Str), PySem.W.exmOne K (.ref (L.ca c)) (.ref (L.ca x)) = some false := fun c h => (nomatch h)
theorem nl_cons {K : PySem.W.Frag} {L : LE} {x c : Str} {cs : List Str} (h : PySem.W.exmOne K (.ref (L.ca c)) (.ref (L.ca x)) = some false) (r : ∀ c ∈ cs, PySem.W.exmOne K (.ref (L.ca c)) (.ref (L.ca x)) = some false) : ∀ c' ∈ c :: cs, PySem.W.exmOne K (.ref (L.ca c')) (.ref (L.ca x)) = some false := fun c' m => by
  rcases List.mem_cons.mp m with e | m
  · subst e; exact h
  · exact r c' m
end PD
set_option Elab.async false
set_option linter.all false
set_option maxRecDepth 100000
set_option maxHeartbeats 2000000
/-! # dicts of one's own, with shared values; read where they are shared -/
namespace PD
open PySem PySem.Spec PyProof.Rows L2
section
variable {L : LE} {fl : List Sh} {F B H : Hp} {σ : L2.St} {ρ : Env}
/-- a slot that owns one object gets another content -/
theorem Rep.mutG {i : Nat} {sh : Sh} {d : D} (r : Rep L fl F B σ H ρ) (hs : fl[i]? = some sh) (hx : ρ[i]? = some (some d)) (hS : ∀ v S, Own L.K F H sh v d S → ∃ p, v = .ref p ∧ S = [p]) :
    ∃ p, σ[i]? = some (some (.ref p)) ∧ Own L.K F H sh (.ref p) d [p] ∧ F p = none ∧ B p = none ∧ (∃ o, H p = some o ∧ isTbl o = false) ∧
      ∀ F' H0 o' d', Ext L.T F H F' H0 → isTbl o' = false → Own L.K F' (upd H0 p o') sh (.ref p) d' [p] → Rep L fl F' B σ (upd H0 p o') (ρ.set i (some d')) := by
  obtain ⟨Ss, h1, h2, h3, h4⟩ := r.sl
  obtain ⟨v, sh', a1, a2, a3, a4⟩ := h1 i _ hx
  rw [hs] at a2
  cases a2
  obtain ⟨p, rfl, eS⟩ := hS v (Ss i) a4
  rw [eS] at a4
  have n4 := h4 i p (by rw [eS]; exact List.mem_cons_self)
  obtain ⟨nF, nB, o0, ho0, to0⟩ := n4
  refine ⟨p, a1, a4, nF, nB, ⟨o0, ho0, to0⟩, fun F' H0 o' d' ex to' own' => ?_⟩
  have r' := r.ext ex
  have Fp : F' p = none := ex.hid p _ ho0 to0 nF
  have at_ : ∀ a, a ≠ p → upd H0 p o' a = H0 a := fun a z => upd_ne z
  refine ⟨⟨fun a o q => ?_, fun a o q => ?_, r'.bs.fb, r'.bs.nf, r'.bs.nb, fun P hP => ?_⟩, r.ls, by rw [List.length_set]; exact r.lr, r'.px, ?_⟩
  · rw [at_ a fun z => by rw [z, Fp] at q; cases q]; exact r'.bs.fh a o q
  · rw [at_ a fun z => by rw [z, nB] at q; cases q]; exact r'.bs.bh a o q
  · obtain ⟨ps, q, k⟩ := r'.bs.tab P hP
    have hp0 := ex.hh p _ ho0 to0
    exact ⟨ps, by rw [at_ P fun z => by rw [z, hp0] at q; cases q; cases to0]; exact q, k⟩
  · refine ⟨Ss, fun j d2 q => ?_, h2, h3, fun j a m => ?_⟩
    · by_cases z : j = i
      · subst z
        have hlr : j < ρ.length := (List.getElem?_eq_some_iff.mp hx).1
        rw [List.getElem?_set_self hlr] at q
        cases q
        rw [eS]
        exact ⟨_, _, a1, hs, a3, own'⟩
      · rw [List.getElem?_set_ne (Ne.symm z)] at q
        obtain ⟨v', sh', b1, b2, b3, b4⟩ := h1 j d2 q
        refine ⟨v', sh', b1, b2, b3, Own.at ex.ff.sm b3 b4 fun a m => ?_⟩
        have na : a ≠ p := fun w => z (h2 j i a m (by rw [eS, w]; exact List.mem_cons_self))
        rw [at_ a na]
        obtain ⟨_, _, u, q3, q4⟩ := h4 j a m
        rw [q3]
        exact ex.hh a u q3 q4
    · obtain ⟨q1, q2, u, q3, q4⟩ := h4 j a m
      by_cases w : a = p
      · subst w
        exact ⟨Fp, nB, _, upd_same, to'⟩
      · exact ⟨ex.hid a u q3 q4 q1, q2, u, by rw [at_ a w]; exact ex.hh a u q3 q4, q4⟩
end
def keyOf : D → Option DKey
  | .int i => some (.i i)
  | .str s => some (.s s)
  | _ => none
theorem DKey.k_inj {a b : DKey} (h : a.k = b.k) : a = b := by
  cases a <;> cases b <;> simp [DKey.k] at h
  · rw [h]
  · rw [h]
theorem keyOf_v {K : PySem.W.Frag} {F : Hp} {v : V} {d : D} {k : DKey} (h : Dat K F v d) (e : keyOf d = some k) : v = kV k.k := by
  cases h <;> cases e <;> rfl
section
variable {κ κ' : Type} [DecidableEq κ] [DecidableEq κ'] {K : PySem.W.Frag} {F : Hp} {f : κ → κ'}
def dgetV (ks : List κ) (vs : List D) (k : κ) : Option D := ((ks.zip vs).find? fun kv => decide (kv.1 = k)).map (·.2)
theorem dget_dat (hf : ∀ a b, f a = f b → a = b) {k : κ} : ∀ {ks : List κ} {us : List V} {ds : List D}, DatL K F us ds → (∀ d, dgetV ks ds k = some d → ∃ v, valV ((ks.map f).zip us) (f k) = some v ∧ Dat K F v d) ∧ (dgetV ks ds k = none → valV ((ks.map f).zip us) (f k) = none)
  | [], us, ds, _ => ⟨fun d h => by simp [dgetV] at h, fun _ => rfl⟩
  | k0 :: ks, [], [], .nil => ⟨fun d h => by simp [dgetV] at h, fun _ => rfl⟩
  | k0 :: ks, u :: us, d0 :: ds, .cons hd hr => by
    obtain ⟨i1, i2⟩ := dget_dat hf (k := k) (ks := ks) hr
    by_cases e : k0 = k
    · subst e
      refine ⟨fun d h => ⟨u, by rw [List.map_cons, List.zip_cons_cons]; exact valV_pos rfl, ?_⟩, fun h => ?_⟩
      · have : dgetV (k0 :: ks) (d0 :: ds) k0 = some d0 := by simp [dgetV]
        rw [this] at h
        cases h
        exact hd
      · have : dgetV (k0 :: ks) (d0 :: ds) k0 = some d0 := by simp [dgetV]
        rw [this] at h; cases h
    · have e2 : dgetV (k0 :: ks) (d0 :: ds) k = dgetV ks ds k := by simp [dgetV, e]
      have e3 : valV (((k0 :: ks).map f).zip (u :: us)) (f k) = valV ((ks.map f).zip us) (f k) := by
        rw [List.map_cons, List.zip_cons_cons]
        exact valV_neg fun z => e (hf _ _ z)
      rw [e2, e3]
      exact ⟨i1, i2⟩
/-- the values behind d[k] = v, and the keys -/
def dputV (ks : List κ) (vs : List D) (k : κ) (v : D) : List D := if k ∈ ks then (ks.zip vs).map (fun kv => if kv.1 = k then v else kv.2) else vs ++ [v]
def dputK (ks : List κ) (k : κ) : List κ := if k ∈ ks then ks else ks ++ [k]
theorem putK_zip (hf : ∀ a b, f a = f b → a = b) {k : κ} {ks : List κ} {us : List V} {ds : List D} {v : V} {d : D} (hl : ks.length = us.length) (h : DatL K F us ds) (hv : Dat K F v d) :
    ∃ us', putK ((ks.map f).zip us) (f k) v = ((dputK ks k).map f).zip us' ∧ (dputK ks k).length = us'.length ∧ DatL K F us' (dputV ks ds k d) := by
  have any_ : ∀ {ks : List κ} {us : List V}, ks.length = us.length → (((ks.map f).zip us).any fun kv => decide (kv.1 = f k)) = decide (k ∈ ks) := by
    intro ks
    induction ks with
    | nil => intro us _; rfl
    | cons k0 ks ih =>
      intro us hl
      cases us with
      | nil => simp at hl
      | cons u us =>
        rw [List.map_cons, List.zip_cons_cons, List.any_cons, ih (by simpa using hl)]
        by_cases e : k0 = k
        · subst e; simp
        · have e2 : ¬ f k0 = f k := fun z => e (hf _ _ z)
          have e3 : ¬ k = k0 := fun z => e z.symm
          simp [e2, e3]
  unfold putK
  rw [any_ hl]
  by_cases m : k ∈ ks
  · rw [if_pos (by simpa using m)]
    unfold dputK dputV
    rw [if_pos m, if_pos m]
    have key : ∀ {ks : List κ} {us : List V} {ds : List D}, ks.length = us.length → DatL K F us ds → ∃ us', ((ks.map f).zip us).map (fun kv => if kv.1 = f k then (kv.1, v) else kv) = (ks.map f).zip us' ∧ ks.length = us'.length ∧ DatL K F us' ((ks.zip ds).map fun kv => if kv.1 = k then d else kv.2) := by
      intro ks
      induction ks with
      | nil => intro us ds hl _; exact ⟨[], rfl, rfl, .nil⟩
      | cons k0 ks ih =>
        intro us ds hl h
        cases h with
        | nil => simp at hl
        | @cons u d0 us ds h0 hr =>
          obtain ⟨us', e1, e2, e3⟩ := ih (by simpa using hl) hr
          rw [List.map_cons, List.zip_cons_cons, List.map_cons, List.zip_cons_cons, List.map_cons, e1]
          by_cases e : k0 = k
          · subst e
            exact ⟨v :: us', by simp, by simp [e2], .cons (by simp; exact hv) e3⟩
          · have e4 : ¬ f k0 = f k := fun z => e (hf _ _ z)
            exact ⟨u :: us', by simp [e4], by simp [e2], .cons (by simp [e]; exact h0) e3⟩
    exact key hl h
  · rw [if_neg (by simpa using m)]
    unfold dputK dputV
    rw [if_neg m, if_neg m]
    exact ⟨us ++ [v], by rw [List.map_append, List.zip_append (by rw [List.length_map, hl])]; rfl, by rw [List.length_append, List.length_append, hl]; rfl, h.append (.cons hv .nil)⟩
end
/-! ### mirrors -/
def getQ (ρ : Env) (i : Nat) : Option (List DKey × List D) := match ρ[i]? with
  | some (some (.dic ks vs)) => some (ks, vs)
  | _ => none
theorem getQ_some {ρ : Env} {i : Nat} {ks : List DKey} {vs : List D} (h : getQ ρ i = some (ks, vs)) : ρ[i]? = some (some (.dic ks vs)) := by
  unfold getQ at h
  split at h
  · rename_i ks' vs' e; cases h; exact e
  · cases h
def sDPut (i : Nat) (fk fv : Env → R D) : Env → R Fl := fun ρ => liftE (fv ρ) ρ fun v => match getQ ρ i with
  | some (ks, vs) => liftE (fk ρ) ρ fun k => match keyOf k with
    | some kk => if ks.length < LN then .ok (.nx (ρ.set i (some (.dic (dputK ks kk) (dputV ks vs kk v))))) else .stuck
    | none => .stuck
  | none => .stuck
/-- d[k], there; d.get(k, z); k in d, of a slot's own dict -/
def mDGet (i : Nat) (fk : Env → R D) : Env → R D := fun ρ => match getQ ρ i with
  | some (ks, vs) => fk ρ >>= fun k => match keyOf k with
    | some kk => oR (dgetV ks vs kk)
    | none => .stuck
  | none => .stuck
def mDGet2 (i : Nat) (fk fz : Env → R D) : Env → R D := fun ρ => match getQ ρ i with
  | some (ks, vs) => fk ρ >>= fun k => fz ρ >>= fun z => match keyOf k with
    | some kk => .ok ((dgetV ks vs kk).getD z)
    | none => .stuck
  | none => .stuck
def mDIn (i : Nat) (fk : Env → R D) : Env → R D := fun ρ => match getQ ρ i with
  | some (ks, vs) => fk ρ >>= fun k => match keyOf k with
    | some kk => .ok (.bl (dgetV ks vs kk).isSome)
    | none => .stuck
  | none => .stuck
section
variable {X : Cx} {L : LE} {J : Jn} {fl fl1 fl' : List Sh} {W : WX} {pos : Pos}
theorem e_dnew : PE X (.Dict [] [] pos) (tD L fl .q W (mC (.dic [] []))) :=
  pe_dnewK.imp fun σ H Q ⟨F, B, ρ, r, p⟩ q hq => p _ F _ [q] (Ext.newH (T := L.T) r.bs.fh r.bs.nf hq) (.q (us := []) upd_same rfl .nil) (by simp) fun b m => by
    have e : b = q := by simpa using m
    subst e
    exact ⟨r.bs.fh.free hq, .of hq⟩
/-- what a slot's dict holds -/
theorem Rep.dict {F B H : Hp} {σ : L2.St} {ρ : Env} {i : Nat} {ks : List DKey} {vs : List D} (r : Rep L fl F B σ H ρ) (h : getQ ρ i = some (ks, vs)) (hs : fl[i]? = some .q) : ∃ p us, σ[i]? = some (some (.ref p)) ∧ H p = some (.dK ((ks.map DKey.k).zip us)) ∧ ks.length = us.length ∧ DatL L.K F us vs := by
  obtain ⟨Ss, h1, _⟩ := r.sl
  obtain ⟨v, sh, a1, a2, _, a4⟩ := h1 i _ (getQ_some h)
  rw [hs] at a2
  cases a2
  generalize Ss i = S at a4
  cases a4 with
  | q b1 b2 b3 => exact ⟨_, _, a1, b1, b2, b3⟩
theorem s_dput (i : Nat) {j : Nat} {x : Str} {k e : Expr} {fk fv : Env → R D} {xp sp : Pos} (hr : Room j X.A) (he : PE X e (tD L fl .s W fv)) (hk : PE X k (tD L fl .s W fk)) (hs : fl[i]? = some .q := by rfl) (hN : X.N[i]? = some x := by rfl) (hv : Vis X.env.scope x := by first | exact Or.inl rfl | exact Or.inr (Or.inl rfl) | exact Or.inr (Or.inr rfl)) (hd : (x == ("__debug__" : Str)) = false := by decide)
    (hcd : (x == ("__classdict__" : Str)) = false := by decide) (hsw : swapsWith e (some (.Subscript (.Name x xp) k sp)) pos.line X.env = pure false := by rfl) :
    PS X (.Assign [.Subscript (.Name x xp) k sp] e pos) (tS L J fl fl W (sDPut i fk fv)) :=
  (ps_dput (hu_of hr) (pv i hN hv hd hcd) hk he hsw).imp fun D σ H ⟨F, B, ρ, r, p⟩ => by
    refine ⟨F, B, ρ, r, PostS.bindE r p fun d v F1 H1 S1 _ e1 r1 o1 _ _ p1 => ?_⟩
    have dv := (own_d o1).1
    cases q : getQ ρ i with
    | none => rw [q] at p1; exact p1.elim
    | some kv =>
      obtain ⟨ks, vs⟩ := kv
      rw [q] at p1
      dsimp only at p1
      obtain ⟨p0, us, a1, _⟩ := r1.dict q hs
      refine ⟨.ref p0, a1, F1, B, ρ, r1, PostS.bindE r1 p1 fun dk y F2 H2 S2 _ e2 r2 o2 _ _ p2 => ?_⟩
      cases qk : keyOf dk with
      | none => rw [qk] at p2; exact p2.elim
      | some kk =>
        rw [qk] at p2
        dsimp only at p2
        by_cases hl : ks.length < LN
        · rw [if_pos hl] at p2
          have ey := keyOf_v (own_d o2).1 qk
          subst ey
          obtain ⟨p1', us2, b1, b2, b3, b4⟩ := r2.dict q hs
          have epp : p1' = p0 := by
            rw [a1] at b1
            cases b1
            rfl
          subst epp
          obtain ⟨pp, c1, _, _, _, _, up⟩ := r2.mutG hs (getQ_some q) (fun v S o => by cases o; exact ⟨_, rfl, rfl⟩)
          have epq : pp = p1' := by
            rw [b1] at c1
            cases c1
            rfl
          subst epq
          obtain ⟨us', z1, z2, z3⟩ := putK_zip (f := DKey.k) (fun a b => DKey.k_inj) (k := kk) (v := v) (d := d) b3 b4 (dv.mono e2.ff.sm)
          refine ⟨pp, _, rfl, DPut.k b2 (by rw [List.length_zip, List.length_map]; exact lt_line (by omega)), ?_⟩
          rw [z1]
          exact p2 _ F2 _ (.refl _) (up F2 H2 _ _ (.refl r2.bs.fh r2.bs.nf) rfl (.q upd_same z2 z3))
        · rw [if_neg hl] at p2; exact p2.elim
theorem nosl {X : Cx} {i : Expr} (h : ∀ ov iv, subscripted i false ov iv = operate [ov, iv] (getItem ov iv)) : NoSl i := h
theorem e_dget (i : Nat) {j : Nat} {x : Str} {k : Expr} {fk : Env → R D} {xp : Pos} {bw : Bool} (hr : Room j X.A) (hk : PE X k (tD L fl .s W fk)) (hs : fl[i]? = some .q := by rfl) (hN : X.N[i]? = some x := by rfl) (hv : Vis X.env.scope x := by first | exact Or.inl rfl | exact Or.inr (Or.inl rfl) | exact Or.inr (Or.inr rfl)) (hd : (x == ("__debug__" : Str)) = false := by decide)
    (hcd : (x == ("__classdict__" : Str)) = false := by decide) (hsl : NoSl k := by exact fun _ _ => rfl) : PE X (.Subscript (.Name x xp) k pos) (tD L fl (.d bw) W (mDGet i fk)) :=
  (pe_dget (hu_of hr) (pv i hN hv hd hcd) hk hsl).imp fun σ H Q ⟨F, B, ρ, r, p⟩ => by
    unfold mDGet at p
    cases q : getQ ρ i with
    | none => rw [q] at p; exact p.elim
    | some kv =>
      obtain ⟨ks, vs⟩ := kv
      rw [q] at p
      dsimp only at p
      obtain ⟨p0, us, a1, a2, a3, a4⟩ := r.dict q hs
      refine ⟨.ref p0, a1, tD_bind rfl r (sh := .s) p fun dk y F1 H1 S1 _ e1 r1 o1 _ _ p1 => ?_⟩
      cases qk : keyOf dk with
      | none => rw [qk] at p1; exact p1.elim
      | some kk =>
        rw [qk] at p1
        dsimp only at p1
        have ey := keyOf_v (own_d o1).1 qk
        subst ey
        cases qd : dgetV ks vs kk with
        | none => rw [qd] at p1; exact p1.elim
        | some d =>
          rw [qd] at p1
          obtain ⟨v, g1, g2⟩ := (dget_dat (f := DKey.k) (fun a b => DKey.k_inj) (k := kk) (ks := ks) a4).1 d qd
          refine ⟨p0, v, rfl, ?_, postE_ok p1 e1 (dat_lift e1.fh (g2.mono e1.ff.sm))⟩
          rw [← g1]
          exact DGet.k (e1.hh _ _ a2 rfl)
theorem e_din (i : Nat) {j : Nat} {x : Str} {k : Expr} {fk : Env → R D} {xp : Pos} {bw : Bool} (hr : Room j X.A) (hk : PE X k (tD L fl .s W fk)) (hs : fl[i]? = some .q := by rfl) (hN : X.N[i]? = some x := by rfl) (hv : Vis X.env.scope x := by first | exact Or.inl rfl | exact Or.inr (Or.inl rfl) | exact Or.inr (Or.inr rfl)) (hd : (x == ("__debug__" : Str)) = false := by decide)
    (hcd : (x == ("__classdict__" : Str)) = false := by decide) (hb : behindInMarks .In (.Name x xp) = false := by first | exact nobehind _ (by decide) (by decide) | rfl) : PE X (.Compare k [.In] [.Name x xp] pos) (tD L fl (.d bw) W (mDIn i fk)) :=
  (pe_cmp (pc_din (hu_of hr) hk (pv i hN hv hd hcd)) hb).imp fun σ H Q ⟨F, B, ρ, r, p⟩ => by
    unfold mDIn at p
    cases q : getQ ρ i with
    | none => rw [q] at p; exact p.elim
    | some kv =>
      obtain ⟨ks, vs⟩ := kv
      rw [q] at p
      dsimp only at p
      refine tD_bind rfl r (sh := .s) p fun dk y F1 H1 S1 _ e1 r1 o1 _ _ p1 => ?_
      cases qk : keyOf dk with
      | none => rw [qk] at p1; exact p1.elim
      | some kk =>
        rw [qk] at p1
        dsimp only at p1
        have ey := keyOf_v (own_d o1).1 qk
        subst ey
        obtain ⟨p0, us, a1, a2, a3, a4⟩ := r1.dict q hs
        refine ⟨.ref p0, a1, p0, _, rfl, DGet.k (k := kk.k) a2, ?_⟩
        have e : (valV ((ks.map DKey.k).zip us) kk.k).isSome = (dgetV ks vs kk).isSome := by
          obtain ⟨g1, g2⟩ := dget_dat (f := DKey.k) (fun a b => DKey.k_inj) (k := kk) (ks := ks) a4
          cases qd : dgetV ks vs kk with
          | none => rw [g2 qd]; rfl
          | some d =>
            obtain ⟨v, z, _⟩ := g1 d qd
            rw [z]; rfl
        rw [e]
        exact postE_ok p1 e1 .bl
theorem e_dget2 (i : Nat) {j : Nat} {x : Str} {k z : Expr} {fk fz : Env → R D} {xp apos : Pos} {bw : Bool} (hr : Room j X.A) (hk : PE X k (tD L fl .s W fk)) (hz : PE X z (tD L fl .s W fz)) (m : M2 X (.Name x xp) "get" apos k z pos := by exact ⟨rfl, rfl, rfl, rfl⟩) (hs : fl[i]? = some .q := by rfl) (hN : X.N[i]? = some x := by rfl) (hv : Vis X.env.scope x := by first | exact Or.inl rfl | exact Or.inr (Or.inl rfl) | exact Or.inr (Or.inr rfl)) (hd : (x == ("__debug__" : Str)) = false := by decide)
    (hcd : (x == ("__classdict__" : Str)) = false := by decide) : PE X (.Call (.Attribute (.Name x xp) "get" apos) [k, z] [] pos) (tD L fl (.d bw) W (mDGet2 i fk fz)) :=
  (pe_dget2 (hu_of hr) (pv i hN hv hd hcd) hk hz m).imp fun σ H Q ⟨F, B, ρ, r, p⟩ => by
    unfold mDGet2 at p
    cases q : getQ ρ i with
    | none => rw [q] at p; exact p.elim
    | some kv =>
      obtain ⟨ks, vs⟩ := kv
      rw [q] at p
      dsimp only at p
      obtain ⟨p0, us, a1, a2, a3, a4⟩ := r.dict q hs
      refine ⟨.ref p0, a1, p0, rfl, .inl ⟨_, .inl a2⟩, tD_bind rfl r (sh := .s) p fun dk y F1 H1 S1 _ e1 r1 o1 _ _ p1 => ?_⟩
      refine tD_bind rfl r1 (sh := .s) (p1.weak e1) fun dz zv F2 H2 S2 _ e2 r2 o2 _ _ p2 => ?_
      have p2 := p2.weak e2
      cases qk : keyOf dk with
      | none => rw [qk] at p2; exact p2.elim
      | some kk =>
        rw [qk] at p2
        have p2 : PostE L F2 H2 (.d bw) (.ok ((dgetV ks vs kk).getD dz)) W σ Q := p2
        have ey := keyOf_v (own_d o1).1 qk
        subst ey
        have e12 := e1.trans e2
        have a4' := a4.mono e12.ff.sm
        refine ⟨_, DGet.k (k := kk.k) (e12.hh _ _ a2 rfl), ?_⟩
        obtain ⟨g1, g2⟩ := dget_dat (f := DKey.k) (fun a b => DKey.k_inj) (k := kk) (ks := ks) a4'
        refine postE_ok p2 r2.refl (dat_lift r2.bs.fh ?_)
        cases qd : dgetV ks vs kk with
        | none => rw [g2 qd]; exact (own_d o2).1
        | some d =>
          obtain ⟨v, w1, w2⟩ := g1 d qd
          rw [w1]; exact w2
end
end PD
set_option Elab.async false
set_option linter.all false
set_option maxRecDepth 100000
set_option maxHeartbeats 1000000
/-! # text[::-1] -/
namespace L2
open PySem PySem.Spec PyProof.Rows
variable {X : Cx}
def tRevS (te : TE) : TE := fun σ H Q => te σ H fun x H1 => ∃ z : Str, x = .str z ∧ z.length ≤ sizeLine ∧ Q (.str ⟨z.cps.toList.reverse.toArray⟩) H1
theorem rev_by (z : Str) (u : Tok) : (Txt.sliceBy z none none (-1, u)) = ⟨z.cps.toList.reverse.toArray⟩ := by
  have h := step_rev_list z u
  have e : ((List.range z.length).map fun k => z.cps.getD (z.length - 1 - k) 0) = z.cps.toList.reverse := by
    refine List.ext_getElem (by simp [Str.length]) fun i h1 h2 => ?_
    rw [List.getElem_map, List.getElem_range, List.getElem_reverse]
    rw [List.length_map, List.length_range] at h1
    have h3 : z.cps.toList.length - 1 - i < z.cps.size := by
      rw [Array.length_toList]
      have : z.length = z.cps.size := rfl
      omega
    show z.cps.getD (z.cps.size - 1 - i) 0 = _
    simp only [Array.length_toList] at h3 ⊢
    simp [Array.getD, h3]
  rw [e] at h
  generalize Txt.sliceBy z none none (-1, u) = y at h
  obtain ⟨c⟩ := y
  have : c = z.cps.toList.reverse.toArray := by
    rw [← h]
  rw [this]
theorem pe_revS {e : Expr} {te : TE} {k : Nat} {p1 p2 p3 pos : Pos} (he : PE X e te) : PE X (.Subscript e (.Slice none none (some (.UnaryOp .USub (.Constant (.int 1) k p1) p2)) p3) pos) (tRevS te) := by
  refine ⟨fun pins s σ H Q I h => ?_⟩
  refine Subscript_ (thn (he.run pins s σ H _ I h) fun v s1 ⟨x, H1, I1, r1, q1⟩ => ?_)
  obtain ⟨z, ex, hz, q⟩ := q1
  subst ex
  obtain ⟨t, rfl⟩ := r1
  have hst : PO X (some (.UnaryOp .USub (.Constant (.int 1) k p1) p2)) (tPart (tUn (rU fun i => .int (-i)) (tC (.int 1)))) := po_some (pe_un un_neg pe_int)
  refine wpAny_Slice (thn (po_none.run pins s1 σ H1 (fun o H2 => o = none ∧ H2 = H1) I1 ⟨rfl, rfl⟩) fun vl s2 ⟨l, H2, I2, pl, el, e2⟩ => ?_)
  subst el e2
  refine thn (po_none.run pins s2 σ H2 (fun o H3 => o = none ∧ H3 = H2) I2 ⟨rfl, rfl⟩) fun vu s3 ⟨u, H3, I3, pu, eu, e3⟩ => ?_
  subst eu e3
  refine thn (hst.run pins s3 σ H3 (fun o H4 => o = some (-1) ∧ H4 = H3) I3 ⟨1, rfl, -1, rfl, rfl, rfl⟩) fun vs s4 ⟨o, H4, I4, ps, eo, e4⟩ => ?_
  subst eo e4
  have I5 : Inv X pins σ H4 { s4 with heap := s4.heap.push { cls := .type "slice", data := .fields #[vl, vu, vs] } } := I4.kept (t' := s4.toks) fun b ob q => Heap.get?_push_of_some _ q
  show wpAny (model X.prog X.w) X.A (subscriptTail e (.Slice none none (some (.UnaryOp .USub (.Constant (.int 1) k p1) p2)) p3) (.str z t) (.ref s4.heap.objs.size)) (EP X pins σ Q) X.xe { s4 with heap := s4.heap.push { cls := .type "slice", data := .fields #[vl, vu, vs] } }
  refine tail_any (ops := [.str z t, .ref s4.heap.objs.size]) (typeIs_str _ _ _) (F.slot_str_getitem.lookup) ?_ (by with_unfolding_all rfl)
  obtain ⟨l, rfl, hl⟩ := IsPart.raw pl
  obtain ⟨u, rfl, hu⟩ := IsPart.raw pu
  obtain ⟨st, rfl, hs⟩ := IsPart.raw ps
  cases l with
  | some a => cases hl
  | none =>
  cases u with
  | some a => cases hu
  | none =>
  cases st with
  | none => cases hs
  | some a =>
  obtain ⟨i, tt⟩ := a
  have : i = -1 := by cases hs; rfl
  subst this
  refine wpAny_getItem_str_slice (l := none) (u := none) (st := some (-1, tt)) (Heap.IsSliceOf.new _ _ _ _) rfl ?_
  have rb := rev_by z tt
  unfold Txt.sliceBy at rb
  unfold sliceMade
  have c : ¬ ((((((some ((-1 : Int), tt)).map (·.1)).getD 1 == 1) && ((slicePicked z none none (some ((-1 : Int), tt))).length == z.length)) = true)) := by
    have : (((some ((-1 : Int), tt)).map (·.1)).getD 1 == 1) = false := rfl
    rw [this, Bool.false_and]
    exact Bool.false_ne_true
  rw [if_neg c] at rb ⊢
  rw [rb]
  have hl : (⟨z.cps.toList.reverse.toArray⟩ : Str).length ≤ sizeLine := by
    refine Nat.le_trans (Nat.le_of_eq ?_) hz
    show (z.cps.toList.reverse.toArray).size = z.cps.size
    simp
  exact ⟨hl, .str _, _, I5.tok _, ⟨_, rfl⟩, q⟩
end L2
namespace PD
open PySem PySem.Spec PyProof.Rows L2
def dRevS : D → Option D
  | .str s => if s.length ≤ LN then some (.str s.reverse) else none
  | _ => none
section
variable {X : Cx} {L : LE} {fl : List Sh} {W : WX} {pos : Pos}
theorem e_revS {e : Expr} {f : Env → R D} {k : Nat} {p1 p2 p3 : Pos} {bw : Bool} (he : PE X e (tD L fl .s W f)) : PE X (.Subscript e (.Slice none none (some (.UnaryOp .USub (.Constant (.int 1) k p1) p2)) p3) pos) (tD L fl (.d bw) W (m1 dRevS f)) :=
  (pe_revS he).imp fun σ H Q ⟨F, B, ρ, r, p⟩ => by
    refine tD_bind rfl r (k := fun d => oR (dRevS d)) p fun d v F1 H1 S1 _ e1 r1 o1 _ _ p1 => ?_
    have dv := (own_d o1).1
    cases d with
    | str s =>
      cases dv
      by_cases h : s.length ≤ LN
      · have q : oR (dRevS (.str s)) = .ok (.str s.reverse) := by
          show oR (if _ then _ else _) = _
          rw [if_pos h]; rfl
        rw [q] at p1
        exact ⟨_, rfl, le_line h, postE_ok p1 e1 (dat_lift e1.fh .str)⟩
      · have q : oR (dRevS (.str s)) = .stuck := by
          show oR (if _ then _ else _) = _
          rw [if_neg h]; rfl
        rw [q] at p1; exact p1.elim
    | _ => exact p1.elim
end
end PD
set_option linter.all false
set_option maxRecDepth 100000
namespace PD
open PySem PyProof.Rows L2
/-! # Running mirrors by simp -/
section
variable {α : Type} {ρ ρ' : Env} {d x y z : D} {i j : Nat}
@[simp] theorem oR_some {a : α} : oR (some a) = .ok a := Eq.trans rfl rfl
@[simp] theorem oR_none : (oR (none : Option α)) = .stuck := Eq.trans rfl rfl
@[simp] theorem okb {β : Type} {a : α} {k : α → R β} : ((R.ok a : R α) >>= k) = k a := Eq.trans rfl rfl
@[simp] theorem mV_0 : mV 0 (some d :: ρ) = .ok d := Eq.trans rfl rfl
@[simp] theorem mV_s {o : Option D} : mV (i + 1) (o :: ρ) = mV i ρ := by unfold mV; rw [List.getElem?_cons_succ]
@[simp] theorem mC_eq : mC d ρ = .ok d := Eq.trans rfl rfl
def k1 (g : D → Option D) : R D → R D := fun r => r >>= fun x => oR (g x)
@[simp] theorem k1_ok {g : D → Option D} : k1 g (.ok x) = oR (g x) := Eq.trans rfl rfl
@[simp] theorem m1_eq {g : D → Option D} {f : Env → R D} : m1 g f ρ = k1 g (f ρ) := Eq.trans rfl rfl
def k2 (g : D → D → Option D) : R D → R D → R D := fun r s => r >>= fun x => s >>= fun y => oR (g x y)
@[simp] theorem k2_ok {g : D → D → Option D} : k2 g (.ok x) (.ok y) = oR (g x y) := Eq.trans rfl rfl
@[simp] theorem m2_eq {g : D → D → Option D} {f h : Env → R D} : m2 g f h ρ = k2 g (f ρ) (h ρ) := Eq.trans rfl rfl
def kN {β : Type} (g : List D → Option β) : R (List D) → R β := fun r => r >>= fun x => oR (g x)
@[simp] theorem kN_ok {β : Type} {g : List D → Option β} {xs : List D} : kN g (.ok xs) = oR (g xs) := Eq.trans rfl rfl
@[simp] theorem mN_eq {g : List D → Option D} {f : Env → R (List D)} : mN g f ρ = kN g (f ρ) := Eq.trans rfl rfl
@[simp] theorem iArgs_eq {g : List D → Option (List D)} {f : Env → R (List D)} : iArgs g f ρ = kN g (f ρ) := Eq.trans rfl rfl
def kO {β : Type} (g : D → Option β) : R D → R β := fun r => r >>= fun x => oR (g x)
@[simp] theorem kO_ok {β : Type} {g : D → Option β} : kO g (.ok x) = oR (g x) := Eq.trans rfl rfl
@[simp] theorem iOf_eq {g : D → Option (List D)} {f : Env → R D} : iOf g f ρ = kO g (f ρ) := Eq.trans rfl rfl
@[simp] theorem mB_eq {f : Env → R D} : mB f ρ = kO dBool (f ρ) := Eq.trans rfl rfl
@[simp] theorem mTru_eq {f : Env → R D} : mTru f ρ = kO dTru (f ρ) := Eq.trans rfl rfl
@[simp] theorem mSo_eq {f : Env → R D} : mSo f ρ = kO dInt? (f ρ) := Eq.trans rfl rfl
@[simp] theorem mNo_eq : mNo ρ = .ok none := Eq.trans rfl rfl
@[simp] theorem mNil_eq : mNil ρ = .ok [] := Eq.trans rfl rfl
def kC : R D → R (List D) → R (List D) := fun r s => r >>= fun x => s >>= fun xs => .ok (x :: xs)
@[simp] theorem kC_ok {xs : List D} : kC (.ok x) (.ok xs) = .ok (x :: xs) := Eq.trans rfl rfl
@[simp] theorem mCons_eq {f : Env → R D} {g : Env → R (List D)} : mCons f g ρ = kC (f ρ) (g ρ) := Eq.trans rfl rfl
@[simp] theorem dBool_bl {b : Bool} : dBool (.bl b) = some b := Eq.trans rfl rfl
@[simp] theorem dInt?_int {a : Int} : dInt? (.int a) = some (some a) := Eq.trans rfl rfl
/-- a test's two ways -/
def kIf {β : Type} (f g : Env → R β) (ρ : Env) : R Bool → R β := fun r => r >>= fun b => if b = true then f ρ else g ρ
@[simp] theorem kIf_t {β : Type} {f g : Env → R β} : kIf f g ρ (.ok true) = f ρ := Eq.trans rfl rfl
@[simp] theorem kIf_f {β : Type} {f g : Env → R β} : kIf f g ρ (.ok false) = g ρ := Eq.trans rfl rfl
theorem kIf_d {β : Type} {f g : Env → R β} {p : Prop} [Decidable p] : kIf f g ρ (.ok (decide p)) = if p then f ρ else g ρ := by by_cases h : p <;> simp [h]
@[simp] theorem mIf_eq {c : Env → R Bool} {f g : Env → R D} : mIf c f g ρ = kIf f g ρ (c ρ) := Eq.trans rfl rfl
def kAnd (g : Env → R Bool) (ρ : Env) : R Bool → R Bool := fun r => r >>= fun b => if b = true then g ρ else .ok false
@[simp] theorem kAnd_t {g : Env → R Bool} : kAnd g ρ (.ok true) = g ρ := Eq.trans rfl rfl
@[simp] theorem kAnd_f {g : Env → R Bool} : kAnd g ρ (.ok false) = .ok false := Eq.trans rfl rfl
@[simp] theorem mAnd_eq {f g : Env → R Bool} : mAnd f g ρ = kAnd g ρ (f ρ) := Eq.trans rfl rfl
def kOr (g : Env → R Bool) (ρ : Env) : R Bool → R Bool := fun r => r >>= fun b => if b = true then .ok true else g ρ
@[simp] theorem kOr_t {g : Env → R Bool} : kOr g ρ (.ok true) = .ok true := Eq.trans rfl rfl
@[simp] theorem kOr_f {g : Env → R Bool} : kOr g ρ (.ok false) = g ρ := Eq.trans rfl rfl
@[simp] theorem mOr_eq {f g : Env → R Bool} : mOr f g ρ = kOr g ρ (f ρ) := Eq.trans rfl rfl
def kNot : R Bool → R Bool := fun r => r >>= fun b => .ok (!b)
@[simp] theorem kNot_ok {b : Bool} : kNot (.ok b) = .ok (!b) := Eq.trans rfl rfl
@[simp] theorem mNot_eq {f : Env → R Bool} : mNot f ρ = kNot (f ρ) := Eq.trans rfl rfl
def kAndV (g : Env → R D) (ρ : Env) : R D → R D := fun r => r >>= fun d => oR (dBool d) >>= fun b => if b = true then g ρ else .ok (.bl false)
@[simp] theorem kAndV_t {g : Env → R D} : kAndV g ρ (.ok (.bl true)) = g ρ := Eq.trans rfl rfl
@[simp] theorem kAndV_f {g : Env → R D} : kAndV g ρ (.ok (.bl false)) = .ok (.bl false) := Eq.trans rfl rfl
@[simp] theorem mAndV_eq {f g : Env → R D} : mAndV f g ρ = kAndV g ρ (f ρ) := Eq.trans rfl rfl
def kOrV (g : Env → R D) (ρ : Env) : R D → R D := fun r => r >>= fun d => oR (dBool d) >>= fun b => if b = true then .ok (.bl true) else g ρ
@[simp] theorem kOrV_t {g : Env → R D} : kOrV g ρ (.ok (.bl true)) = .ok (.bl true) := Eq.trans rfl rfl
@[simp] theorem kOrV_f {g : Env → R D} : kOrV g ρ (.ok (.bl false)) = g ρ := Eq.trans rfl rfl
@[simp] theorem mOrV_eq {f g : Env → R D} : mOrV f g ρ = kOrV g ρ (f ρ) := Eq.trans rfl rfl
def kCh (g' : D → D → Option D) (c : Env → R D) (ρ : Env) (y : D) : Option D → R D := fun o => oR o >>= fun z => oR (dBool z) >>= fun k => if k = true then c ρ >>= fun u => oR (g' y u) else .ok (.bl false)
def kCh0 (g g' : D → D → Option D) (c : Env → R D) (ρ : Env) : R D → R D → R D := fun a b => a >>= fun x => b >>= fun y => kCh g' c ρ y (g x y)
@[simp] theorem kCh0_ok {g g' : D → D → Option D} {c : Env → R D} : kCh0 g g' c ρ (.ok x) (.ok y) = kCh g' c ρ y (g x y) := Eq.trans rfl rfl
@[simp] theorem kCh_t {g' : D → D → Option D} {c : Env → R D} : kCh g' c ρ y (some (.bl true)) = k2 g' (.ok y) (c ρ) := Eq.trans rfl rfl
@[simp] theorem kCh_f {g' : D → D → Option D} {c : Env → R D} : kCh g' c ρ y (some (.bl false)) = .ok (.bl false) := Eq.trans rfl rfl
@[simp] theorem mChain_eq {g g' : D → D → Option D} {a b c : Env → R D} : mChain g g' a b c ρ = kCh0 g g' c ρ (a ρ) (b ρ) := Eq.trans rfl rfl
def kAt : R D → R D := fun r => r >>= fun d => if isAtom d = true then .ok d else .stuck
@[simp] theorem kAt_ok : kAt (.ok d) = if isAtom d = true then .ok d else .stuck := Eq.trans rfl rfl
@[simp] theorem mAt_eq {f : Env → R D} : mAt f ρ = kAt (f ρ) := Eq.trans rfl rfl
def kSl (g : D → Option Int → Option Int → Option D) : R D → R (Option Int) → R (Option Int) → R D := fun a l h => a >>= fun x => l >>= fun l => h >>= fun h => oR (g x l h)
@[simp] theorem kSl_ok {g : D → Option Int → Option Int → Option D} {l h : Option Int} : kSl g (.ok x) (.ok l) (.ok h) = oR (g x l h) := Eq.trans rfl rfl
@[simp] theorem mSl_eq {g : D → Option Int → Option Int → Option D} {f : Env → R D} {l h : Env → R (Option Int)} : mSl g f l h ρ = kSl g (f ρ) (l ρ) (h ρ) := Eq.trans rfl rfl
def kM (g : List Nat → List D → Option D) : R D → R (List D) → R D := fun a r => a >>= fun o => match o with
  | .str s => r >>= fun xs => oR (g s xs)
  | _ => .stuck
@[simp] theorem kM_ok {g : List Nat → List D → Option D} {s : List Nat} {xs : List D} : kM g (.ok (.str s)) (.ok xs) = oR (g s xs) := Eq.trans rfl rfl
@[simp] theorem mM_eq {g : List Nat → List D → Option D} {f : Env → R D} {fs : Env → R (List D)} : mM g f fs ρ = kM g (f ρ) (fs ρ) := Eq.trans rfl rfl
def kCl (n : Nat) (m : List D → R D) : R (List D) → R D := fun r => r >>= fun ds => if ds.length = n then m ds else .stuck
theorem kCl_ok {n : Nat} {m : List D → R D} {ds : List D} (h : ds.length = n) : kCl n m (.ok ds) = m ds := if_pos h
@[simp] theorem kCl1 {m : List D → R D} : kCl 1 m (.ok [x]) = m [x] := Eq.trans rfl rfl
@[simp] theorem kCl2 {m : List D → R D} : kCl 2 m (.ok [x, y]) = m [x, y] := Eq.trans rfl rfl
@[simp] theorem kCl3 {m : List D → R D} : kCl 3 m (.ok [x, y, z]) = m [x, y, z] := Eq.trans rfl rfl
@[simp] theorem kCl4 {m : List D → R D} : kCl 4 m (.ok [x, y, z, d]) = m [x, y, z, d] := Eq.trans rfl rfl
@[simp] theorem mCall_eq {n : Nat} {m : List D → R D} {f : Env → R (List D)} : mCall n m f ρ = kCl n m (f ρ) := Eq.trans rfl rfl
@[simp] theorem noF_ok {α : Type} {a : α} : noF (.ok a) = .ok a := Eq.trans rfl rfl
@[simp] theorem noF_err {α : Type} {c : PySem.Str} : noF (.err c [] : R α) = .err c [] := Eq.trans rfl rfl
def kClA (n : Nat) (m : List D → R D) : R (List D) → R D := fun r => r >>= fun ds => if ds.length = n then noF (m ds) >>= fun d => if isAtom d = true then .ok d else .stuck else .stuck
@[simp] theorem kClA_ok {n : Nat} {m : List D → R D} {ds : List D} : kClA n m (.ok ds) = kAt (noF (kCl n m (.ok ds))) := by
  show (if ds.length = n then _ else _) = kAt (noF (if ds.length = n then m ds else .stuck))
  by_cases h : ds.length = n
  · rw [if_pos h, if_pos h]; rfl
  · rw [if_neg h, if_neg h]; rfl
@[simp] theorem mCallA_eq {n : Nat} {m : List D → R D} {f : Env → R (List D)} : mCallA n m f ρ = kClA n m (f ρ) := Eq.trans rfl rfl
def kClL (n : Nat) (m : List D → R D) : R (List D) → R D := fun r => r >>= fun ds => if ds.length = n then m ds >>= gNoL else .stuck
def kG : R D → R D := fun r => r >>= gNoL
@[simp] theorem kG_ok : kG (.ok d) = gNoL d := Eq.trans rfl rfl
@[simp] theorem kG_err {c : PySem.Str} {fs : List (PySem.Str × D)} : kG (.err c fs) = .err c fs := Eq.trans rfl rfl
@[simp] theorem kClL_ok {n : Nat} {m : List D → R D} {ds : List D} : kClL n m (.ok ds) = kG (kCl n m (.ok ds)) := by
  show (if ds.length = n then _ else _) = kG (if ds.length = n then m ds else .stuck)
  by_cases h : ds.length = n
  · rw [if_pos h, if_pos h]; rfl
  · rw [if_neg h, if_neg h]; rfl
@[simp] theorem mCallL_eq {n : Nat} {m : List D → R D} {f : Env → R (List D)} : mCallL n m f ρ = kClL n m (f ρ) := Eq.trans rfl rfl
theorem gNoL_ok (h : noL d = true) : gNoL d = .ok d := if_pos h
/-! objects -/
def kMk (c : PySem.Str) (ks : List PySem.Str) (n : Nat) (mi : List D → R (List D)) : R (List D) → R D := fun r => r >>= fun ds => if ds.length = n then mi ds >>= fun vs => .ok (.obj c ks vs) else .stuck
def kOb (c : PySem.Str) (ks : List PySem.Str) : R (List D) → R D := fun r => r >>= fun vs => .ok (.obj c ks vs)
@[simp] theorem kOb_ok {c : PySem.Str} {ks : List PySem.Str} {vs : List D} : kOb c ks (.ok vs) = .ok (.obj c ks vs) := Eq.trans rfl rfl
@[simp] theorem kOb_err {c c' : PySem.Str} {ks : List PySem.Str} {fs : List (PySem.Str × D)} : kOb c ks (.err c' fs) = .err c' fs := Eq.trans rfl rfl
@[simp] theorem kMk_ok1 {c : PySem.Str} {ks : List PySem.Str} {mi : List D → R (List D)} : kMk c ks 1 mi (.ok [d]) = kOb c ks (mi [d]) := Eq.trans rfl rfl
@[simp] theorem kMk_ok2 {c : PySem.Str} {ks : List PySem.Str} {mi : List D → R (List D)} : kMk c ks 2 mi (.ok [d, x]) = kOb c ks (mi [d, x]) := Eq.trans rfl rfl
@[simp] theorem mMake_eq {c : PySem.Str} {ks : List PySem.Str} {n : Nat} {mi : List D → R (List D)} {fs : Env → R (List D)} : mMake c ks n mi fs ρ = kMk c ks n mi (fs ρ) := Eq.trans rfl rfl
def kMkL (c : PySem.Str) (ks : List PySem.Str) (n : Nat) (mi : List D → R (List D)) : R (List D) → R D := fun r => r >>= fun ds => if ds.length = n then (mi ds >>= fun vs => .ok (.obj c ks vs)) >>= gNoL else .stuck
@[simp] theorem kMkL_ok1 {c : PySem.Str} {ks : List PySem.Str} {mi : List D → R (List D)} : kMkL c ks 1 mi (.ok [d]) = kG (kOb c ks (mi [d])) := Eq.trans rfl rfl
@[simp] theorem kMkL_ok2 {c : PySem.Str} {ks : List PySem.Str} {mi : List D → R (List D)} : kMkL c ks 2 mi (.ok [d, x]) = kG (kOb c ks (mi [d, x])) := Eq.trans rfl rfl
@[simp] theorem mMakeL_eq {c : PySem.Str} {ks : List PySem.Str} {n : Nat} {mi : List D → R (List D)} {fs : Env → R (List D)} : mMakeL c ks n mi fs ρ = kMkL c ks n mi (fs ρ) := Eq.trans rfl rfl
def kMt (tab : List (PySem.Str × (List D → R D))) (m : PySem.Str) (n : Nat) : R D → R (List D) → R D := fun r s => r >>= fun o => match o with
  | .obj c ks vs => match tab.lookup c with
    | some mt => if ks.contains m = true then .stuck else s >>= fun ds => if ds.length = n then mt (.obj c ks vs :: ds) else .stuck
    | none => .stuck
  | _ => .stuck
@[simp] theorem mMeth_eq {tab : List (PySem.Str × (List D → R D))} {m : PySem.Str} {n : Nat} {fo : Env → R D} {fs : Env → R (List D)} : mMeth tab m n fo fs ρ = kMt tab m n (fo ρ) (fs ρ) := Eq.trans rfl rfl
theorem kMt_ok {tab : List (PySem.Str × (List D → R D))} {m c : PySem.Str} {n : Nat} {ks : List PySem.Str} {vs ds : List D} {mt : List D → R D} (h : tab.lookup c = some mt) (h2 : ks.contains m = false) (h3 : ds.length = n) : kMt tab m n (.ok (.obj c ks vs)) (.ok ds) = mt (.obj c ks vs :: ds) := by
  show (match tab.lookup c with | some mt => _ | none => _) = _
  rw [h]
  show (if ks.contains m = true then _ else (if ds.length = n then _ else _)) = _
  rw [if_neg (by rw [h2]; exact Bool.false_ne_true), if_pos h3]
def kM0 (tab : List (PySem.Str × (List D → R D))) (m : PySem.Str) : R D → R D := fun r => r >>= fun o => match o with
  | .obj c ks vs => match tab.lookup c with
    | some mt => if ks.contains m = true then .stuck else mt [.obj c ks vs]
    | none => .stuck
  | _ => .stuck
@[simp] theorem mMeth0_eq {tab : List (PySem.Str × (List D → R D))} {m : PySem.Str} {fo : Env → R D} : mMeth0 tab m fo ρ = kM0 tab m (fo ρ) := Eq.trans rfl rfl
theorem kM0_ok {tab : List (PySem.Str × (List D → R D))} {m c : PySem.Str} {ks : List PySem.Str} {vs : List D} {mt : List D → R D} (h : tab.lookup c = some mt) (h2 : ks.contains m = false) : kM0 tab m (.ok (.obj c ks vs)) = mt [.obj c ks vs] := by
  show (match tab.lookup c with | some mt => _ | none => _) = _
  rw [h]
  show (if ks.contains m = true then _ else _) = _
  rw [if_neg (by rw [h2]; exact Bool.false_ne_true)]
theorem dFld_ok {cs : List PySem.Str} {f c : PySem.Str} {ks : List PySem.Str} {vs : List D} (h : c ∈ cs) (h2 : (ks.zip vs).lookup f = some d) : dFld cs f (.obj c ks vs) = some d := by
  show (if c ∈ cs then _ else _) = _
  rw [if_pos h, h2]
@[simp] theorem gSq_l {xs : List D} : gSq (.lst xs) = some xs := Eq.trans rfl rfl
@[simp] theorem gSq_t {xs : List D} : gSq (.tup xs) = some xs := Eq.trans rfl rfl
@[simp] theorem gSq_s {s : List Nat} : gSq (.str s) = some (s.map fun c => .str [c]) := Eq.trans rfl rfl
@[simp] theorem gEn_l {xs : List D} {c : Int} : gEn c (.lst xs) = some (enumL c xs) := Eq.trans rfl rfl
@[simp] theorem dIsC_o {c : PySem.Str} {ks : List PySem.Str} {vs : List D} : dIsC c (.obj c ks vs) = some (.bl true) := if_pos rfl
/-! statements -/
def kS (g : Env → R Fl) : R Fl → R Fl := fun r => r >>= fun r => match r with
  | .nx ρ' => g ρ'
  | r => .ok r
@[simp] theorem kS_nx {g : Env → R Fl} : kS g (.ok (.nx ρ)) = g ρ := Eq.trans rfl rfl
@[simp] theorem kS_rt {g : Env → R Fl} : kS g (.ok (.rt d)) = .ok (.rt d) := Eq.trans rfl rfl
@[simp] theorem kS_bk {g : Env → R Fl} : kS g (.ok (.bk ρ)) = .ok (.bk ρ) := Eq.trans rfl rfl
@[simp] theorem kS_ct {g : Env → R Fl} : kS g (.ok (.ct ρ)) = .ok (.ct ρ) := Eq.trans rfl rfl
@[simp] theorem kS_ex {g : Env → R Fl} {c : PySem.Str} {fs : List (PySem.Str × D)} : kS g (.ok (.ex c fs ρ)) = .ok (.ex c fs ρ) := Eq.trans rfl rfl
@[simp] theorem sSeq_eq {f g : Env → R Fl} : sSeq f g ρ = kS g (f ρ) := Eq.trans rfl rfl
@[simp] theorem sNx_eq : sNx ρ = .ok (.nx ρ) := Eq.trans rfl rfl
@[simp] theorem sBk_eq : sBk ρ = .ok (.bk ρ) := Eq.trans rfl rfl
@[simp] theorem sCt_eq : sCt ρ = .ok (.ct ρ) := Eq.trans rfl rfl
@[simp] theorem sRaise_eq {c : PySem.Str} : sRaise c ρ = .ok (.ex c [] ρ) := Eq.trans rfl rfl
@[simp] theorem sRetN_eq : sRetN ρ = .ok (.rt .non) := Eq.trans rfl rfl
def kSet (i : Nat) (ρ : Env) : R D → R Fl := fun r => liftE r ρ fun d => .ok (.nx (ρ.set i (some d)))
@[simp] theorem kSet_ok : kSet i ρ (.ok d) = .ok (.nx (ρ.set i (some d))) := Eq.trans rfl rfl
@[simp] theorem kSet_err {c : PySem.Str} {fs : List (PySem.Str × D)} : kSet i ρ (.err c fs) = .ok (.ex c fs ρ) := Eq.trans rfl rfl
@[simp] theorem sSet_eq {f : Env → R D} : sSet i f ρ = kSet i ρ (f ρ) := Eq.trans rfl rfl
def kDrop (ρ : Env) : R D → R Fl := fun r => liftE r ρ fun _ => .ok (.nx ρ)
@[simp] theorem kDrop_ok : kDrop ρ (.ok d) = .ok (.nx ρ) := Eq.trans rfl rfl
@[simp] theorem kDrop_err {c : PySem.Str} {fs : List (PySem.Str × D)} : kDrop ρ (.err c fs) = .ok (.ex c fs ρ) := Eq.trans rfl rfl
@[simp] theorem sDrop_eq {f : Env → R D} : sDrop f ρ = kDrop ρ (f ρ) := Eq.trans rfl rfl
def kRet (ρ : Env) : R D → R Fl := fun r => liftE r ρ fun d => .ok (.rt d)
@[simp] theorem kRet_ok : kRet ρ (.ok d) = .ok (.rt d) := Eq.trans rfl rfl
@[simp] theorem kRet_err {c : PySem.Str} {fs : List (PySem.Str × D)} : kRet ρ (.err c fs) = .ok (.ex c fs ρ) := Eq.trans rfl rfl
@[simp] theorem sRet_eq {f : Env → R D} : sRet f ρ = kRet ρ (f ρ) := Eq.trans rfl rfl
def kIfS (f g : Env → R Fl) (ρ : Env) : R Bool → R Fl := fun r => liftE r ρ fun b => if b = true then f ρ else g ρ
@[simp] theorem kIfS_t {f g : Env → R Fl} : kIfS f g ρ (.ok true) = f ρ := Eq.trans rfl rfl
@[simp] theorem kIfS_f {f g : Env → R Fl} : kIfS f g ρ (.ok false) = g ρ := Eq.trans rfl rfl
@[simp] theorem sIf_eq {c : Env → R Bool} {f g : Env → R Fl} : sIf c f g ρ = kIfS f g ρ (c ρ) := Eq.trans rfl rfl
def kFor (T : D → Env → Option Env) (b : Env → R Fl) (ρ : Env) : R (List D) → R Fl := fun r => liftE r ρ fun ds => sLoop T b ds ρ
@[simp] theorem kFor_ok {T : D → Env → Option Env} {b : Env → R Fl} {ds : List D} : kFor T b ρ (.ok ds) = sLoop T b ds ρ := Eq.trans rfl rfl
@[simp] theorem sFor_eq {f : Env → R (List D)} {T : D → Env → Option Env} {b : Env → R Fl} : sFor f T b ρ = kFor T b ρ (f ρ) := Eq.trans rfl rfl
@[simp] theorem getL_0 {xs : List D} : getL (some (.lst xs) :: ρ) 0 = some xs := Eq.trans rfl rfl
@[simp] theorem getL_s {o : Option D} : getL (o :: ρ) (i + 1) = getL ρ i := by unfold getL; rw [List.getElem?_cons_succ]
def kApp (i : Nat) (ρ : Env) : Option (List D) → R D → R Fl := fun o r => match o with
  | some xs => liftE r ρ fun d => if xs.length < LN then .ok (.nx (ρ.set i (some (.lst (xs ++ [d]))))) else .stuck
  | none => .stuck
@[simp] theorem sApp_eq {f : Env → R D} : sApp i f ρ = kApp i ρ (getL ρ i) (f ρ) := Eq.trans rfl rfl
theorem kApp_ok {xs : List D} (h : xs.length < LN) : kApp i ρ (some xs) (.ok d) = .ok (.nx (ρ.set i (some (.lst (xs ++ [d]))))) := if_pos h
@[simp] theorem gSet_eq : gSet i d ρ = some (ρ.set i (some d)) := Eq.trans rfl rfl
/-! comprehensions -/
def kLn : R (List D) → R D := fun r => r >>= fun xs => if xs.length ≤ LN then .ok (.lst xs) else .stuck
theorem kLn_ok {xs : List D} (h : xs.length ≤ LN) : kLn (.ok xs) = .ok (.lst xs) := if_pos h
def kLc (T : D → Env → Option Env) (ft : Env → R Bool) (fe : Env → R D) (ρ : Env) : R (List D) → R D := fun r => r >>= fun ds => kLn (lcGo T ft fe ρ ds)
@[simp] theorem kLc_ok {T : D → Env → Option Env} {ft : Env → R Bool} {fe : Env → R D} {ds : List D} : kLc T ft fe ρ (.ok ds) = kLn (lcGo T ft fe ρ ds) := Eq.trans rfl rfl
@[simp] theorem mLc_eq {fi : Env → R (List D)} {vs : List Nat} {T : D → Env → Option Env} {ft : Env → R Bool} {fe : Env → R D} : mLc fi vs T ft fe ρ = kLc T ft fe (wipeD ρ vs) (fi ρ) := Eq.trans rfl rfl
@[simp] theorem wipeD_1 {v : Nat} : wipeD ρ [v] = ρ.set v none := Eq.trans rfl rfl
@[simp] theorem mYes_eq : mYes ρ = .ok true := Eq.trans rfl rfl
theorem lc_step {T : D → Env → Option Env} {ft : Env → R Bool} {fe : Env → R D} {ds ys : List D} (h : T d ρ = some ρ') (h1 : ft ρ' = .ok true) (h2 : fe ρ' = .ok y) (h3 : lcGo T ft fe ρ ds = .ok ys) : lcGo T ft fe ρ (d :: ds) = .ok (y :: ys) := by
  show (match T d ρ with | none => _ | some ρ' => _) = _
  rw [h]; show (nE (ft ρ') >>= _) = _
  rw [h1]; show (nE (fe ρ') >>= _) = _
  rw [h2]; show (lcGo T ft fe ρ ds >>= _) = _
  rw [h3]; rfl
theorem lc_skip {T : D → Env → Option Env} {ft : Env → R Bool} {fe : Env → R D} {ds ys : List D} (h : T d ρ = some ρ') (h1 : ft ρ' = .ok false) (h3 : lcGo T ft fe ρ ds = .ok ys) : lcGo T ft fe ρ (d :: ds) = .ok ys := by
  show (match T d ρ with | none => _ | some ρ' => _) = _
  rw [h]; show (nE (ft ρ') >>= _) = _
  rw [h1]; exact h3
/-- each item gives one -/
theorem lc_all {T : D → Env → Option Env} {ft : Env → R Bool} {fe : Env → R D} {β : Type} (emb : β → D) (P : β → Prop) : ∀ {ds : List D}, (∀ d ∈ ds, ∃ ρ' y, T d ρ = some ρ' ∧ ft ρ' = .ok true ∧ fe ρ' = .ok (emb y) ∧ P y) → ∃ ys : List β, lcGo T ft fe ρ ds = .ok (ys.map emb) ∧ ys.length = ds.length ∧ ∀ y ∈ ys, P y
  | [], _ => ⟨[], rfl, rfl, fun y m => nomatch m⟩
  | d :: ds, h => by
    obtain ⟨ρ', y, a, b, c, p⟩ := h d (List.mem_cons_self ..)
    obtain ⟨ys, e, l, q⟩ := lc_all emb P (ds := ds) fun d' m => h d' (List.mem_cons_of_mem _ m)
    refine ⟨y :: ys, lc_step a b c e, by rw [List.length_cons, List.length_cons, l], fun z m => ?_⟩
    rcases List.mem_cons.mp m with rfl | m
    · exact p
    · exact q z m
/-- filter and map -/
theorem lc_fm {T : D → Env → Option Env} {ft : Env → R Bool} {fe : Env → R D} {β : Type} (emb : β → D) (p : β → Bool) (g : β → D) : ∀ {xs : List β}, (∀ x ∈ xs, ∃ ρ', T (emb x) ρ = some ρ' ∧ ft ρ' = .ok (p x) ∧ (p x = true → fe ρ' = .ok (g x))) → lcGo T ft fe ρ (xs.map emb) = .ok ((xs.filter p).map g)
  | [], _ => rfl
  | x :: xs, h => by
    obtain ⟨ρ', a, b, c⟩ := h x (List.mem_cons_self ..)
    have e := lc_fm emb p g (xs := xs) fun d' m => h d' (List.mem_cons_of_mem _ m)
    rw [List.map_cons]
    cases q : p x with
    | true =>
      rw [List.filter_cons_of_pos q, List.map_cons]
      exact lc_step a (by rw [b, q]) (c q) e
    | false =>
      rw [List.filter_cons_of_neg (by rw [q]; exact Bool.false_ne_true)]
      exact lc_skip a (by rw [b, q]) e
/-- the body of a def -/
def kF (fall : Bool) : R Fl → R D := fun r => match r with
  | .ok (.nx _) => if fall = true then .ok .non else .stuck
  | .ok (.rt d) => .ok d
  | .ok (.ex c fs _) => .err c fs
  | _ => .stuck
@[simp] theorem kF_rt {fall : Bool} : kF fall (.ok (.rt d)) = .ok d := Eq.trans rfl rfl
@[simp] theorem kF_nx : kF true (.ok (.nx ρ)) = .ok .non := Eq.trans rfl rfl
@[simp] theorem kF_ex {fall : Bool} {c : PySem.Str} {fs : List (PySem.Str × D)} : kF fall (.ok (.ex c fs ρ)) = .err c fs := Eq.trans rfl rfl
theorem mFn_eq {n : Nat} {fall : Bool} {b : Env → R Fl} {ds : List D} : mFn n fall b ds = kF fall (b (ds.map some ++ List.replicate (n - ds.length) none)) := Eq.trans rfl rfl
/-! loops -/
theorem loop_nil {T : D → Env → Option Env} {b : Env → R Fl} : sLoop T b [] ρ = .ok (.nx ρ) := Eq.trans rfl rfl
theorem loop_nx {T : D → Env → Option Env} {b : Env → R Fl} {ds : List D} {ρ1 ρ2 : Env} (h : T d ρ = some ρ1) (hb : b ρ1 = .ok (.nx ρ2)) : sLoop T b (d :: ds) ρ = sLoop T b ds ρ2 := by
  show (match T d ρ with | none => _ | some ρ1 => _) = _
  rw [h]; show (b ρ1 >>= _) = _
  rw [hb]; rfl
theorem loop_rt {T : D → Env → Option Env} {b : Env → R Fl} {ds : List D} {ρ1 : Env} (h : T d ρ = some ρ1) (hb : b ρ1 = .ok (.rt x)) : sLoop T b (d :: ds) ρ = .ok (.rt x) := by
  show (match T d ρ with | none => _ | some ρ1 => _) = _
  rw [h]; show (b ρ1 >>= _) = _
  rw [hb]; rfl
theorem loop_bk {T : D → Env → Option Env} {b : Env → R Fl} {ds : List D} {ρ1 ρ2 : Env} (h : T d ρ = some ρ1) (hb : b ρ1 = .ok (.bk ρ2)) : sLoop T b (d :: ds) ρ = .ok (.nx ρ2) := by
  show (match T d ρ with | none => _ | some ρ1 => _) = _
  rw [h]; show (b ρ1 >>= _) = _
  rw [hb]; rfl
/-- an invariant over a list's items -/
theorem loop_inv {T : D → Env → Option Env} {b : Env → R Fl} (I : Nat → Env → Prop) : ∀ (ds : List D) (k : Nat) (ρ : Env), I k ρ →
    (∀ (j : Nat) (d : D) (ρ : Env), ds[j]? = some d → I (k + j) ρ → ∃ ρ1 ρ2, T d ρ = some ρ1 ∧ b ρ1 = .ok (.nx ρ2) ∧ I (k + j + 1) ρ2) → ∃ ρ', sLoop T b ds ρ = .ok (.nx ρ') ∧ I (k + ds.length) ρ'
  | [], k, ρ, h, _ => ⟨ρ, rfl, h⟩
  | d :: ds, k, ρ, h, hs => by
    obtain ⟨ρ1, ρ2, e1, e2, h2⟩ := hs 0 d ρ rfl h
    obtain ⟨ρ', e3, h3⟩ := loop_inv I ds (k + 1) ρ2 h2 fun j d' ρ' q h' => by
      have := hs (j + 1) d' ρ' (by rw [List.getElem?_cons_succ]; exact q) (by rw [show k + (j + 1) = k + 1 + j by omega]; exact h')
      rw [show k + (j + 1) + 1 = k + 1 + j + 1 by omega] at this
      exact this
    refine ⟨ρ', (loop_nx e1 e2).trans e3, ?_⟩
    rw [List.length_cons, show k + (ds.length + 1) = k + 1 + ds.length by omega]
    exact h3
/-- each item passes or ends the loop -/
theorem loop_pass {T : D → Env → Option Env} {b : Env → R Fl} (I : Env → Prop) (p : D → Bool) (r : D) : ∀ (ds : List D) (ρ : Env), I ρ →
    (∀ d ∈ ds, ∀ ρ, I ρ → ∃ ρ1, T d ρ = some ρ1 ∧ (p d = true → ∃ ρ2, b ρ1 = .ok (.nx ρ2) ∧ I ρ2) ∧ (p d = false → b ρ1 = .ok (.rt r))) →
    (ds.all p = true → ∃ ρ', sLoop T b ds ρ = .ok (.nx ρ') ∧ I ρ') ∧ (ds.all p = false → sLoop T b ds ρ = .ok (.rt r))
  | [], ρ, h, _ => ⟨fun _ => ⟨ρ, rfl, h⟩, fun q => (nomatch q)⟩
  | d :: ds, ρ, h, hs => by
    obtain ⟨ρ1, e1, ht, hf⟩ := hs d (List.mem_cons_self ..) ρ h
    rw [List.all_cons]
    cases q : p d with
    | false => exact ⟨fun z => (nomatch z), fun _ => loop_rt e1 (hf q)⟩
    | true =>
      obtain ⟨ρ2, e2, h2⟩ := ht q
      obtain ⟨a1, a2⟩ := loop_pass I p r ds ρ2 h2 fun d' m => hs d' (List.mem_cons_of_mem _ m)
      rw [Bool.true_and]
      exact ⟨fun z => by
        obtain ⟨ρ', e, h'⟩ := a1 z
        exact ⟨ρ', (loop_nx e1 e2).trans e, h'⟩, fun z => (loop_nx e1 e2).trans (a2 z)⟩
theorem wh_f {c : Env → R Bool} {b : Env → R Fl} {n : Nat} (h : c ρ = .ok false) : sWh c b (n + 1) ρ = .ok (.nx ρ) := by
  show liftE (c ρ) ρ _ = _
  rw [h]; rfl
theorem wh_t {c : Env → R Bool} {b : Env → R Fl} {n : Nat} (h : c ρ = .ok true) (hb : b ρ = .ok (.nx ρ')) : sWh c b (n + 1) ρ = sWh c b n ρ' := by
  show liftE (c ρ) ρ _ = _
  rw [h]; show (b ρ >>= _) = _
  rw [hb]; rfl
theorem wh_rt {c : Env → R Bool} {b : Env → R Fl} {n : Nat} (h : c ρ = .ok true) (hb : b ρ = .ok (.rt x)) : sWh c b (n + 1) ρ = .ok (.rt x) := by
  show liftE (c ρ) ρ _ = _
  rw [h]; show (b ρ >>= _) = _
  rw [hb]; rfl
theorem wh_bk {c : Env → R Bool} {b : Env → R Fl} {n : Nat} (h : c ρ = .ok true) (hb : b ρ = .ok (.bk ρ')) : sWh c b (n + 1) ρ = .ok (.nx ρ') := by
  show liftE (c ρ) ρ _ = _
  rw [h]; show (b ρ >>= _) = _
  rw [hb]; rfl
theorem WFe : WF = 10000000 := rfl
theorem sWhile_eq {c : Env → R Bool} {b : Env → R Fl} : sWhile c b ρ = sWh c b WF ρ := Eq.trans rfl rfl
theorem rngL_get {lo : Int} {n j : Nat} {d : D} (h : (rngL lo n)[j]? = some d) : j < n ∧ d = .int (lo + j) := by
  unfold rngL at h
  rw [List.getElem?_map] at h
  cases q : (List.range n)[j]? with
  | none => rw [q] at h; cases h
  | some k =>
    rw [q] at h
    cases h
    obtain ⟨h1, h2⟩ := List.getElem?_eq_some_iff.mp q
    rw [List.length_range] at h1
    rw [List.getElem_range] at h2
    subst h2
    exact ⟨h1, rfl⟩
theorem rngL_ints {lo : Int} {n : Nat} : rngL lo n = ((List.range n).map fun i : Nat => lo + (i : Int)).map D.int := by unfold rngL; rw [List.map_map]; rfl
theorem rngL0 {n : Nat} : rngL 0 n = ((List.range n).map fun i : Nat => (i : Int)).map D.int := by rw [rngL_ints]; simp
@[simp] theorem rngL_length {lo : Int} {n : Nat} : (rngL lo n).length = n := by unfold rngL; rw [List.length_map, List.length_range]
end
/-! operators -/
section
variable {i j : Int} {s t : List Nat} {xs ys : List D}
@[simp] theorem dAdd_i : dAdd (.int i) (.int j) = some (.int (i + j)) := Eq.trans rfl rfl
theorem dAdd_s (h : s.length + t.length ≤ LN) : dAdd (.str s) (.str t) = some (.str (s ++ t)) := if_pos h
theorem dAdd_l (h : xs.length + ys.length ≤ LN) : dAdd (.lst xs) (.lst ys) = some (.lst (xs ++ ys)) := if_pos h
theorem dCat_l (h : xs.length + ys.length ≤ LN) : dCat (.lst xs) (.lst ys) = some (.lst (xs ++ ys)) := if_pos h
@[simp] theorem dSub_i : dSub (.int i) (.int j) = some (.int (i - j)) := Eq.trans rfl rfl
@[simp] theorem dNeg_i : dNeg (.int i) = some (.int (-i)) := Eq.trans rfl rfl
theorem dMul_i (h : i.natAbs.log2 + j.natAbs.log2 < MB) : dMul (.int i) (.int j) = some (.int (i * j)) := if_pos h
theorem dMul_s (h0 : 0 ≤ j) (h1 : j ≤ 1000000) (h2 : s.length * j.toNat ≤ LN) : dMul (.str s) (.int j) = some (.str (List.replicate j.toNat s).flatten) := if_pos ⟨h0, h1, h2⟩
theorem dMul_l (h0 : -1000000 ≤ j) (h1 : j ≤ 1000000) (h2 : xs.length * j.toNat ≤ LN) : dMul (.lst xs) (.int j) = some (.lst (List.replicate j.toNat xs).flatten) := if_pos ⟨h0, h1, h2⟩
theorem dRep_l (h0 : -1000000 ≤ j) (h1 : j ≤ 1000000) (h2 : xs.length * j.toNat ≤ LN) : dRep (.lst xs) (.int j) = some (.lst (List.replicate j.toNat xs).flatten) := if_pos ⟨h0, h1, h2⟩
theorem dMod_i (h : 0 < j) : dMod (.int i) (.int j) = some (.int (i % j)) := if_pos h
theorem dDiv_i (h : 0 < j) (h2 : j.natAbs.log2 < 9000) : dDiv (.int i) (.int j) = some (.int (i / j)) := if_pos ⟨h, h2⟩
theorem dPow_i (h : 0 ≤ j ∧ j ≤ 1000 ∧ i.natAbs < 2 ^ 64) : dPow (.int i) (.int j) = some (.int (i ^ j.toNat)) := if_pos h
@[simp] theorem dLt_i : dLt (.int i) (.int j) = some (.bl (decide (i < j))) := Eq.trans rfl rfl
@[simp] theorem dLe_i : dLe (.int i) (.int j) = some (.bl (decide (i ≤ j))) := Eq.trans rfl rfl
@[simp] theorem dGt_i : dGt (.int i) (.int j) = some (.bl (decide (j < i))) := Eq.trans rfl rfl
@[simp] theorem dGe_i : dGe (.int i) (.int j) = some (.bl (decide (j ≤ i))) := Eq.trans rfl rfl
@[simp] theorem dEq_i : dEq (.int i) (.int j) = some (.bl (i == j)) := Eq.trans rfl rfl
@[simp] theorem dNe_i : dNe (.int i) (.int j) = some (.bl (!(i == j))) := Eq.trans rfl rfl
theorem beq_t {a b : Int} (h : a = b) : (a == b) = true := by rw [h]; exact beq_self_eq_true b
theorem beq_f {a b : Int} (h : ¬ a = b) : (a == b) = false := by simpa using h
@[simp] theorem dEq_s : dEq (.str s) (.str t) = some (.bl (s == t)) := Eq.trans rfl rfl
@[simp] theorem dNe_s : dNe (.str s) (.str t) = some (.bl (!(s == t))) := Eq.trans rfl rfl
@[simp] theorem dEq_b {a b : Bool} : dEq (.bl a) (.bl b) = some (.bl (a == b)) := Eq.trans rfl rfl
@[simp] theorem dNot_b {b : Bool} : dNot (.bl b) = some (.bl (!b)) := Eq.trans rfl rfl
@[simp] theorem dAbs_i : dAbs [.int i] = some (.int (if i < 0 then -i else i)) := Eq.trans rfl rfl
@[simp] theorem dMin2_i : dMin2 [.int i, .int j] = some (.int (if j < i then j else i)) := Eq.trans rfl rfl
@[simp] theorem dMax2_i : dMax2 [.int i, .int j] = some (.int (if j > i then j else i)) := Eq.trans rfl rfl
@[simp] theorem dInt1_i : dInt1 [.int i] = some (.int i) := Eq.trans rfl rfl
@[simp] theorem dInt1_b {k : Bool} : dInt1 [.bl k] = some (.int (if k then 1 else 0)) := Eq.trans rfl rfl
theorem dLen_s (h : s.length ≤ LN) : dLen [.str s] = some (.int s.length) := if_pos h
@[simp] theorem dLen_l : dLen [.lst xs] = some (.int xs.length) := Eq.trans rfl rfl
@[simp] theorem dLen_t : dLen [.tup xs] = some (.int xs.length) := Eq.trans rfl rfl
@[simp] theorem dLen_c {ns : List Int} : dLen [.scr ns] = some (.int ns.length) := Eq.trans rfl rfl
theorem dLst_ok (h : xs.length ≤ LN) : dLst xs = some (.lst xs) := if_pos h
theorem dTup_ok (h : xs.length ≤ LN) : dTup xs = some (.tup xs) := if_pos h
theorem gR1_ok (h : -LR ≤ j) (h2 : j ≤ LR) : gR1 [.int j] = some (rngL 0 j.toNat) := if_pos ⟨h, h2⟩
theorem gR2_ok (h : -LR ≤ i) (h2 : i ≤ LR) (h3 : -LR ≤ j) (h4 : j ≤ LR) : gR2 [.int i, .int j] = some (rngL i (j - i).toNat) := if_pos ⟨⟨h, h2⟩, h3, h4⟩
@[simp] theorem gL_l : gL (.lst xs) = some xs := Eq.trans rfl rfl
@[simp] theorem gT_t : gT (.tup xs) = some xs := Eq.trans rfl rfl
@[simp] theorem gS_s : gS (.str s) = some (s.map fun c => .str [c]) := Eq.trans rfl rfl
@[simp] theorem dSl_l {lo hi : Option Int} : dSl (.lst xs) lo hi = some (.lst (cutG xs lo hi)) := Eq.trans rfl rfl
@[simp] theorem dSlL_l {lo hi : Option Int} : dSlL (.lst xs) lo hi = some (.lst (cutG xs lo hi)) := Eq.trans rfl rfl
theorem dSl_s {lo hi : Option Int} (h : s.length ≤ LN) : dSl (.str s) lo hi = some (.str (cutG s lo hi)) := if_pos h
@[simp] theorem dFind_s : dFind s [.str t] = some (.int (findI s t 0)) := Eq.trans rfl rfl
theorem dFind3_s (h : 0 ≤ i) : dFind3 s [.str t, .int i] = some (.int (findI s t i.toNat)) := if_pos h
@[simp] theorem dAllS_s {p : Nat → Bool} : dAllS p (.str s) = some (.bl (s.all p)) := Eq.trans rfl rfl
@[simp] theorem dIsi_non {T : String} : dIsi T .non = some (.bl (isiB T .non)) := Eq.trans rfl rfl
@[simp] theorem dIsi_bl {T : String} {b : Bool} : dIsi T (.bl b) = some (.bl (isiB T (.bl b))) := Eq.trans rfl rfl
@[simp] theorem dIsi_int {T : String} : dIsi T (.int i) = some (.bl (isiB T (.int i))) := Eq.trans rfl rfl
@[simp] theorem dIsi_str {T : String} : dIsi T (.str s) = some (.bl (isiB T (.str s))) := Eq.trans rfl rfl
@[simp] theorem dIsi_lst {T : String} : dIsi T (.lst xs) = some (.bl (isiB T (.lst xs))) := Eq.trans rfl rfl
@[simp] theorem dIsi_tup {T : String} : dIsi T (.tup xs) = some (.bl (isiB T (.tup xs))) := Eq.trans rfl rfl
@[simp] theorem isN_non : dIsN .non .non = some (.bl true) := Eq.trans rfl rfl
@[simp] theorem isN_int : dIsN (.int i) .non = some (.bl false) := Eq.trans rfl rfl
@[simp] theorem isN_str : dIsN (.str s) .non = some (.bl false) := Eq.trans rfl rfl
@[simp] theorem isN_lst : dIsN (.lst xs) .non = some (.bl false) := Eq.trans rfl rfl
@[simp] theorem isN_tup : dIsN (.tup xs) .non = some (.bl false) := Eq.trans rfl rfl
@[simp] theorem isN_bl {b : Bool} : dIsN (.bl b) .non = some (.bl false) := Eq.trans rfl rfl
@[simp] theorem notN_non : dNotN .non .non = some (.bl false) := Eq.trans rfl rfl
@[simp] theorem notN_int : dNotN (.int i) .non = some (.bl true) := Eq.trans rfl rfl
@[simp] theorem notN_str : dNotN (.str s) .non = some (.bl true) := Eq.trans rfl rfl
@[simp] theorem notN_lst : dNotN (.lst xs) .non = some (.bl true) := Eq.trans rfl rfl
@[simp] theorem notN_tup : dNotN (.tup xs) .non = some (.bl true) := Eq.trans rfl rfl
theorem ixN_nat {n k : Nat} (h : k < n) : L2.ixN n (k : Int) = some k := by
  unfold L2.ixN
  simp; omega
theorem ixN_of {n : Nat} {i : Int} (h0 : 0 ≤ i) (h : i < n) : L2.ixN n i = some i.toNat := by
  have := ixN_nat (n := n) (k := i.toNat) (by omega)
  rwa [show ((i.toNat : Nat) : Int) = i by omega] at this
@[simp] theorem dIx_lit {n : Nat} : dIx (.lst xs) (.int (no_index (@OfNat.ofNat Int n _))) = xs[(OfNat.ofNat n : Nat)]? := by
  show L2.atI xs ((n : Nat) : Int) = xs[n]?
  unfold L2.atI
  by_cases h : n < xs.length
  · rw [ixN_nat h]; rfl
  · have e : L2.ixN xs.length (n : Int) = none := by unfold L2.ixN; rw [if_pos (by omega), if_neg (by omega)]
    rw [e, List.getElem?_eq_none (by omega)]; rfl
@[simp] theorem dIx_litT {n : Nat} : dIx (.tup xs) (.int (no_index (@OfNat.ofNat Int n _))) = xs[(OfNat.ofNat n : Nat)]? := dIx_lit (xs := xs)
theorem ix_mem {xs : List Int} {i : Int} (h0 : 0 ≤ i) (h : i < xs.length) : ∃ v, dIx (.lst (xs.map .int)) (.int i) = some (.int v) ∧ v ∈ xs ∧ xs[i.toNat]? = some v := by
  obtain ⟨v, hv⟩ : ∃ v, xs[i.toNat]? = some v := ⟨_, List.getElem?_eq_getElem (by omega)⟩
  refine ⟨v, ?_, List.mem_of_getElem? hv, hv⟩
  have hq : i.toNat < (xs.map D.int).length := by rw [List.length_map]; omega
  show L2.atI (xs.map D.int) i = _
  unfold L2.atI
  rw [ixN_of h0 (by rw [List.length_map]; omega)]
  show (xs.map D.int)[i.toNat]? = _
  rw [List.getElem?_map, hv]; rfl
theorem dIx_l {d : D} (h0 : 0 ≤ i) (h : xs[i.toNat]? = some d) : dIx (.lst xs) (.int i) = some d := by
  have hl : i.toNat < xs.length := (List.getElem?_eq_some_iff.mp h).1
  show L2.atI xs i = _
  unfold L2.atI
  rw [ixN_of h0 (by omega)]
  exact h
theorem dIx_t {d : D} (h0 : 0 ≤ i) (h : xs[i.toNat]? = some d) : dIx (.tup xs) (.int i) = some d := dIx_l (xs := xs) h0 h
theorem dIx_s {c : Nat} (hl : s.length ≤ LN) (h0 : 0 ≤ i) (h : s[i.toNat]? = some c) : dIx (.str s) (.int i) = some (.str [c]) := by
  have hq : i.toNat < s.length := (List.getElem?_eq_some_iff.mp h).1
  show (if s.length ≤ LN then _ else _) = _
  rw [if_pos hl]
  unfold L2.atI
  rw [ixN_of h0 (by omega)]
  show (s[i.toNat]?).map _ = _
  rw [h]
  rfl
theorem dIx_c {ns : List Int} {n : Int} (h0 : 0 ≤ i) (h : ns[i.toNat]? = some n) : dIx (.scr ns) (.int i) = some (.int n) := by
  have hq : i.toNat < ns.length := (List.getElem?_eq_some_iff.mp h).1
  show (L2.atI ns i).map _ = _
  unfold L2.atI
  rw [ixN_of h0 (by omega)]
  show (ns[i.toNat]?).map _ = _
  rw [h]
  rfl
/-! joining -/
theorem strsOf_map {β : Type} {f : β → List Nat} : ∀ {xs : List β}, strsOf (xs.map fun x => D.str (f x)) = some (xs.map f)
  | [] => rfl
  | x :: xs => by
    show (strsOf (xs.map fun x => D.str (f x))).map (f x :: ·) = _
    rw [strsOf_map]; rfl
theorem joinD_nil : ∀ {zs : List (List Nat)}, joinD [] zs = zs.flatten
  | [] => rfl
  | [x] => by simp [joinD]
  | x :: y :: r => by
    show x ++ [] ++ joinD [] (y :: r) = _
    rw [joinD_nil]; simp
theorem flat_one {cs : List Nat} : (cs.map fun c => [c]).flatten = cs := by
  induction cs with
  | nil => rfl
  | cons c cs ih => rw [List.map_cons, List.flatten_cons, ih]; rfl
theorem sum_one {cs : List Nat} : ((cs.map fun c => [c]).map List.length).sum = cs.length := by
  induction cs with
  | nil => rfl
  | cons c cs ih => simp only [List.map_cons, List.sum_cons, List.length_cons, List.length_nil] at ih ⊢; rw [ih]; omega
theorem dJoin_one {cs : List Nat} (h : cs.length ≤ LN) : dJoin [] [.lst (cs.map fun c => D.str [c])] = some (.str cs) := by
  have e : strsOf (cs.map fun c => D.str [c]) = some (cs.map fun c => [c]) := strsOf_map
  unfold dJoin
  simp only [e, List.length_map, List.length_nil, Nat.mul_zero, Nat.add_zero, sum_one]
  rw [if_pos h, joinD_nil, flat_one]
/-! slices with ends that are not negative -/
theorem sIx_of {n d : Nat} {a : Int} (h : 0 ≤ a) : HT.sIx n d (some a) = min a.toNat n := by
  have := HT.sIx_nat n d a.toNat
  rwa [show ((a.toNat : Nat) : Int) = a by omega] at this
theorem cut_both {α : Type} {zs : List α} {a b : Int} (ha : 0 ≤ a) (hb : 0 ≤ b) : cutG zs (some a) (some b) = (zs.drop a.toNat).take (b.toNat - a.toNat) := by
  unfold cutG
  rw [sIx_of ha, sIx_of hb]
  by_cases h : a.toNat ≤ zs.length
  · rw [Nat.min_eq_left h]
    by_cases h2 : b.toNat ≤ zs.length
    · rw [Nat.min_eq_left h2]
    · rw [Nat.min_eq_right (by omega), List.take_of_length_le (by rw [List.length_drop]; omega), List.take_of_length_le (by rw [List.length_drop]; omega)]
  · rw [show min a.toNat zs.length = zs.length from Nat.min_eq_right (by omega), List.drop_of_length_le (Nat.le_refl _), List.drop_of_length_le (by omega), List.take_nil, List.take_nil]
theorem cut_to {α : Type} {zs : List α} {b : Int} (hb : 0 ≤ b) : cutG zs none (some b) = zs.take b.toNat := by
  unfold cutG
  rw [sIx_of hb, HT.sIx_none, List.drop_zero, Nat.sub_zero]
  by_cases h2 : b.toNat ≤ zs.length
  · rw [Nat.min_eq_left h2]
  · rw [Nat.min_eq_right (by omega), List.take_of_length_le (Nat.le_refl _), List.take_of_length_le (by omega)]
theorem cut_from {α : Type} {zs : List α} {a : Int} (ha : 0 ≤ a) : cutG zs (some a) none = zs.drop a.toNat := by
  unfold cutG
  rw [sIx_of ha, HT.sIx_none]
  by_cases h : a.toNat ≤ zs.length
  · rw [Nat.min_eq_left h, List.take_of_length_le (by rw [List.length_drop]; omega)]
  · rw [Nat.min_eq_right (by omega), List.drop_of_length_le (Nat.le_refl _), List.drop_of_length_le (by omega), List.take_nil]
end
end PD
set_option linter.all false
set_option maxRecDepth 100000
namespace PM
open PD

def zc3fcd3d7 : List Nat := [97, 98, 99, 100, 101, 102, 103, 104, 105, 106, 107, 108, 109, 110, 111, 112, 113, 114, 115, 116, 117, 118, 119, 120, 121, 122]
def i1_law_cell : Env → R Fl := (sIf (mB (m2 dLt (mV 1) (mN dLen (mCons (mV 0) mNil)))) (sRet (m2 dIx (mV 0) (mV 1))) sNx)
def b_law_cell : Env → R Fl := (sSeq i1_law_cell (sRet (mC (.int 0))))
def m_law_cell : List D → R D := mFn 2 false b_law_cell
def i1_law_draws : Env → R Fl := (sIf (mB (m2 dLt (mV 2) (m2 dPow (mC (.int 10)) (mC (.int 18))))) (sSet 3 (mC (.int 0))) sNx)
def i2_law_draws : Env → R Fl := (sIf (mB (m2 dGt (mV 3) (mC (.int 0)))) (sSeq (sApp 4 (m2 dMod (mN dInt1 (mCons (mV 3) mNil)) (m2 dIx (mV 1) (mV 5)))) (sSet 3 (m2 dDiv (mV 3) (m2 dIx (mV 1) (mV 5))))) (sSeq (sSet 6 (m2 dMod (mN dInt1 (mCons (m2 dAdd (m2 dMul (mV 2) (mC (.int 48271))) (m2 dMul (mC (.int 69621)) (m2 dAdd (mV 5) (mC (.int 1))))) mNil)) (mC (.int 2147483647)))) (sSeq (sSet 6 (m2 dMod (mN dInt1 (mCons (m2 dAdd (m2 dMul (mV 6) (mV 6)) (m2 dMul (mC (.int 40692)) (m2 dAdd (mV 5) (mC (.int 3))))) mNil)) (mC (.int 2147483399)))) (sSeq (sSet 6 (m2 dMod (mN dInt1 (mCons (m2 dAdd (m2 dMul (mV 6) (mV 6)) (mC (.int 16807))) mNil)) (mC (.int 2147483563)))) (sApp 4 (m2 dMod (mN dInt1 (mCons (m2 dDiv (mV 6) (mC (.int 11))) mNil)) (m2 dIx (mV 1) (mV 5))))))))
def l1_law_draws : Env → R Fl := i2_law_draws
def b_law_draws : Env → R Fl := (sSeq (sSet 2 (mN dAbs (mCons (mV 0) mNil))) (sSeq (sSet 3 (mV 2)) (sSeq i1_law_draws (sSeq (sSet 4 (mN dLst mNil)) (sSeq (sFor (iArgs gR1 (mCons (mN dLen (mCons (mV 1) mNil)) mNil)) (gSet 5) l1_law_draws) (sRet (mV 4)))))))
def m_law_draws : List D → R D := mFn 7 false b_law_draws
def b_law_letter : Env → R Fl := (sRet (m2 dIx (mC (.str zc3fcd3d7)) (m2 dMod (mN dInt1 (mCons (mV 0) mNil)) (mC (.int 26)))))
def m_law_letter : List D → R D := mFn 1 false b_law_letter
def i1_law_size : Env → R Fl := (sIf (mB (m2 dLt (mV 0) (mC (.int 6)))) (sRet (m2 dAdd (mC (.int 1)) (m2 dMod (mN dInt1 (mCons (mV 1) mNil)) (mN dMin2 (mCons (mC (.int 9)) (mCons (mV 2) mNil)))))) sNx)
def i2_law_size : Env → R Fl := (sIf (mB (m2 dLt (mV 0) (mC (.int 9)))) (sRet (m2 dAdd (mC (.int 1)) (m2 dMod (mN dInt1 (mCons (mV 1) mNil)) (mN dMin2 (mCons (mC (.int 18)) (mCons (mV 2) mNil)))))) sNx)
def b_law_size : Env → R Fl := (sSeq i1_law_size (sSeq i2_law_size (sRet (m2 dAdd (mC (.int 1)) (m2 dMod (mN dInt1 (mCons (mV 1) mNil)) (mV 2))))))
def m_law_size : List D → R D := mFn 3 false b_law_size
def c1_law_text : Env → R D := (mLc (iOf gL (mSl dSl (mCall 2 m_law_draws (mCons (mV 0) (mCons (m2 dAdd (mV 2) (m2 dMul (mN dLst (mCons (mC (.int 26)) mNil)) (mV 4))) mNil))) (mSo (mC (.int 7))) mNo)) [13] (gSet 13) mYes (m2 dMod (mN dInt1 (mCons (mV 13) mNil)) (mV 7)))
def c2_law_text : Env → R D := (mLc (iArgs gR1 (mCons (mV 4) mNil)) [12] (gSet 12) mYes (m2 dIx (mV 8) (m2 dMod (mN dInt1 (mCons (mV 12) mNil)) (mN dMin2 (mCons (mV 9) (mCons (mV 4) mNil))))))
def i1_law_text : Env → R Fl := (sIf (mOr (mB (m2 dEq (m2 dIx (mV 3) (mC (.int 5))) (mC (.int 3)))) (mB (m2 dEq (m2 dIx (mV 3) (mC (.int 5))) (mC (.int 4))))) (sSeq (sSet 9 (m2 dAdd (mC (.int 1)) (m2 dDiv (m2 dIx (mV 3) (mC (.int 6))) (mC (.int 2))))) (sSet 8 c2_law_text)) sNx)
def c3_law_text : Env → R D := (mLc (iArgs gR1 (mCons (mV 4) mNil)) [12] (gSet 12) mYes (mN dInt1 (mCons (m2 dEq (mV 12) (m2 dDiv (m2 dIx (mV 3) (mC (.int 1))) (mC (.int 2)))) mNil)))
def i2_law_text : Env → R Fl := (sIf (mB (m2 dEq (m2 dIx (mV 3) (mC (.int 5))) (mC (.int 5)))) (sSet 8 c3_law_text) sNx)
def i3_law_text : Env → R Fl := (sIf (mB (m2 dLt (mN dLen (mCons (mV 11) mNil)) (mV 4))) (sSeq (sSet 14 (m2 dAdd (mV 11) (mV 10))) (sSeq (sSet 10 (mV 11)) (sSet 11 (mV 14)))) sNx)
def l1_law_text : Env → R Fl := i3_law_text
def i4_law_text : Env → R Fl := (sIf (mB (m2 dEq (m2 dIx (mV 3) (mC (.int 5))) (mC (.int 6)))) (sSeq (sSet 10 (mN dLst (mCons (mC (.int 0)) mNil))) (sSeq (sSet 11 (mN dLst (mCons (mC (.int 0)) (mCons (mC (.int 1)) mNil)))) (sSeq (sFor (iArgs gR1 (mCons (mC (.int 8)) mNil)) (gSet 12) l1_law_text) (sSet 8 (mSl dSl (mV 11) mNo (mSo (mV 4))))))) sNx)
def c4_law_text : Env → R D := (mLc (iOf gL (mV 8)) [13] (gSet 13) mYes (mCall 1 m_law_letter (mCons (m2 dAdd (mV 5) (m2 dMul (mV 6) (mV 13))) mNil)))
def b_law_text : Env → R Fl := (sSeq (sSet 2 (mN dLst (mCons (mC (.int 10)) (mCons (mC (.int 64)) (mCons (mC (.int 26)) (mCons (mC (.int 4)) (mCons (mC (.int 6)) (mCons (mC (.int 8)) (mCons (mC (.int 12)) mNil))))))))) (sSeq (sSet 3 (mCall 2 m_law_draws (mCons (mV 0) (mCons (mV 2) mNil)))) (sSeq (sSet 4 (mCall 3 m_law_size (mCons (m2 dIx (mV 3) (mC (.int 0))) (mCons (m2 dIx (mV 3) (mC (.int 1))) (mCons (mV 1) mNil))))) (sSeq (sSet 5 (m2 dIx (mV 3) (mC (.int 2)))) (sSeq (sSet 6 (m2 dIx (mN dLst (mCons (mC (.int 1)) (mCons (mC (.int 3)) (mCons (mC (.int 7)) (mCons (mC (.int 11)) mNil))))) (m2 dIx (mV 3) (mC (.int 3))))) (sSeq (sSet 7 (m2 dIx (mN dLst (mCons (mC (.int 2)) (mCons (mC (.int 2)) (mCons (mC (.int 1)) (mCons (mC (.int 3)) (mCons (mC (.int 4)) (mCons (mC (.int 26)) mNil))))))) (m2 dIx (mV 3) (mC (.int 4))))) (sSeq (sSet 8 c1_law_text) (sSeq i1_law_text (sSeq i2_law_text (sSeq i4_law_text (sRet (mM dJoin (mC (.str [])) (mCons c4_law_text mNil)))))))))))))
def m_law_text : List D → R D := mFn 15 false b_law_text
def b_law_is_int : Env → R Fl := (sRet (mAndV (m1 (dIsi "int") (mV 0)) (m1 dNot (m1 (dIsi "bool") (mV 0)))))
def m_law_is_int : List D → R D := mFn 1 false b_law_is_int
def i1_law_same : Env → R Fl := (sIf (mB (m2 dIsN (mV 1) (mC .non))) (sRet (m2 dIsN (mV 0) (mC .non))) sNx)
def i2_law_same : Env → R Fl := (sIf (mB (m1 (dIsi "bool") (mV 1))) (sRet (mAndV (m1 (dIsi "bool") (mV 0)) (m2 dEq (mV 0) (mV 1)))) sNx)
def i3_law_same : Env → R Fl := (sIf (mB (m1 (dIsi "int") (mV 1))) (sRet (mAndV (mCall 1 m_law_is_int (mCons (mV 0) mNil)) (m2 dEq (mV 0) (mV 1)))) sNx)
def i4_law_same : Env → R Fl := (sIf (mB (m1 (dIsi "str") (mV 1))) (sRet (mAndV (m1 (dIsi "str") (mV 0)) (m2 dEq (mV 0) (mV 1)))) sNx)
def i5_law_same : Env → R Fl := (sIf (mAnd (mB (m1 (dIsi "list") (mV 1))) (mNot (mB (m1 (dIsi "list") (mV 0))))) (sRet (mC (.bl false))) sNx)
def i6_law_same : Env → R Fl := (sIf (mAnd (mB (m1 (dIsi "tuple") (mV 1))) (mNot (mB (m1 (dIsi "tuple") (mV 0))))) (sRet (mC (.bl false))) sNx)
def i7_law_same : Env → R Fl := (sIf (mB (m2 dNe (mN dLen (mCons (mV 0) mNil)) (mN dLen (mCons (mV 1) mNil)))) (sRet (mC (.bl false))) sNx)
def i8_law_same (mrec : List D → R D) : Env → R Fl := (sIf (mNot (mB (mCall 2 mrec (mCons (m2 dIx (mV 0) (mV 2)) (mCons (m2 dIx (mV 1) (mV 2)) mNil))))) (sRet (mC (.bl false))) sNx)
def l1_law_same (mrec : List D → R D) : Env → R Fl := (i8_law_same mrec)
def b_law_same (mrec : List D → R D) : Env → R Fl := (sSeq i1_law_same (sSeq i2_law_same (sSeq i3_law_same (sSeq i4_law_same (sSeq i5_law_same (sSeq i6_law_same (sSeq i7_law_same (sSeq (sFor (iArgs gR1 (mCons (mN dLen (mCons (mV 1) mNil)) mNil)) (gSet 2) (l1_law_same mrec)) (sRet (mC (.bl true)))))))))))
def m_law_same : Nat → List D → R D
  | 0 => fun _ => .stuck
  | n + 1 => mFn 3 false (b_law_same (m_law_same n))
def b_is_text : Env → R Fl := (sRet (mAndV (mChain dLe dLe (mC (.int 1)) (mN dLen (mCons (mV 0) mNil)) (mC (.int 128))) (m1 (dAllS (fun c => decide (c ∈ zc3fcd3d7))) (mV 0))))
def m_is_text : List D → R D := mFn 2 false b_is_text
def i1_check_text : Env → R Fl := (sIf (mNot (mB (mCall 1 m_is_text (mCons (mV 0) mNil)))) (sRaise "BadText") sNx)
def b_check_text : Env → R Fl := (sSeq i1_check_text (sRet (mV 0)))
def m_check_text : List D → R D := mFn 1 false b_check_text
def l1_starts_of : Env → R Fl := (sSeq (sApp 2 (mV 3)) (sSet 3 (mM dFind3 (mV 0) (mCons (mV 1) (mCons (m2 dAdd (mV 3) (mC (.int 1))) mNil)))))
def b_starts_of : Env → R Fl := (sSeq (sSet 2 (mN dLst mNil)) (sSeq (sSet 3 (mM dFind (mV 0) (mCons (mV 1) mNil))) (sSeq (sWhile (mB (m2 dGe (mV 3) (mC (.int 0)))) l1_starts_of) (sRet (mV 2)))))
def m_starts_of : List D → R D := mFn 4 false b_starts_of
def b_occurrences : Env → R Fl := (sSeq (sDrop (mCall 1 m_check_text (mCons (mV 0) mNil))) (sSeq (sDrop (mCall 1 m_check_text (mCons (mV 1) mNil))) (sRet (mCall 2 m_starts_of (mCons (mV 0) (mCons (mV 1) mNil))))))
def m_occurrences : List D → R D := mFn 2 false b_occurrences
end PM
set_option linter.all false
set_option maxRecDepth 100000
namespace PM
open PD
theorem letter_ok (n : Int) : ∃ c, m_law_letter [.int n] = .ok (.str [c]) ∧ 97 ≤ c ∧ c ≤ 122 := by
  have h0 : 0 ≤ n % 26 := Int.emod_nonneg _ (by decide)
  have h1 : n % 26 < 26 := Int.emod_lt_of_pos _ (by decide)
  obtain ⟨k, hk⟩ : ∃ k : Nat, n % 26 = k := ⟨(n % 26).toNat, by omega⟩
  have hz : zc3fcd3d7[k]? = some (97 + k) := by
    have hk' : k < 26 := by omega
    clear hk h0 h1
    revert k
    decide
  refine ⟨97 + k, ?_, by omega, by omega⟩
  have e : dIx (.str zc3fcd3d7) (.int (n % 26)) = some (.str [97 + k]) := dIx_s (by decide) h0 (by rw [hk, Int.toNat_natCast]; exact hz)
  simp [m_law_letter, mFn_eq, b_law_letter, dMod_i, e]
theorem size_ok (mode n most : Int) (h : 0 < most) : ∃ s, m_law_size [.int mode, .int n, .int most] = .ok (.int s) ∧ 1 ≤ s ∧ s ≤ most := by
  have pos : ∀ x y : Int, 0 < x → 0 < y → 0 < (if y < x then y else x) := fun x y hx hy => by split <;> assumption
  have p9 := pos 9 most (by decide) h
  have p18 := pos 18 most (by decide) h
  have key : ∀ b : Int, 0 < b → b ≤ most → 1 ≤ 1 + n % b ∧ 1 + n % b ≤ most := fun b hb hm => by
    have := Int.emod_nonneg n (show b ≠ 0 by omega)
    have := Int.emod_lt_of_pos n hb
    omega
  by_cases h6 : mode < 6
  · exact ⟨_, by simp [m_law_size, mFn_eq, b_law_size, i1_law_size, i2_law_size, dMod_i p9, h6], key _ p9 (by split <;> omega)⟩
  · by_cases h9 : mode < 9
    · exact ⟨_, by simp [m_law_size, mFn_eq, b_law_size, i1_law_size, i2_law_size, dMod_i p18, h6, h9], key _ p18 (by split <;> omega)⟩
    · exact ⟨_, by simp [m_law_size, mFn_eq, b_law_size, i1_law_size, i2_law_size, dMod_i h, h6, h9], key _ h (by omega)⟩
theorem cell_ok (ns : List Int) (k : Nat) : m_law_cell [.scr ns, .int k] = .ok (.int (ns.getD k 0)) := by
  by_cases h : k < ns.length
  · have e : dIx (.scr ns) (.int k) = some (.int (ns.getD k 0)) := dIx_c (by omega) (by
      rw [Int.toNat_natCast, List.getD_eq_getElem?_getD, List.getElem?_eq_getElem h]; rfl)
    have h' : (k : Int) < ns.length := by omega
    simp [m_law_cell, mFn_eq, b_law_cell, i1_law_cell, e, h, h']
  · have h' : ¬ (k : Int) < ns.length := by omega
    simp [m_law_cell, mFn_eq, b_law_cell, i1_law_cell, h, h', List.getD_eq_getElem?_getD, List.getElem?_eq_none (Nat.le_of_not_lt h)]
/-- what is drawn fits the sizes -/
def Fits : List Int → List Int → Prop
  | [], [] => True
  | d :: ds, s :: ss => (0 ≤ d ∧ d < s) ∧ Fits ds ss
  | _, _ => False
theorem Fits.snoc : ∀ {ds ss : List Int} {d s : Int}, Fits ds ss → 0 ≤ d → d < s → Fits (ds ++ [d]) (ss ++ [s])
  | [], [], _, _, _, h0, h1 => ⟨⟨h0, h1⟩, trivial⟩
  | _ :: _, _ :: _, _, _, h, h0, h1 => ⟨h.1, Fits.snoc h.2 h0 h1⟩
theorem Fits.len : ∀ {ds ss : List Int}, Fits ds ss → ds.length = ss.length
  | [], [], _ => rfl
  | _ :: _, _ :: _, h => by rw [List.length_cons, List.length_cons, Fits.len h.2]
theorem Fits.get : ∀ {ds ss : List Int} {i : Nat} {s : Int}, Fits ds ss → ss[i]? = some s → ∃ d, ds[i]? = some d ∧ 0 ≤ d ∧ d < s
  | d :: _, _ :: _, 0, s, h, e => by cases e; exact ⟨d, rfl, h.1.1, h.1.2⟩
  | _ :: _, _ :: _, i + 1, s, h, e => by
    rw [List.getElem?_cons_succ] at e
    rw [List.getElem?_cons_succ]
    exact Fits.get h.2 e
  | [], [], _, _, _, e => by cases e
theorem log2_le {a b : Nat} (h : a < 2 ^ (b + 1)) : a.log2 ≤ b := by
  by_cases h0 : a = 0
  · subst h0; simp
  · have := (Nat.log2_lt h0).mpr h
    omega
theorem bits_log {z : Int} {n : Nat} (h : PySem.Builtin.Int.intBits z ≤ n) : z.natAbs.log2 ≤ n := by
  unfold PySem.Builtin.Int.intBits at h
  split at h
  · rename_i q
    have : z.natAbs = 0 := by first | exact q | (simp at q; simp [q]) | omega
    rw [this]
    simp
  · omega
theorem seedpos {a b : Int} (hb : 0 < b) : 0 ≤ a % b ∧ a % b < b := ⟨Int.emod_nonneg _ (by omega), Int.emod_lt_of_pos _ hb⟩
theorem mul_small {a b : Int} (ha : 0 ≤ a) (ha2 : a < 4294967296) (hb : 0 ≤ b) (hb2 : b < 4294967296) : dMul (.int a) (.int b) = some (.int (a * b)) := dMul_i (by
  have h1 : a.natAbs.log2 ≤ 31 := log2_le (by omega)
  have h2 : b.natAbs.log2 ≤ 31 := log2_le (by omega)
  have : MB = 4000000 := rfl
  omega)
theorem draws_okW (n : Int) (sizes : List Int) (hn : n.natAbs.log2 ≤ 2000000) (hs : ∀ s ∈ sizes, 0 < s ∧ s.natAbs.log2 < 9000) (hl : sizes.length ≤ 10000) :
    ∃ ds : List Int, m_law_draws [.int n, .lst (sizes.map .int)] = .ok (.lst (ds.map .int)) ∧ Fits ds sizes := by
  have hN : (if n < 0 then -n else n) = (n.natAbs : Int) := by split <;> omega
  obtain ⟨N, hNN⟩ : ∃ N : Nat, n.natAbs = N := ⟨_, rfl⟩
  rw [hNN] at hN hn
  have MBe : MB = 4000000 := rfl
  have key : ∀ r0 : Int, ∃ (r : Int) (ds : List Int) (a b : Option D), sLoop (gSet 5) l1_law_draws (rngL 0 sizes.length) [some (.int n), some (.lst (sizes.map .int)), some (.int N), some (.int r0), some (.lst []), none, none] = .ok (.nx [some (.int n), some (.lst (sizes.map .int)), some (.int N), some (.int r), some (.lst (ds.map .int)), a, b]) ∧ Fits ds sizes := by
    intro r0
    obtain ⟨ρ', h1, h2⟩ := loop_inv (T := gSet 5) (b := l1_law_draws) (fun k ρ => ∃ (r : Int) (ds : List Int) (a b : Option D), ρ = [some (.int n), some (.lst (sizes.map .int)), some (.int N), some (.int r), some (.lst (ds.map .int)), a, b] ∧ Fits ds (sizes.take k)) (rngL 0 sizes.length) 0 [some (.int n), some (.lst (sizes.map .int)), some (.int N), some (.int r0), some (.lst []), none, none]
      ⟨r0, [], none, none, rfl, trivial⟩ (by
      rintro j d ρ hj ⟨r, ds, a, b, rfl, hf⟩
      obtain ⟨hjl, rfl⟩ := rngL_get hj
      rw [Nat.zero_add] at hf
      have hd := hf.len
      rw [List.length_take] at hd
      have hlen : ds.length = j := by omega
      obtain ⟨s, hsj⟩ : ∃ s, sizes[j]? = some s := ⟨_, List.getElem?_eq_getElem hjl⟩
      obtain ⟨s0, s1⟩ := hs s (List.mem_of_getElem? hsj)
      rw [Int.zero_add]
      have ix : dIx (.lst (sizes.map .int)) (.int (j : Int)) = some (.int s) := dIx_l (by omega) (by
        rw [Int.toNat_natCast, List.getElem?_map, hsj]; rfl)
      have tk : sizes.take (0 + j + 1) = sizes.take j ++ [s] := by
        rw [Nat.zero_add, List.take_succ, hsj]; rfl
      have app : ∀ (ρ : Env) (x : Int), kApp 4 ρ (some (ds.map D.int)) (.ok (.int x)) = .ok (.nx (ρ.set 4 (some (.lst ((ds ++ [x]).map .int))))) := fun ρ x => by
        rw [kApp_ok (by rw [List.length_map, hlen]; have : LN = 1000000 := rfl; omega), List.map_append]; rfl
      by_cases hr : 0 < r
      · have dv : dDiv (.int r) (.int s) = some (.int (r / s)) := dDiv_i s0 s1
        exact ⟨_, _, rfl, by simp only [l1_law_draws, i2_law_draws]; simp [hr, ix, dMod_i s0, app, dv], r / s, ds ++ [r % s], some (.int j), b, rfl, by rw [tk]; exact hf.snoc (seedpos s0).1 (seedpos s0).2⟩
      · have m1 : dMul (.int N) (.int 48271) = some (.int (N * 48271)) := dMul_i (by
          have : (48271 : Int).natAbs.log2 ≤ 31 := log2_le (by decide)
          rw [Int.natAbs_natCast]
          omega)
        have m2 : dMul (.int 69621) (.int (j + 1)) = some (.int (69621 * (j + 1))) := mul_small (by decide) (by decide) (by omega) (by omega)
        have m4 : dMul (.int 40692) (.int (j + 3)) = some (.int (40692 * (j + 3))) := mul_small (by decide) (by decide) (by omega) (by omega)
        have m3 : ∀ x b : Int, 0 < b → b ≤ 4294967296 → dMul (.int (x % b)) (.int (x % b)) = some (.int (x % b * (x % b))) := fun x b hb hb2 => mul_small (seedpos hb).1 (by have := (seedpos (a := x) hb).2; omega) (seedpos hb).1 (by have := (seedpos (a := x) hb).2; omega)
        have md : ∀ x b : Int, 0 < b → dMod (.int x) (.int b) = some (.int (x % b)) := fun x b hb => dMod_i hb
        have dv : ∀ x : Int, dDiv (.int x) (.int 11) = some (.int (x / 11)) := fun x => dDiv_i (by decide) (by decide)
        obtain ⟨x1, h1⟩ : ∃ x, x = (N * 48271 + 69621 * ((j : Int) + 1)) % 2147483647 := ⟨_, rfl⟩
        obtain ⟨x2, h2⟩ : ∃ x, x = (x1 * x1 + 40692 * ((j : Int) + 3)) % 2147483399 := ⟨_, rfl⟩
        obtain ⟨x3, h3⟩ : ∃ x, x = (x2 * x2 + 16807) % 2147483563 := ⟨_, rfl⟩
        have q1 : dMul (.int x1) (.int x1) = some (.int (x1 * x1)) := by rw [h1]; exact m3 _ _ (by decide) (by decide)
        have q2 : dMul (.int x2) (.int x2) = some (.int (x2 * x2)) := by rw [h2]; exact m3 _ _ (by decide) (by decide)
        exact ⟨_, _, rfl, by simp only [l1_law_draws, i2_law_draws]; simp [hr, ix, md, app, dv, m1, m2, m4, ← h1, q1, ← h2, q2, ← h3, s0], r, ds ++ [x3 / 11 % s], some (.int j), some (.int x3), rfl, by rw [tk]; exact hf.snoc (seedpos s0).1 (seedpos s0).2⟩)
    rw [rngL_length, Nat.zero_add, List.take_length] at h2
    obtain ⟨r, ds, a, b, rfl, hf⟩ := h2
    exact ⟨r, ds, a, b, h1, hf⟩
  have hlen : gR1 [.int sizes.length] = some (rngL 0 sizes.length) := gR1_ok (by have : LR = 1000000000 := rfl; omega) (by have : LR = 1000000000 := rfl; omega)
  have pw : dPow (.int 10) (.int 18) = some (.int 1000000000000000000) := (dPow_i (by decide)).trans (by rw [show ((10 : Int) ^ (18 : Int).toNat) = 1000000000000000000 by decide])
  have em : dLst [] = some (.lst []) := rfl
  by_cases hb : (N : Int) < 1000000000000000000
  · obtain ⟨r, ds, a, b, e, hf⟩ := key 0
    have lt : dLt (.int N) (.int 1000000000000000000) = some (.bl true) := by rw [dLt_i, decide_eq_true hb]
    exact ⟨ds, by simp [m_law_draws, mFn_eq, b_law_draws, i1_law_draws, List.replicate, hN, pw, lt, -dLt_i, em, hlen, e], hf⟩
  · obtain ⟨r, ds, a, b, e, hf⟩ := key N
    have lt : dLt (.int N) (.int 1000000000000000000) = some (.bl false) := by rw [dLt_i, decide_eq_false hb]
    exact ⟨ds, by simp [m_law_draws, mFn_eq, b_law_draws, i1_law_draws, List.replicate, hN, pw, lt, -dLt_i, em, hlen, e], hf⟩
theorem draws_ok (n : Int) (sizes : List Int) (hn : n.natAbs.log2 ≤ 2000000) (hs : ∀ s ∈ sizes, 0 < s ∧ s < 1000000000) (hl : sizes.length ≤ 10000) :
    ∃ ds : List Int, m_law_draws [.int n, .lst (sizes.map .int)] = .ok (.lst (ds.map .int)) ∧ Fits ds sizes :=
  draws_okW n sizes hn (fun s m => ⟨(hs s m).1, by have := hs s m; have : s.natAbs.log2 ≤ 63 := log2_le (by omega); omega⟩) hl
end PM
set_option linter.all false
set_option maxRecDepth 100000
set_option maxHeartbeats 1000000
namespace PM
open PD
theorem hd_small : ∀ s ∈ ([10, 64, 26, 4, 6, 8, 12] : List Int), 0 < s ∧ s < 1000000000 := by decide
theorem LNe : LN = 1000000 := rfl
theorem LRe : LR = 1000000000 := rfl
theorem fits7 {ds : List Int} {a b c d e f g : Int} (h : Fits ds [a, b, c, d, e, f, g]) : ∃ x0 x1 x2 x3 x4 x5 x6, ds = [x0, x1, x2, x3, x4, x5, x6] ∧ (0 ≤ x0 ∧ x0 < a) ∧ (0 ≤ x1 ∧ x1 < b) ∧ (0 ≤ x2 ∧ x2 < c) ∧ (0 ≤ x3 ∧ x3 < d) ∧ (0 ≤ x4 ∧ x4 < e) ∧ (0 ≤ x5 ∧ x5 < f) ∧ (0 ≤ x6 ∧ x6 < g) := by
  match ds, h with
  | [x0, x1, x2, x3, x4, x5, x6], ⟨h0, h1, h2, h3, h4, h5, h6, _⟩ => exact ⟨_, _, _, _, _, _, _, rfl, h0, h1, h2, h3, h4, h5, h6⟩
/-- integers that a comprehension over integers makes -/
theorem lc_ints {ft : Env → R Bool} {fe : Env → R D} {ρ : Env} {i : Nat} (P : Int → Prop) {xs : List Int} (h : ∀ x ∈ xs, ft (ρ.set i (some (.int x))) = .ok true ∧ ∃ y, fe (ρ.set i (some (.int x))) = .ok (.int y) ∧ P y) :
    ∃ ys : List Int, lcGo (gSet i) ft fe ρ (xs.map .int) = .ok (ys.map .int) ∧ ys.length = xs.length ∧ ∀ y ∈ ys, P y := by
  obtain ⟨ys, e, l, p⟩ := lc_all (T := gSet i) (ft := ft) (fe := fe) (ρ := ρ) D.int P (ds := xs.map .int) fun d m => by
    obtain ⟨x, mx, rfl⟩ := List.mem_map.mp m
    obtain ⟨h1, y, h2, h3⟩ := h x mx
    exact ⟨_, y, rfl, h1, h2, h3⟩
  exact ⟨ys, e, by rw [l, List.length_map], p⟩
abbrev Sml (vs : List Int) : Prop := ∀ v ∈ vs, 0 ≤ v ∧ v < 1000
section
variable {o1 o2 o9 o10 o11 o12 o13 o14 : Option D} {n sz : Int} {x0 x1 x2 x3 x4 x5 x6 : Int} {st mn : Int} {vals : List Int}
/-- the environment of the text's maker -/
abbrev envT (n most : Int) (hd : D) (told : List Int) (sz fi st mn : Int) (v : Option D) (o9 o10 o11 o12 o13 o14 : Option D) : Env :=
  [some (.int n), some (.int most), some hd, some (.lst (told.map .int)), some (.int sz), some (.int fi), some (.int st), some (.int mn), v, o9, o10, o11, o12, o13, o14]
abbrev hdT : D := .lst [.int 10, .int 64, .int 26, .int 4, .int 6, .int 8, .int 12]
variable {most fi : Int} {told : List Int}
theorem c1_ok (hn : n.natAbs.log2 ≤ 2000000) (h1 : 1 ≤ sz) (h2 : sz ≤ 1000) (hm : 0 < mn) (hm2 : mn ≤ 100) {v : Option D} : ∃ vals : List Int, c1_law_text (envT n most hdT told sz fi st mn v o9 o10 o11 o12 o13 o14) = .ok (.lst (vals.map .int)) ∧ (vals.length : Int) = sz ∧ Sml vals := by
  obtain ⟨k, rfl⟩ : ∃ k : Nat, sz = k := ⟨sz.toNat, by omega⟩
  obtain ⟨ds, e, hf⟩ := draws_ok n (([10, 64, 26, 4, 6, 8, 12] : List Int) ++ List.replicate k 26) hn (by
    intro s m
    rcases List.mem_append.mp m with m | m
    · exact hd_small s m
    · rw [(List.mem_replicate.mp m).2]; decide) (by simp; omega)
  have hl := hf.len
  have mu : dMul (.lst [.int 26]) (.int (k : Int)) = some (.lst (List.replicate k (.int 26))) := by
    show (if _ then _ else _) = _
    rw [if_pos (by rw [LNe]; simp; omega)]
    simp
  have ad : dAdd hdT (.lst (List.replicate k (.int 26))) = some (.lst (.int 10 :: .int 64 :: .int 26 :: .int 4 :: .int 6 :: .int 8 :: .int 12 :: List.replicate k (.int 26))) := by
    rw [dAdd_l (by rw [LNe]; simp; omega)]
    rfl
  simp only [List.map_append, List.map_cons, List.map_nil, List.map_replicate, List.cons_append, List.nil_append] at e
  obtain ⟨vals, e2, l2, pv⟩ := lc_ints (ft := mYes) (fe := m2 dMod (mN dInt1 (mCons (mV 13) mNil)) (mV 7)) (ρ := envT n most hdT told k fi st mn v o9 o10 o11 o12 none o14) (i := 13) (fun v => 0 ≤ v ∧ v < 1000) (xs := ds.drop 7) fun x _ => ⟨rfl, x % mn, by simp [dMod_i hm], (seedpos hm).1, by have := (seedpos (a := x) hm).2; omega⟩
  rw [List.length_drop, hl, List.length_append, List.length_replicate] at l2
  have l3 : vals.length = k := by simpa using l2
  refine ⟨vals, ?_, by rw [l3], pv⟩
  have cut : cutG (ds.map D.int) (some 7) none = (ds.drop 7).map .int := by rw [cut_from (by decide), List.map_drop]; rfl
  have l1' : dLst [.int 26] = some (.lst [.int 26]) := dLst_ok (by decide)
  simp only [c1_law_text]
  simp only [List.map_drop] at e2
  simp [l1', mu, ad, e, cut, e2, kLn_ok, l3, show k ≤ LN by rw [LNe]; omega]
theorem c2_ok {per : Int} (h1 : 1 ≤ sz) (h2 : sz ≤ 1000) (hp : 0 < per) (hv : (vals.length : Int) = sz) (pv : Sml vals) : ∃ vs : List Int, c2_law_text (envT n most hdT told sz fi st mn (some (.lst (vals.map .int))) (some (.int per)) o10 o11 o12 o13 o14) = .ok (.lst (vs.map .int)) ∧ (vs.length : Int) = sz ∧ Sml vs := by
  obtain ⟨k, rfl⟩ : ∃ k : Nat, sz = k := ⟨sz.toNat, by omega⟩
  have pm : 0 < (if (k : Int) < per then (k : Int) else per) := by split <;> omega
  obtain ⟨vs, e2, l2, pv2⟩ := lc_ints (ft := mYes) (fe := m2 dIx (mV 8) (m2 dMod (mN dInt1 (mCons (mV 12) mNil)) (mN dMin2 (mCons (mV 9) (mCons (mV 4) mNil))))) (ρ := envT n most hdT told k fi st mn (some (.lst (vals.map .int))) (some (.int per)) o10 o11 none o13 o14) (i := 12) (fun v => 0 ≤ v ∧ v < 1000) (xs := (List.range k).map fun i : Nat => (i : Int)) fun x _ => by
    have q := seedpos (a := x) pm
    obtain ⟨v, hv, mv, _⟩ := ix_mem (xs := vals) (i := x % (if (k : Int) < per then (k : Int) else per)) q.1 (by
      have : (if (k : Int) < per then (k : Int) else per) ≤ k := by split <;> omega
      omega)
    exact ⟨rfl, v, by simp [dMod_i pm, hv], pv v mv⟩
  rw [List.length_map, List.length_range] at l2
  refine ⟨vs, ?_, by omega, pv2⟩
  have gr : gR1 [.int (k : Int)] = some (rngL 0 k) := gR1_ok (by rw [LRe]; omega) (by rw [LRe]; omega)
  simp only [c2_law_text]
  simp only [rngL0] at gr
  simp [gr, -List.map_map, e2, kLn_ok, l2, show k ≤ LN by rw [LNe]; omega]
theorem c3_ok (h1 : 1 ≤ sz) (h2 : sz ≤ 1000) {v : Option D} : ∃ vs : List Int, c3_law_text (envT n most hdT [x0, x1, x2, x3, x4, x5, x6] sz fi st mn v o9 o10 o11 o12 o13 o14) = .ok (.lst (vs.map .int)) ∧ (vs.length : Int) = sz ∧ Sml vs := by
  obtain ⟨k, rfl⟩ : ∃ k : Nat, sz = k := ⟨sz.toNat, by omega⟩
  have dv : dDiv (.int x1) (.int 2) = some (.int (x1 / 2)) := dDiv_i (by decide) (by decide)
  obtain ⟨vs, e2, l2, pv2⟩ := lc_ints (ft := mYes) (fe := mN dInt1 (mCons (m2 dEq (mV 12) (m2 dDiv (m2 dIx (mV 3) (mC (.int 1))) (mC (.int 2)))) mNil)) (ρ := envT n most hdT [x0, x1, x2, x3, x4, x5, x6] k fi st mn v o9 o10 o11 none o13 o14) (i := 12) (fun v => 0 ≤ v ∧ v < 1000) (xs := (List.range k).map fun i : Nat => (i : Int)) fun x _ => ⟨rfl, if (x == x1 / 2) = true then 1 else 0, by simp [dv], by split <;> omega⟩
  rw [List.length_map, List.length_range] at l2
  refine ⟨vs, ?_, by omega, pv2⟩
  have gr : gR1 [.int (k : Int)] = some (rngL 0 k) := gR1_ok (by rw [LRe]; omega) (by rw [LRe]; omega)
  simp only [c3_law_text]
  simp only [envT, List.map_cons, List.map_nil] at e2
  simp only [rngL0] at gr
  simp [gr, -List.map_map, e2, kLn_ok, l2, show k ≤ LN by rw [LNe]; omega]
/-- the three ways to change the values -/
theorem i1_ok (h1 : 1 ≤ sz) (h2 : sz ≤ 1000) (hv : (vals.length : Int) = sz) (pv : Sml vals) (h6 : 0 ≤ x6) : ∃ (vs : List Int) (o : Option D) (q : Option D), i1_law_text (envT n most hdT [x0, x1, x2, x3, x4, x5, x6] sz fi st mn (some (.lst (vals.map .int))) o9 o10 o11 o12 o13 o14) = .ok (.nx (envT n most hdT [x0, x1, x2, x3, x4, x5, x6] sz fi st mn (some (.lst (vs.map .int))) o o10 o11 o12 o13 o14)) ∧ (vs.length : Int) = sz ∧ Sml vs := by
  have dv : dDiv (.int x6) (.int 2) = some (.int (x6 / 2)) := dDiv_i (by decide) (by decide)
  obtain ⟨vs, e, l⟩ := c2_ok (n := n) (told := [x0, x1, x2, x3, x4, x5, x6]) (most := most) (fi := fi) (st := st) (mn := mn) (o10 := o10) (o11 := o11) (o12 := o12) (o13 := o13) (o14 := o14) (per := 1 + x6 / 2) h1 h2 (by omega) hv pv
  simp only [envT, List.map_cons, List.map_nil] at e
  by_cases a : x5 = 3
  · exact ⟨vs, some (.int (1 + x6 / 2)), none, by simp [i1_law_text, envT, beq_t a, dv, e], l⟩
  · by_cases b : x5 = 4
    · exact ⟨vs, some (.int (1 + x6 / 2)), none, by simp [i1_law_text, envT, beq_f a, beq_t b, dv, e], l⟩
    · exact ⟨vals, o9, none, by simp [i1_law_text, envT, beq_f a, beq_f b], hv, pv⟩
theorem i2_ok (h1 : 1 ≤ sz) (h2 : sz ≤ 1000) (hv : (vals.length : Int) = sz) (pv : Sml vals) : ∃ (vs : List Int), i2_law_text (envT n most hdT [x0, x1, x2, x3, x4, x5, x6] sz fi st mn (some (.lst (vals.map .int))) o9 o10 o11 o12 o13 o14) = .ok (.nx (envT n most hdT [x0, x1, x2, x3, x4, x5, x6] sz fi st mn (some (.lst (vs.map .int))) o9 o10 o11 o12 o13 o14)) ∧ (vs.length : Int) = sz ∧ Sml vs := by
  obtain ⟨vs, e, l⟩ := c3_ok (n := n) (x0 := x0) (x1 := x1) (x2 := x2) (x3 := x3) (x4 := x4) (x5 := x5) (x6 := x6) (most := most) (fi := fi) (st := st) (mn := mn) (o9 := o9) (o10 := o10) (o11 := o11) (o12 := o12) (o13 := o13) (o14 := o14) (v := some (.lst (vals.map .int))) h1 h2
  simp only [envT, List.map_cons, List.map_nil] at e
  by_cases a : x5 = 5
  · exact ⟨vs, by simp [i2_law_text, envT, beq_t a, e], l⟩
  · exact ⟨vals, by simp [i2_law_text, envT, beq_f a], hv, pv⟩
theorem l1_ok (h1 : 1 ≤ sz) (h2 : sz ≤ 1000) {sh lg : List Int} (psh : Sml sh) (plg : Sml lg) (hs : sh.length ≤ lg.length) (hl : (lg.length : Int) ≤ 2 * sz + 2) (hp : 1 ≤ lg.length) {v : Option D} : ∃ (sh' lg' : List Int) (o14' : Option D), l1_law_text (envT n most hdT told sz fi st mn v o9 (some (.lst (sh.map .int))) (some (.lst (lg.map .int))) o12 o13 o14) = .ok (.nx (envT n most hdT told sz fi st mn v o9 (some (.lst (sh'.map .int))) (some (.lst (lg'.map .int))) o12 o13 o14')) ∧ sh'.length ≤ lg'.length ∧ (lg'.length : Int) ≤ 2 * sz + 2 ∧ 1 ≤ lg'.length ∧ Sml sh' ∧ Sml lg' := by
  by_cases c : (lg.length : Int) < sz
  · refine ⟨lg, lg ++ sh, some (.lst ((lg ++ sh).map .int)), ?_, by simp, by rw [List.length_append]; omega, by rw [List.length_append]; omega, plg, fun v m => (List.mem_append.mp m).elim (plg v) (psh v)⟩
    have ad : dAdd (.lst (lg.map .int)) (.lst (sh.map .int)) = some (.lst ((lg ++ sh).map .int)) := by
      rw [dAdd_l (by rw [LNe]; simp; omega), List.map_append]
    simp [l1_law_text, i3_law_text, c, ad]
  · exact ⟨sh, lg, o14, by simp [l1_law_text, i3_law_text, c], hs, hl, hp, psh, plg⟩
theorem i4_ok (h1 : 1 ≤ sz) (h2 : sz ≤ 1000) (hv : (vals.length : Int) = sz) (pv : Sml vals) : ∃ (vs : List Int) (a10 a11 a12 a14 : Option D), i4_law_text (envT n most hdT [x0, x1, x2, x3, x4, x5, x6] sz fi st mn (some (.lst (vals.map .int))) o9 o10 o11 o12 o13 o14) = .ok (.nx (envT n most hdT [x0, x1, x2, x3, x4, x5, x6] sz fi st mn (some (.lst (vs.map .int))) o9 a10 a11 a12 o13 a14)) ∧ 1 ≤ vs.length ∧ (vs.length : Int) ≤ sz ∧ Sml vs := by
  by_cases a : x5 = 6
  · obtain ⟨ρ', e, sh, lg, a12, a14, rfl, q1, q2, q3, q4, q5⟩ := loop_inv (T := gSet 12) (b := l1_law_text) (fun _ ρ => ∃ (sh lg : List Int) (a12 a14 : Option D), ρ = envT n most hdT [x0, x1, x2, x3, x4, x5, x6] sz fi st mn (some (.lst (vals.map .int))) o9 (some (.lst (sh.map .int))) (some (.lst (lg.map .int))) a12 o13 a14 ∧ sh.length ≤ lg.length ∧ (lg.length : Int) ≤ 2 * sz + 2 ∧ 1 ≤ lg.length ∧ Sml sh ∧ Sml lg)
      (rngL 0 8) 0 (envT n most hdT [x0, x1, x2, x3, x4, x5, x6] sz fi st mn (some (.lst (vals.map .int))) o9 (some (.lst ([0].map .int))) (some (.lst ([0, 1].map .int))) o12 o13 o14) ⟨[0], [0, 1], o12, o14, rfl, by decide, by simp; omega, by decide, by decide, by decide⟩ (by
        rintro j d ρ hj ⟨sh, lg, a12, a14, rfl, q1, q2, q3, q4, q5⟩
        obtain ⟨sh', lg', o14', e, p1, p2, p3, p4, p5⟩ := l1_ok (n := n) (told := [x0, x1, x2, x3, x4, x5, x6]) (most := most) (fi := fi) (st := st) (mn := mn) (o9 := o9) (o12 := some d) (o13 := o13) (o14 := a14) (v := some (.lst (vals.map .int))) h1 h2 q4 q5 q1 q2 q3
        exact ⟨_, _, rfl, e, sh', lg', some d, o14', rfl, p1, p2, p3, p4, p5⟩)
    have gr : gR1 [.int 8] = some (rngL 0 8) := gR1_ok (by decide) (by decide)
    have d1 : dLst [.int 0] = some (.lst [.int 0]) := dLst_ok (by decide)
    have d2 : dLst [.int 0, .int 1] = some (.lst [.int 0, .int 1]) := dLst_ok (by decide)
    have cut : cutG (lg.map D.int) none (some sz) = (lg.take sz.toNat).map .int := by rw [cut_to (by omega), List.map_take]
    refine ⟨lg.take sz.toNat, some (.lst (sh.map .int)), some (.lst (lg.map .int)), a12, a14, ?_, by rw [List.length_take]; omega, by rw [List.length_take]; omega, fun v m => q5 v (List.mem_of_mem_take m)⟩
    simp only [envT, List.map_cons, List.map_nil] at e
    simp [i4_law_text, envT, beq_t a, gr, d1, d2, e, cut]
  · exact ⟨vals, o10, o11, o12, o14, by simp [i4_law_text, envT, beq_f a], by omega, by omega, pv⟩
theorem c4_ok {o : Option D} (hl : vals.length ≤ 1000) (pv : Sml vals) (hst : 0 ≤ st ∧ st < 100) : ∃ cs : List Nat, c4_law_text (envT n most hdT told sz fi st mn (some (.lst (vals.map .int))) o9 o10 o11 o12 o13 o14) = .ok (.lst (cs.map fun c => .str [c])) ∧ cs.length = vals.length ∧ ∀ c ∈ cs, 97 ≤ c ∧ c ≤ 122 := by
  obtain ⟨cs, e, l, p⟩ := lc_all (T := gSet 13) (ft := mYes) (fe := mCall 1 m_law_letter (mCons (m2 dAdd (mV 5) (m2 dMul (mV 6) (mV 13))) mNil)) (ρ := envT n most hdT told sz fi st mn (some (.lst (vals.map .int))) o9 o10 o11 o12 none o14) (fun c : Nat => D.str [c]) (fun c => 97 ≤ c ∧ c ≤ 122) (ds := vals.map .int) (fun d m => by
    obtain ⟨v, mv, rfl⟩ := List.mem_map.mp m
    obtain ⟨c, ec, hc⟩ := letter_ok (fi + st * v)
    have q := pv v mv
    have mu : dMul (.int st) (.int v) = some (.int (st * v)) := mul_small hst.1 (by omega) q.1 (by omega)
    exact ⟨_, c, rfl, rfl, by simp [mu, ec], hc⟩)
  rw [List.length_map] at l
  refine ⟨cs, ?_, l, p⟩
  simp only [envT] at e
  simp [c4_law_text, envT, e, kLn_ok, l, show vals.length ≤ LN by rw [LNe]; omega]
/-- the law's text: 1 to most lowercase letters -/
theorem text_ok (n most : Int) (hn : n.natAbs.log2 ≤ 2000000) (h1 : 1 ≤ most) (h2 : most ≤ 1000) : ∃ s : List Nat, m_law_text [.int n, .int most] = .ok (.str s) ∧ 1 ≤ s.length ∧ (s.length : Int) ≤ most ∧ ∀ c ∈ s, 97 ≤ c ∧ c ≤ 122 := by
  obtain ⟨told, et, hf⟩ := draws_ok n [10, 64, 26, 4, 6, 8, 12] hn hd_small (by decide)
  obtain ⟨x0, x1, x2, x3, x4, x5, x6, rfl, b0, b1, b2, b3, b4, b5, b6⟩ := fits7 hf
  obtain ⟨sz, es, s1, s2⟩ := size_ok x0 x1 most (by omega)
  obtain ⟨st, est, mst, _⟩ := ix_mem (xs := [1, 3, 7, 11]) b3.1 b3.2
  obtain ⟨mn, emn, mmn, _⟩ := ix_mem (xs := [2, 2, 1, 3, 4, 26]) b4.1 b4.2
  have hmn : 0 < mn ∧ mn ≤ 100 := (show ∀ v ∈ ([2, 2, 1, 3, 4, 26] : List Int), 0 < v ∧ v ≤ 100 by decide) mn mmn
  have hst : 0 ≤ st ∧ st < 100 := (show ∀ v ∈ ([1, 3, 7, 11] : List Int), 0 ≤ v ∧ v < 100 by decide) st mst
  obtain ⟨v1, e1, l1, p1⟩ := c1_ok (n := n) (told := [x0, x1, x2, x3, x4, x5, x6]) (most := most) (fi := x2) (st := st) (mn := mn) (o9 := none) (o10 := none) (o11 := none) (o12 := none) (o13 := none) (o14 := none) (v := none) hn s1 (by omega) hmn.1 hmn.2
  obtain ⟨v2, o9, _, e2, l2, p2⟩ := i1_ok (n := n) (x0 := x0) (x1 := x1) (x2 := x2) (x3 := x3) (x4 := x4) (x5 := x5) (x6 := x6) (most := most) (fi := x2) (st := st) (mn := mn) (o9 := none) (o10 := none) (o11 := none) (o12 := none) (o13 := none) (o14 := none) s1 (by omega) l1 p1 b6.1
  obtain ⟨v3, e3, l3, p3⟩ := i2_ok (n := n) (x0 := x0) (x1 := x1) (x2 := x2) (x3 := x3) (x4 := x4) (x5 := x5) (x6 := x6) (most := most) (fi := x2) (st := st) (mn := mn) (o9 := o9) (o10 := none) (o11 := none) (o12 := none) (o13 := none) (o14 := none) s1 (by omega) l2 p2
  obtain ⟨v4, a10, a11, a12, a14, e4, l4, l5, p4⟩ := i4_ok (n := n) (x0 := x0) (x1 := x1) (x2 := x2) (x3 := x3) (x4 := x4) (x5 := x5) (x6 := x6) (most := most) (fi := x2) (st := st) (mn := mn) (o9 := o9) (o10 := none) (o11 := none) (o12 := none) (o13 := none) (o14 := none) s1 (by omega) l3 p3
  obtain ⟨cs, e5, l6, p⟩ := c4_ok (n := n) (told := [x0, x1, x2, x3, x4, x5, x6]) (sz := sz) (most := most) (fi := x2) (st := st) (mn := mn) (o9 := o9) (o10 := a10) (o11 := a11) (o12 := a12) (o13 := none) (o14 := a14) (vals := v4) (o := none) (by omega) p4 hst
  refine ⟨cs, ?_, by omega, by omega, p⟩
  have d1 : dLst [.int 10, .int 64, .int 26, .int 4, .int 6, .int 8, .int 12] = some (.lst [.int 10, .int 64, .int 26, .int 4, .int 6, .int 8, .int 12]) := dLst_ok (by rw [LNe]; decide)
  have d2 : dLst [.int 1, .int 3, .int 7, .int 11] = some (.lst [.int 1, .int 3, .int 7, .int 11]) := dLst_ok (by rw [LNe]; decide)
  have d3 : dLst [.int 2, .int 2, .int 1, .int 3, .int 4, .int 26] = some (.lst [.int 2, .int 2, .int 1, .int 3, .int 4, .int 26]) := dLst_ok (by rw [LNe]; decide)
  have jn := dJoin_one (cs := cs) (by rw [LNe]; omega)
  simp only [envT, List.map_cons, List.map_nil] at et est emn e1 e2 e3 e4 e5
  simp [m_law_text, mFn_eq, b_law_text, List.replicate, d1, d2, d3, et, es, est, emn, e1, e2, e3, e4, e5, jn]
end
end PM
set_option linter.all false
set_option maxRecDepth 100000
set_option maxHeartbeats 1000000
namespace PM
open PD
/-- 1 to 128 lowercase letters -/
def IsText (s : List Nat) : Prop := (1 ≤ s.length ∧ s.length ≤ 128) ∧ ∀ c ∈ s, 97 ≤ c ∧ c ≤ 122
theorem letter_mem {c : Nat} (h : 97 ≤ c ∧ c ≤ 122) : c ∈ zc3fcd3d7 := by
  obtain ⟨k, rfl⟩ : ∃ k, c = 97 + k := ⟨c - 97, by omega⟩
  have : k < 26 := by omega
  clear h
  revert k
  decide
theorem is_text_ok {s : List Nat} (h : IsText s) : m_is_text [.str s] = .ok (.bl true) := by
  have l := dLen_s (s := s) (by rw [LNe]; have := h.1.2; omega)
  have a1 : decide ((1 : Int) ≤ s.length) = true := decide_eq_true (by have := h.1.1; omega)
  have a2 : decide ((s.length : Int) ≤ 128) = true := decide_eq_true (by have := h.1.2; omega)
  have a3 : s.all (fun c => decide (c ∈ zc3fcd3d7)) = true := by
    rw [List.all_eq_true]
    exact fun c m => decide_eq_true (letter_mem (h.2 c m))
  simp only [m_is_text, mFn_eq, b_is_text]
  simp [List.replicate, l, a1, a2, a3, -decide_eq_true_eq, -List.all_eq_true]
theorem check_ok {s : List Nat} (h : IsText s) : m_check_text [.str s] = .ok (.str s) := by
  simp [m_check_text, mFn_eq, b_check_text, i1_check_text, is_text_ok h]
/-- what _law_same compares within n steps -/
def okS : Nat → D → Prop
  | 0, _ => False
  | _ + 1, .non => True
  | _ + 1, .bl _ => True
  | _ + 1, .int _ => True
  | _ + 1, .str _ => True
  | n + 1, .lst xs => xs.length ≤ 1000000 ∧ ∀ x ∈ xs, okS n x
  | n + 1, .tup xs => xs.length ≤ 1000000 ∧ ∀ x ∈ xs, okS n x
  | _ + 1, .scr _ => False
  | _ + 1, .rng _ _ => False
  | _ + 1, .obj _ _ _ => False
  | _ + 1, .dic _ _ => False
  | _ + 1, .dct _ _ => False
@[simp] theorem isi_1 {n : Int} : isiB "int" (.int n) = true := by show (("int" == "int") || ("int" == "int" && "int" == "bool")) = _; decide
@[simp] theorem isi_2 {n : Int} : isiB "bool" (.int n) = false := by show (("int" == "bool") || ("bool" == "int" && "int" == "bool")) = _; decide
@[simp] theorem isi_3 {n : Int} : isiB "str" (.int n) = false := by show (("int" == "str") || ("str" == "int" && "int" == "bool")) = _; decide
@[simp] theorem isi_4 {n : Int} : isiB "list" (.int n) = false := by show (("int" == "list") || ("list" == "int" && "int" == "bool")) = _; decide
@[simp] theorem isi_5 {n : Int} : isiB "tuple" (.int n) = false := by show (("int" == "tuple") || ("tuple" == "int" && "int" == "bool")) = _; decide
@[simp] theorem isb_1 {b : Bool} : isiB "int" (.bl b) = true := by show (("bool" == "int") || ("int" == "int" && "bool" == "bool")) = _; decide
@[simp] theorem isb_2 {b : Bool} : isiB "bool" (.bl b) = true := by show (("bool" == "bool") || ("bool" == "int" && "bool" == "bool")) = _; decide
@[simp] theorem isb_3 {b : Bool} : isiB "str" (.bl b) = false := by show (("bool" == "str") || ("str" == "int" && "bool" == "bool")) = _; decide
@[simp] theorem isb_4 {b : Bool} : isiB "list" (.bl b) = false := by show (("bool" == "list") || ("list" == "int" && "bool" == "bool")) = _; decide
@[simp] theorem isb_5 {b : Bool} : isiB "tuple" (.bl b) = false := by show (("bool" == "tuple") || ("tuple" == "int" && "bool" == "bool")) = _; decide
@[simp] theorem iss_1 {s : List Nat} : isiB "int" (.str s) = false := by show (("str" == "int") || ("int" == "int" && "str" == "bool")) = _; decide
@[simp] theorem iss_2 {s : List Nat} : isiB "bool" (.str s) = false := by show (("str" == "bool") || ("bool" == "int" && "str" == "bool")) = _; decide
@[simp] theorem iss_3 {s : List Nat} : isiB "str" (.str s) = true := by show (("str" == "str") || ("str" == "int" && "str" == "bool")) = _; decide
@[simp] theorem iss_4 {s : List Nat} : isiB "list" (.str s) = false := by show (("str" == "list") || ("list" == "int" && "str" == "bool")) = _; decide
@[simp] theorem iss_5 {s : List Nat} : isiB "tuple" (.str s) = false := by show (("str" == "tuple") || ("tuple" == "int" && "str" == "bool")) = _; decide
@[simp] theorem isl_1 {s : List D} : isiB "int" (.lst s) = false := by show (("list" == "int") || ("int" == "int" && "list" == "bool")) = _; decide
@[simp] theorem isl_2 {s : List D} : isiB "bool" (.lst s) = false := by show (("list" == "bool") || ("bool" == "int" && "list" == "bool")) = _; decide
@[simp] theorem isl_3 {s : List D} : isiB "str" (.lst s) = false := by show (("list" == "str") || ("str" == "int" && "list" == "bool")) = _; decide
@[simp] theorem isl_4 {s : List D} : isiB "list" (.lst s) = true := by show (("list" == "list") || ("list" == "int" && "list" == "bool")) = _; decide
@[simp] theorem isl_5 {s : List D} : isiB "tuple" (.lst s) = false := by show (("list" == "tuple") || ("tuple" == "int" && "list" == "bool")) = _; decide
@[simp] theorem ist_1 {s : List D} : isiB "int" (.tup s) = false := by show (("tuple" == "int") || ("int" == "int" && "tuple" == "bool")) = _; decide
@[simp] theorem ist_2 {s : List D} : isiB "bool" (.tup s) = false := by show (("tuple" == "bool") || ("bool" == "int" && "tuple" == "bool")) = _; decide
@[simp] theorem ist_3 {s : List D} : isiB "str" (.tup s) = false := by show (("tuple" == "str") || ("str" == "int" && "tuple" == "bool")) = _; decide
@[simp] theorem ist_4 {s : List D} : isiB "list" (.tup s) = false := by show (("tuple" == "list") || ("list" == "int" && "tuple" == "bool")) = _; decide
@[simp] theorem ist_5 {s : List D} : isiB "tuple" (.tup s) = true := by show (("tuple" == "tuple") || ("tuple" == "int" && "tuple" == "bool")) = _; decide
@[simp] theorem isn_1 : isiB "int" .non = false := by show (("NoneType" == "int") || ("int" == "int" && "NoneType" == "bool")) = _; decide
@[simp] theorem isn_2 : isiB "bool" .non = false := by show (("NoneType" == "bool") || ("bool" == "int" && "NoneType" == "bool")) = _; decide
@[simp] theorem isn_3 : isiB "str" .non = false := by show (("NoneType" == "str") || ("str" == "int" && "NoneType" == "bool")) = _; decide
@[simp] theorem isn_4 : isiB "list" .non = false := by show (("NoneType" == "list") || ("list" == "int" && "NoneType" == "bool")) = _; decide
@[simp] theorem isn_5 : isiB "tuple" .non = false := by show (("NoneType" == "tuple") || ("tuple" == "int" && "NoneType" == "bool")) = _; decide
theorem same_loop {n : Nat} {d : D} {xs : List D} (ih : ∀ x ∈ xs, m_law_same n [x, x] = .ok (.bl true)) (hx : ∀ (i : Int) (x : D), 0 ≤ i → xs[i.toNat]? = some x → dIx d (.int i) = some x) :
    ∃ o, sLoop (gSet 2) (l1_law_same (m_law_same n)) (rngL 0 xs.length) [some d, some d, none] = .ok (.nx [some d, some d, o]) := by
  obtain ⟨ρ', e, o, rfl⟩ := loop_inv (T := gSet 2) (b := l1_law_same (m_law_same n)) (fun _ ρ => ∃ o, ρ = [some d, some d, o]) (rngL 0 xs.length) 0 [some d, some d, none] ⟨none, rfl⟩ (by
    rintro j y ρ hj ⟨o, rfl⟩
    obtain ⟨hl, rfl⟩ := rngL_get hj
    rw [Int.zero_add]
    obtain ⟨x, hxj⟩ : ∃ x, xs[j]? = some x := ⟨_, List.getElem?_eq_getElem hl⟩
    have e1 := hx j x (by omega) (by rw [Int.toNat_natCast]; exact hxj)
    have e2 := ih x (List.mem_of_getElem? hxj)
    exact ⟨_, _, rfl, by simp [l1_law_same, i8_law_same, e1, e2], some (.int j), rfl⟩)
  exact ⟨o, e⟩
theorem same_ok : ∀ (n : Nat) (d : D), okS n d → m_law_same n [d, d] = .ok (.bl true)
  | 0, _, h => h.elim
  | n + 1, .non, _ => by simp [m_law_same, mFn_eq, b_law_same, i1_law_same]
  | n + 1, .bl b, _ => by simp [m_law_same, mFn_eq, b_law_same, i1_law_same, i2_law_same]
  | n + 1, .int i, _ => by simp [m_law_same, mFn_eq, b_law_same, i1_law_same, i2_law_same, i3_law_same, m_law_is_int, b_law_is_int]
  | n + 1, .str s, _ => by simp [m_law_same, mFn_eq, b_law_same, i1_law_same, i2_law_same, i3_law_same, i4_law_same]
  | n + 1, .lst xs, ⟨hl, hx⟩ => by
    obtain ⟨o, e⟩ := same_loop (n := n) (d := .lst xs) (xs := xs) (fun x m => same_ok n x (hx x m)) fun i x h0 h => dIx_l h0 h
    have g := gR1_ok (j := (xs.length : Int)) (by rw [LRe]; omega) (by rw [LRe]; omega)
    rw [Int.toNat_natCast] at g
    simp [m_law_same, mFn_eq, b_law_same, i1_law_same, i2_law_same, i3_law_same, i4_law_same, i5_law_same, i6_law_same, i7_law_same, g, e]
  | n + 1, .tup xs, ⟨hl, hx⟩ => by
    obtain ⟨o, e⟩ := same_loop (n := n) (d := .tup xs) (xs := xs) (fun x m => same_ok n x (hx x m)) fun i x h0 h => dIx_t h0 h
    have g := gR1_ok (j := (xs.length : Int)) (by rw [LRe]; omega) (by rw [LRe]; omega)
    rw [Int.toNat_natCast] at g
    simp [m_law_same, mFn_eq, b_law_same, i1_law_same, i2_law_same, i3_law_same, i4_law_same, i5_law_same, i6_law_same, i7_law_same, g, e]
theorem okS_ints {n : Nat} {xs : List Int} (h : xs.length ≤ 1000000) : okS (n + 2) (.lst (xs.map .int)) := ⟨by rw [List.length_map]; exact h, fun x m => by
  obtain ⟨i, _, rfl⟩ := List.mem_map.mp m
  trivial⟩
end PM
set_option linter.all false
set_option maxRecDepth 100000
set_option maxHeartbeats 1000000
namespace PM
open PD
/-! ### where a word begins -/
def At (s t : List Nat) (i : Nat) : Bool := decide (i + t.length ≤ s.length) && ((s.drop i).take t.length == t)
def occ (s t : List Nat) (lo : Nat) : List Nat := (List.range' lo (s.length + 1 - lo)).filter (At s t)
theorem filt_none {p : Nat → Bool} {xs : List Nat} (h : xs.find? p = none) : xs.filter p = [] := by
  rw [List.filter_eq_nil_iff]
  intro a m
  have := List.find?_eq_none.mp h a m
  simpa using this
theorem occ_none {s t : List Nat} {lo : Nat} (h : findN s t lo = none) : occ s t lo = [] := filt_none h
theorem filt_some {p : Nat → Bool} : ∀ {n lo i : Nat}, (List.range' lo n).find? p = some i → (List.range' lo n).filter p = i :: (List.range' (i + 1) (lo + n - (i + 1))).filter p ∧ lo ≤ i ∧ i < lo + n
  | 0, lo, i, h => by cases h
  | n + 1, lo, i, h => by
    rw [List.range'_succ] at h ⊢
    cases q : p lo with
    | true =>
      rw [List.find?_cons_of_pos q] at h
      cases h
      rw [List.filter_cons_of_pos q]
      exact ⟨by rw [show lo + (n + 1) - (lo + 1) = n by omega], Nat.le_refl _, by omega⟩
    | false =>
      rw [List.find?_cons_of_neg (by rw [q]; exact Bool.false_ne_true)] at h
      rw [List.filter_cons_of_neg (by rw [q]; exact Bool.false_ne_true)]
      obtain ⟨a, b, c⟩ := filt_some h
      exact ⟨by rw [a, show lo + 1 + n - (i + 1) = lo + (n + 1) - (i + 1) by omega], by omega, by omega⟩
theorem occ_some {s t : List Nat} {lo i : Nat} (h : findN s t lo = some i) : occ s t lo = i :: occ s t (i + 1) ∧ lo ≤ i ∧ i ≤ s.length := by
  by_cases hl : lo ≤ s.length + 1
  · obtain ⟨a, b, c⟩ := filt_some (p := At s t) h
    refine ⟨?_, b, by omega⟩
    unfold occ
    rw [a, show lo + (s.length + 1 - lo) - (i + 1) = s.length + 1 - (i + 1) by omega]
  · unfold findN at h
    rw [show s.length + 1 - lo = 0 by omega] at h
    cases h
theorem starts_wh {s t : List Nat} (hs : s.length ≤ 1000) : ∀ (fuel lo : Nat) (acc : List Nat), acc.length ≤ lo → s.length + 1 - lo < fuel → ∃ o, sWh (mB (m2 dGe (mV 3) (mC (.int 0)))) l1_starts_of fuel [some (.str s), some (.str t), some (.lst (acc.map fun i : Nat => D.int i)), some (.int (findI s t lo))] = .ok (.nx [some (.str s), some (.str t), some (.lst ((acc ++ occ s t lo).map fun i : Nat => D.int i)), o])
  | 0, lo, acc, _, h => by omega
  | fuel + 1, lo, acc, ha, h => by
    cases q : findN s t lo with
    | none =>
      have e : findI s t lo = -1 := by unfold findI; rw [q]
      rw [e, occ_none q, List.append_nil]
      exact ⟨_, wh_f (by simp)⟩
    | some i =>
      have e : findI s t lo = (i : Nat) := by unfold findI; rw [q]
      obtain ⟨a, b, c⟩ := occ_some q
      obtain ⟨o, e2⟩ := starts_wh hs fuel (i + 1) (acc ++ [i]) (by rw [List.length_append, List.length_singleton]; omega) (by omega)
      rw [List.append_assoc, List.singleton_append, ← a] at e2
      refine ⟨o, ?_⟩
      rw [e]
      refine Eq.trans (wh_t (ρ' := [some (.str s), some (.str t), some (.lst ((acc ++ [i]).map fun i : Nat => D.int i)), some (.int (findI s t (i + 1)))]) (by simp) ?_) e2
      have f3 : dFind3 s [.str t, .int ((i : Int) + 1)] = some (.int (findI s t (i + 1))) := by
        rw [dFind3_s (by omega)]
        rw [show ((i : Int) + 1).toNat = i + 1 by omega]
      have ka := kApp_ok (i := 2) (ρ := [some (.str s), some (.str t), some (.lst (acc.map fun i : Nat => D.int i)), some (.int i)]) (d := .int i) (xs := acc.map fun i : Nat => D.int i) (by rw [List.length_map, LNe]; omega)
      simp [l1_starts_of, ka, f3]
theorem starts_ok {s t : List Nat} (hs : s.length ≤ 1000) : m_starts_of [.str s, .str t] = .ok (.lst ((occ s t 0).map fun i : Nat => D.int i)) := by
  obtain ⟨o, e⟩ := starts_wh (t := t) hs WF 0 [] (Nat.le_refl _) (by rw [WFe]; omega)
  rw [← sWhile_eq, List.nil_append, List.map_nil] at e
  have em : dLst [] = some (.lst []) := dLst_ok (Nat.zero_le _)
  simp [m_starts_of, mFn_eq, b_starts_of, em, e]
theorem occur_ok {s t : List Nat} (hs : IsText s) (ht : IsText t) : m_occurrences [.str s, .str t] = .ok (.lst ((occ s t 0).map fun i : Nat => D.int i)) := by
  simp [m_occurrences, mFn_eq, b_occurrences, check_ok hs, check_ok ht, starts_ok (t := t) (show s.length ≤ 1000 by have := hs.1.2; omega)]
theorem occ_le {s t : List Nat} (h : t.length ≤ s.length + 1) : occ s t 0 = (List.range (s.length + 1 - t.length)).filter fun i => (s.drop i).take t.length == t := by
  unfold occ
  rw [Nat.sub_zero, ← List.range_eq_range']
  have key : ∀ k : Nat, (List.range (s.length + 1 - t.length + k)).filter (At s t) = (List.range (s.length + 1 - t.length)).filter (At s t) := by
    intro k
    induction k with
    | zero => rfl
    | succ k ih =>
      rw [← Nat.add_assoc, List.range_succ, List.filter_append, ih, List.filter_cons_of_neg (by unfold At; simp; intro; omega), List.filter_nil, List.append_nil]
  rw [show s.length + 1 = s.length + 1 - t.length + t.length by omega, key, show s.length + 1 - t.length + t.length - t.length = s.length + 1 - t.length by omega]
  refine List.filter_congr fun i m => ?_
  rw [List.mem_range] at m
  unfold At
  rw [decide_eq_true (by omega), Bool.true_and]
theorem occ_gt {s t : List Nat} (h : s.length < t.length) : occ s t 0 = [] := by
  unfold occ
  rw [List.filter_eq_nil_iff]
  intro i _
  unfold At
  rw [decide_eq_false (by omega), Bool.false_and]
  exact Bool.false_ne_true
abbrev Let (c : Nat) : Prop := 97 ≤ c ∧ c ≤ 122
theorem app_text {a b : List Nat} (ha : ∀ c ∈ a, Let c) (hb : ∀ c ∈ b, Let c) : ∀ c ∈ a ++ b, Let c := fun c m => (List.mem_append.mp m).elim (ha c) (hb c)
theorem cell_small {ns : List Int} (hb : ∀ z ∈ ns, PySem.Builtin.Int.intBits z ≤ 1048576) (k : Nat) : (ns.getD k 0).natAbs.log2 ≤ 2000000 := by
  rw [List.getD_eq_getElem?_getD]
  cases q : ns[k]? with
  | none => simp
  | some z =>
    have := bits_log (hb z (List.mem_of_getElem? q))
    rw [Option.getD_some]
    omega
theorem isAtom_bl {b : Bool} : isAtom (.bl b) = true := rfl
theorem len_rep {s : List Nat} {n : Nat} : (List.replicate n s).flatten.length = n * s.length := by
  induction n with
  | zero => simp
  | succ n ih => rw [List.replicate_succ, List.flatten_cons, List.length_append, ih, Nat.succ_mul]; omega
theorem mem_rep {s : List Nat} {n c : Nat} (h : c ∈ (List.replicate n s).flatten) : c ∈ s := by
  obtain ⟨l, m, mc⟩ := List.mem_flatten.mp h
  rw [(List.mem_replicate.mp m).2] at mc
  exact mc
theorem rng_nat {lo n : Nat} : rngL (lo : Int) n = (List.range' lo n).map fun i : Nat => D.int i := by
  unfold rngL
  rw [List.range'_eq_map_range, List.map_map]
  rfl
/-! ### two texts joined -/
theorem at_left {a b t : List Nat} {i : Nat} (h : i + t.length ≤ a.length) : At (a ++ b) t i = At a t i := by
  unfold At
  rw [List.drop_append_of_le_length (by omega), List.take_append_of_le_length (by rw [List.length_drop]; omega), List.length_append, decide_eq_true (by omega), decide_eq_true h]
theorem at_right {a b t : List Nat} {i : Nat} : At (a ++ b) t (a.length + i) = At b t i := by
  unfold At
  rw [List.drop_append, List.drop_of_length_le (by omega), List.nil_append, show a.length + i - a.length = i by omega, List.length_append]
  congr 1
  rw [decide_eq_decide]
  omega
/-- the places over the seam -/
def seam (s t : List Nat) (p : Nat) : List Nat := (List.range' (p + 1 - t.length) (p - (p + 1 - t.length))).filter (At s t)
theorem range'_split {a n m : Nat} : List.range' a (n + m) = List.range' a n ++ List.range' (a + n) m := by
  rw [List.range'_append_1]
theorem occ_join {a b t : List Nat} (h : 1 ≤ t.length) : occ (a ++ b) t 0 = occ a t 0 ++ seam (a ++ b) t a.length ++ (occ b t 0).map (a.length + ·) := by
  have e : (a ++ b).length + 1 - 0 = (a.length + 1 - t.length) + (a.length - (a.length + 1 - t.length)) + (b.length + 1) := by rw [List.length_append]; omega
  have e1 : (List.range' 0 (a.length + 1 - t.length)).filter (At (a ++ b) t) = occ a t 0 := by
    by_cases hl : t.length ≤ a.length
    · rw [occ_le (by omega), ← List.range_eq_range']
      refine List.filter_congr fun i m => ?_
      rw [List.mem_range] at m
      rw [at_left (by omega)]
      unfold At
      rw [decide_eq_true (by omega), Bool.true_and]
    · rw [occ_gt (by omega), show a.length + 1 - t.length = 0 by omega]
      rfl
  have e3 : (List.range' a.length (b.length + 1)).filter (At (a ++ b) t) = (occ b t 0).map (a.length + ·) := by
    unfold occ
    rw [Nat.sub_zero, List.range'_eq_map_range (s := a.length), List.filter_map, ← List.range_eq_range']
    congr 1
    exact List.filter_congr fun i _ => at_right
  have e0 : occ (a ++ b) t 0 = (List.range' 0 ((a ++ b).length + 1 - 0)).filter (At (a ++ b) t) := rfl
  rw [e0, e, range'_split, range'_split, List.filter_append, List.filter_append, Nat.zero_add, e1, show a.length + 1 - t.length + (a.length - (a.length + 1 - t.length)) = a.length by omega, Nat.zero_add, e3]
  rfl
end PM
set_option linter.all false
set_option maxRecDepth 100000
set_option maxHeartbeats 1000000
namespace PM
open PD
/-! ### try, stores, ranges as lists -/
section
variable {ρ ρ' : Env} {d : D}
def kT2 : R Fl → R Fl := fun r => match r with
  | .ok (.rt d) => .ok (.rt d)
  | _ => .stuck
@[simp] theorem kT2_rt : kT2 (.ok (.rt d)) = .ok (.rt d) := Eq.trans rfl rfl
theorem try_rt {cl : List Cl2} {f : Env → R Fl} (h : f ρ = .ok (.rt d)) : sTryN cl f ρ = .ok (.rt d) := by
  unfold sTryN
  rw [h]
theorem try_nx {cl : List Cl2} {f : Env → R Fl} (h : f ρ = .ok (.nx ρ')) : sTryN cl f ρ = .ok (.nx ρ') := by
  unfold sTryN
  rw [h]
theorem try_ex {cl : List Cl2} {c : PySem.Str} {fs : List (PySem.Str × D)} {f : Env → R Fl} (h : f ρ = .ok (.ex c fs ρ')) (hl : ρ'.length = ρ.length) : sTryN cl f ρ = goN cl c fs ρ' := by
  unfold sTryN
  rw [h]
  exact if_pos hl
theorem go_hit {c : PySem.Str} {l : List PySem.Str} {io : Option Nat} {g : Env → R Fl} {r : List Cl2} : goN (⟨tblL c l, io, g⟩ :: r) c [] ρ = endN io (g (clrI io ρ)) := by
  unfold goN tblL
  dsimp only
  rw [if_pos rfl]
  dsimp only
  rw [if_pos rfl]
theorem go_miss {c x : PySem.Str} {l : List PySem.Str} {io : Option Nat} {g : Env → R Fl} {r : List Cl2} (h : ¬ c = x) (m : c ∈ l) : goN (⟨tblL x l, io, g⟩ :: r) c [] ρ = goN r c [] ρ := by
  conv => lhs; unfold goN tblL
  dsimp only
  rw [if_neg h, if_pos m]
@[simp] theorem endN_rt {io : Option Nat} : endN io (.ok (.rt d)) = .ok (.rt d) := Eq.trans rfl rfl
@[simp] theorem endN_nx {io : Option Nat} : endN io (.ok (.nx ρ)) = .ok (.nx (clrI io ρ)) := Eq.trans rfl rfl
@[simp] theorem clrI_s {i : Nat} : clrI (some i) ρ = ρ.set i none := Eq.trans rfl rfl
@[simp] theorem clrI_n : clrI none ρ = ρ := Eq.trans rfl rfl
theorem setix_ok {i : Nat} {fe fk : Env → R D} {xs : List D} {j : Int} (h1 : fe ρ = .ok d) (h2 : getL ρ i = some xs) (h3 : fk ρ = .ok (.int j)) (h0 : 0 ≤ j) (hj : j < xs.length) : sSetIx i fe fk ρ = .ok (.nx (ρ.set i (some (.lst (xs.set j.toNat d))))) := by
  unfold sSetIx
  rw [h1]
  show (match getL ρ i with | some xs => _ | none => _) = _
  rw [h2]
  show liftE (fk ρ) ρ _ = _
  rw [h3]
  show (match L2.ixN xs.length j with | some m => _ | none => _) = _
  rw [ixN_of h0 hj]
theorem listR1_ok {j : Int} (h0 : 0 ≤ j) (h1 : j ≤ 1000000) : dListR1 (.int j) = some (.lst (rngL 0 j.toNat)) := if_pos ⟨by have : LR = 1000000000 := rfl; omega, h1⟩
theorem allAt_ints {xs : List Int} : allAt (xs.map D.int) = true := by
  unfold allAt
  rw [List.all_eq_true]
  intro x m
  obtain ⟨i, _, rfl⟩ := List.mem_map.mp m
  rfl
def kAtL : R D → R D := fun r => r >>= fun d => match d with
  | .lst xs => if allAt xs = true then .ok (.lst xs) else .stuck
  | _ => .stuck
@[simp] theorem mAtL_eq {f : Env → R D} : mAtL f ρ = kAtL (f ρ) := Eq.trans rfl rfl
theorem kAtL_ok {xs : List Int} : kAtL (.ok (.lst (xs.map D.int))) = .ok (.lst (xs.map D.int)) := if_pos allAt_ints
@[simp] theorem kAtL_err {c : PySem.Str} {fs : List (PySem.Str × D)} : kAtL (.err c fs) = .err c fs := Eq.trans rfl rfl
@[simp] theorem kC_err {x : D} {c : PySem.Str} {fs : List (PySem.Str × D)} : kC (.ok x) (.err c fs : R (List D)) = .err c fs := Eq.trans rfl rfl
@[simp] theorem kC_err1 {r : R (List D)} {c : PySem.Str} {fs : List (PySem.Str × D)} : kC (.err c fs) r = .err c fs := Eq.trans rfl rfl
@[simp] theorem kN_err {β : Type} {g : List D → Option β} {c : PySem.Str} {fs : List (PySem.Str × D)} : kN g (.err c fs) = .err c fs := Eq.trans rfl rfl
@[simp] theorem kCl_err {n : Nat} {m : List D → R D} {c : PySem.Str} {fs : List (PySem.Str × D)} : kCl n m (.err c fs) = .err c fs := Eq.trans rfl rfl
@[simp] theorem dListOf_l {xs : List D} : dListOf [.lst xs] = some (.lst xs) := rfl
@[simp] theorem dListOf_t {xs : List D} : dListOf [.tup xs] = some (.lst xs) := rfl
@[simp] theorem dTupOf_l {xs : List D} : dTupOf [.lst xs] = some (.tup xs) := rfl
@[simp] theorem dTupOf_t {xs : List D} : dTupOf [.tup xs] = some (.tup xs) := rfl
@[simp] theorem dRevL_l {xs : List D} : dRevL (.lst xs) = some (.lst xs.reverse) := rfl
theorem loop_ex {T : D → Env → Option Env} {b : Env → R Fl} {ds : List D} {ρ1 : Env} {c : PySem.Str} {fs : List (PySem.Str × D)} (h : T d ρ = some ρ1) (hb : b ρ1 = .ok (.ex c fs ρ')) : sLoop T b (d :: ds) ρ = .ok (.ex c fs ρ') := by
  show (match T d ρ with | none => _ | some ρ1 => _) = _
  rw [h]; show (b ρ1 >>= _) = _
  rw [hb]; rfl
end
/-! ### a sign in a text -/
theorem findN_one {s : List Nat} {c : Nat} : (findN s [c] 0).isSome = decide (c ∈ s) := by
  unfold findN
  rw [Nat.sub_zero, Bool.eq_iff_iff, List.find?_isSome, decide_eq_true_eq]
  constructor
  · rintro ⟨i, m, h⟩
    rw [Bool.and_eq_true, decide_eq_true_eq] at h
    obtain ⟨h1, h2⟩ := h
    rw [List.length_singleton] at h1
    have := eq_of_beq h2
    rw [List.length_singleton] at this
    have q : ((s.drop i).take 1)[0]? = some c := by rw [this]; rfl
    rw [List.getElem?_take_of_lt (by decide), List.getElem?_drop] at q
    exact List.mem_of_getElem? q
  · intro m
    obtain ⟨i, hi⟩ := List.getElem?_of_mem m
    have hl := (List.getElem?_eq_some_iff.mp hi).1
    refine ⟨i, List.mem_range'_1.mpr ⟨Nat.zero_le _, by omega⟩, ?_⟩
    rw [Bool.and_eq_true, decide_eq_true_eq, List.length_singleton]
    refine ⟨by omega, ?_⟩
    rw [beq_iff_eq, List.drop_eq_getElem_cons hl]
    show [s[i]] = [c]
    rw [List.getElem?_eq_getElem hl] at hi
    cases hi
    rfl
theorem dIn_one {s : List Nat} {c : Nat} : dIn (.str [c]) (.str s) = some (.bl (decide (c ∈ s))) := by
  show some (D.bl (findN s [c] 0).isSome) = _
  rw [findN_one]
theorem dNotIn_one {s : List Nat} {c : Nat} : dNotIn (.str [c]) (.str s) = some (.bl (!decide (c ∈ s))) := by
  show some (D.bl (!(findN s [c] 0).isSome)) = _
  rw [findN_one]
theorem mem_letters {c : Nat} : c ∈ zc3fcd3d7 ↔ 97 ≤ c ∧ c ≤ 122 := by
  constructor
  · intro h
    exact (show ∀ c ∈ zc3fcd3d7, 97 ≤ c ∧ c ≤ 122 by decide) c h
  · exact letter_mem
theorem mod_nat {y b : Int} (h : 0 < b) : ∃ a : Nat, y % b = a ∧ (a : Int) < b := ⟨(y % b).toNat, by have := seedpos (a := y) h; omega, by have := seedpos (a := y) h; omega⟩
end PM
set_option linter.all false
set_option maxRecDepth 100000
set_option maxHeartbeats 1000000
namespace PM
open PD
/-! ### different words, counted by their first places -/
theorem ded_snoc {z : List Nat} : ∀ {ws acc : List (List Nat)}, ded acc (ws ++ [z]) = if z ∈ ded acc ws then ded acc ws else ded acc ws ++ [z]
  | [], acc => by
    show ded (if z ∈ acc then acc else acc ++ [z]) [] = _
    rfl
  | w :: ws, acc => by
    show ded (if w ∈ acc then acc else acc ++ [w]) (ws ++ [z]) = _
    rw [ded_snoc]
    rfl
theorem mem_ded {z : List Nat} : ∀ {ws acc : List (List Nat)}, z ∈ ded acc ws ↔ z ∈ acc ∨ z ∈ ws
  | [], acc => by
    show z ∈ acc ↔ _
    simp
  | w :: ws, acc => by
    show z ∈ ded (if w ∈ acc then acc else acc ++ [w]) ws ↔ _
    rw [mem_ded]
    by_cases h : w ∈ acc
    · rw [if_pos h, List.mem_cons]
      constructor
      · rintro (a | a)
        · exact .inl a
        · exact .inr (.inr a)
      · rintro (a | rfl | a)
        · exact .inl a
        · exact .inl h
        · exact .inr a
    · rw [if_neg h, List.mem_append, List.mem_singleton, List.mem_cons, or_assoc]
/-- i is the first place of its word -/
def fresh (ws : List (List Nat)) (i : Nat) : Bool := match ws[i]? with
  | some w => decide (w ∉ ws.take i)
  | none => false
theorem ded_count (ws : List (List Nat)) : ∀ k, k ≤ ws.length → (ded [] (ws.take k)).length = ((List.range k).filter (fresh ws)).length
  | 0, _ => rfl
  | k + 1, h => by
    have ih := ded_count ws k (by omega)
    obtain ⟨w, hw⟩ : ∃ w, ws[k]? = some w := ⟨_, List.getElem?_eq_getElem (by omega)⟩
    have e : ws.take (k + 1) = ws.take k ++ [w] := by rw [List.take_succ, hw]; rfl
    have f : fresh ws k = decide (w ∉ ws.take k) := by unfold fresh; rw [hw]
    rw [e, ded_snoc, List.range_succ, List.filter_append, List.length_append, ← ih]
    by_cases m : w ∈ ws.take k
    · rw [if_pos (mem_ded.mpr (.inr m)), List.filter_cons_of_neg (by rw [f]; simpa using m)]
      simp
    · rw [if_neg fun q => (mem_ded.mp q).elim (fun z => absurd z (by simp)) m, List.filter_cons_of_pos (by rw [f]; simpa using m), List.length_append]
      simp
theorem ded_firsts (ws : List (List Nat)) : (ded [] ws).length = ((List.range ws.length).filter (fresh ws)).length := by
  have := ded_count ws ws.length (Nat.le_refl _)
  rwa [List.take_length] at this
/-- the words of length m -/
def wordAt (s : List Nat) (m i : Nat) : List Nat := (s.drop i).take m
def wordsOf (s : List Nat) (m : Nat) : List (List Nat) := (List.range (s.length + 1 - m)).map (wordAt s m)
theorem wordAt_len {s : List Nat} {m i : Nat} (h : i + m ≤ s.length) : (wordAt s m i).length = m := by
  unfold wordAt
  rw [List.length_take, List.length_drop]
  omega
theorem words_len {s : List Nat} {m : Nat} : (wordsOf s m).length = s.length + 1 - m := by
  unfold wordsOf
  rw [List.length_map, List.length_range]
theorem find_fresh {s : List Nat} {m i : Nat} (h : i + m ≤ s.length) : (findI s (wordAt s m i) 0 == (i : Int)) = fresh (wordsOf s m) i := by
  have wl := wordAt_len h
  have hi : (wordsOf s m)[i]? = some (wordAt s m i) := by
    unfold wordsOf
    rw [List.getElem?_map, List.getElem?_range (by omega)]
    rfl
  have tk : (wordsOf s m).take i = (List.range i).map (wordAt s m) := by
    unfold wordsOf
    rw [← List.map_take, List.take_range, Nat.min_eq_left (by omega)]
  have fr : fresh (wordsOf s m) i = decide (wordAt s m i ∉ (List.range i).map (wordAt s m)) := by
    unfold fresh
    rw [hi, tk]
  rw [fr, Bool.eq_iff_iff, beq_iff_eq, decide_eq_true_eq]
  have ati : (decide (i + (wordAt s m i).length ≤ s.length) && ((s.drop i).take (wordAt s m i).length == wordAt s m i)) = true := by
    rw [wl, decide_eq_true h, Bool.true_and]
    exact beq_self_eq_true _
  cases q : findN s (wordAt s m i) 0 with
  | none =>
    exfalso
    unfold findN at q
    exact List.find?_eq_none.mp q i (List.mem_range'_1.mpr ⟨Nat.zero_le _, by omega⟩) ati
  | some j =>
    have e : findI s (wordAt s m i) 0 = (j : Nat) := by unfold findI; rw [q]
    obtain ⟨_, hj, hmin⟩ := findN_some q
    rw [wl, Bool.and_eq_true, decide_eq_true_eq, beq_iff_eq] at hj
    rw [e]
    constructor
    · intro z mem
      have zj : j = i := by omega
      obtain ⟨k, mk, ek⟩ := List.mem_map.mp mem
      have lk := List.mem_range.mp mk
      refine hmin k (Nat.zero_le _) (by omega) ?_
      rw [wl, decide_eq_true (by omega), Bool.true_and, beq_iff_eq]
      exact ek
    · intro nm
      have le : ¬ i < j := fun lt => hmin i (Nat.zero_le _) lt ati
      have ge : ¬ j < i := fun lt => nm (List.mem_map.mpr ⟨j, List.mem_range.mpr lt, hj.2⟩)
      omega
/-- how many different words of length m -/
def cnt (s : List Nat) (m : Nat) : Nat := (ded [] (wordsOf s m)).length
theorem cnt_firsts {s : List Nat} {m : Nat} (h : m ≤ s.length) : cnt s m = ((List.range (s.length + 1 - m)).filter fun i => findI s (wordAt s m i) 0 == (i : Int)).length := by
  unfold cnt
  rw [ded_firsts, words_len]
  congr 1
  refine List.filter_congr fun i mi => ?_
  have := List.mem_range.mp mi
  exact (find_fresh (by omega)).symm
theorem cnt_le {s : List Nat} {m : Nat} : cnt s m ≤ s.length + 1 - m := by
  have := ded_len (wordsOf s m) []
  rw [words_len, List.length_nil, Nat.zero_add] at this
  exact this
theorem cnt_pos {s : List Nat} {m : Nat} (h : m ≤ s.length) : 1 ≤ cnt s m := by
  have m0 : wordAt s m 0 ∈ ded [] (wordsOf s m) := mem_ded.mpr (.inr (List.mem_map.mpr ⟨0, List.mem_range.mpr (by omega), rfl⟩))
  exact List.length_pos_of_mem m0
end PM
set_option linter.all false
set_option maxRecDepth 100000
/-! # Rules with conditions, for `simp only` with a discharger -/
namespace PD
section
variable {α : Type} {ρ ρ' : Env} {d x y z : D} {i j : Int} {k l : Nat} {p q : Prop} [Decidable p] [Decidable q] {s t : List Nat} {xs ys : List D}
theorem r_kIf_p {β : Type} {f g : Env → R β} (h : p) : kIf f g ρ (.ok (decide p)) = f ρ := by rw [decide_eq_true h]; rfl
theorem r_kIf_n {β : Type} {f g : Env → R β} (h : ¬ p) : kIf f g ρ (.ok (decide p)) = g ρ := by rw [decide_eq_false h]; rfl
theorem r_kIfS_p {f g : Env → R Fl} (h : p) : kIfS f g ρ (.ok (decide p)) = f ρ := by rw [decide_eq_true h]; rfl
theorem r_kIfS_n {f g : Env → R Fl} (h : ¬ p) : kIfS f g ρ (.ok (decide p)) = g ρ := by rw [decide_eq_false h]; rfl
theorem r_kAnd_p {g : Env → R Bool} (h : p) : kAnd g ρ (.ok (decide p)) = g ρ := by rw [decide_eq_true h]; rfl
theorem r_kAnd_n {g : Env → R Bool} (h : ¬ p) : kAnd g ρ (.ok (decide p)) = .ok false := by rw [decide_eq_false h]; rfl
theorem r_kOr_p {g : Env → R Bool} (h : p) : kOr g ρ (.ok (decide p)) = .ok true := by rw [decide_eq_true h]; rfl
theorem r_kOr_n {g : Env → R Bool} (h : ¬ p) : kOr g ρ (.ok (decide p)) = g ρ := by rw [decide_eq_false h]; rfl
theorem r_kAndV_p {g : Env → R D} (h : p) : kAndV g ρ (.ok (.bl (decide p))) = g ρ := by rw [decide_eq_true h]; rfl
theorem r_kAndV_n {g : Env → R D} (h : ¬ p) : kAndV g ρ (.ok (.bl (decide p))) = .ok (.bl false) := by rw [decide_eq_false h]; rfl
theorem r_kOrV_p {g : Env → R D} (h : p) : kOrV g ρ (.ok (.bl (decide p))) = .ok (.bl true) := by rw [decide_eq_true h]; rfl
theorem r_kOrV_n {g : Env → R D} (h : ¬ p) : kOrV g ρ (.ok (.bl (decide p))) = g ρ := by rw [decide_eq_false h]; rfl
theorem r_kNot : kNot (.ok (decide p)) = .ok (decide ¬ p) := by by_cases h : p <;> simp [h]
theorem r_dNot : dNot (.bl (decide p)) = some (.bl (decide ¬ p)) := by by_cases h : p <;> simp [h]
theorem r_kCh_p {g' : D → D → Option D} {c : Env → R D} (h : p) : kCh g' c ρ y (some (.bl (decide p))) = k2 g' (.ok y) (c ρ) := by rw [decide_eq_true h]; rfl
theorem r_kCh_n {g' : D → D → Option D} {c : Env → R D} (h : ¬ p) : kCh g' c ρ y (some (.bl (decide p))) = .ok (.bl false) := by rw [decide_eq_false h]; rfl
theorem r_not_t : decide (¬ True) = false := by decide
theorem r_bnot : (!decide p) = decide (¬ p) := by by_cases h : p <;> simp [h]
theorem r_eq_i : dEq (.int i) (.int j) = some (.bl (decide (i = j))) := by rw [dEq_i]; by_cases h : i = j <;> simp [h]
theorem r_ne_i : dNe (.int i) (.int j) = some (.bl (decide (¬ i = j))) := by rw [dNe_i]; by_cases h : i = j <;> simp [h]
theorem r_eq_s : dEq (.str s) (.str t) = some (.bl (decide (s = t))) := by rw [dEq_s]; by_cases h : s = t <;> simp [h]
theorem r_ne_s : dNe (.str s) (.str t) = some (.bl (decide (¬ s = t))) := by rw [dNe_s]; by_cases h : s = t <;> simp [h]
theorem r_mul (h1 : -4294967296 < i) (h2 : i < 4294967296) (h3 : -4294967296 < j) (h4 : j < 4294967296) : dMul (.int i) (.int j) = some (.int (i * j)) := dMul_i (by
  have a : i.natAbs.log2 < 32 := by
    by_cases c : i.natAbs = 0
    · rw [c]; decide
    · exact (Nat.log2_lt c).mpr (by omega)
  have b : j.natAbs.log2 < 32 := by
    by_cases c : j.natAbs = 0
    · rw [c]; decide
    · exact (Nat.log2_lt c).mpr (by omega)
  have : MB = MB := rfl
  exact Nat.lt_of_lt_of_le (Nat.add_lt_add a b) (by decide))
theorem r_div (h : 0 < j) (h2 : j < 4294967296) : dDiv (.int i) (.int j) = some (.int (i / j)) := dDiv_i h (by
  have b : j.natAbs.log2 < 32 := (Nat.log2_lt (by omega)).mpr (by omega)
  omega)
/-- an index as a list's own -/
theorem r_ixn : dIx (.lst xs) (.int (k : Nat)) = xs[k]? := by
  show L2.atI xs ((k : Nat) : Int) = xs[k]?
  unfold L2.atI
  by_cases h : k < xs.length
  · rw [ixN_nat h]; rfl
  · have e : L2.ixN xs.length (k : Int) = none := by unfold L2.ixN; rw [if_pos (by omega), if_neg (by omega)]
    rw [e, List.getElem?_eq_none (by omega)]; rfl
theorem r_ixi (h : 0 ≤ i) : dIx (.lst xs) (.int i) = xs[i.toNat]? := by
  have := r_ixn (xs := xs) (k := i.toNat)
  rwa [show ((i.toNat : Nat) : Int) = i by omega] at this
theorem r_ixtn : dIx (.tup xs) (.int (k : Nat)) = xs[k]? := r_ixn (xs := xs)
theorem r_ixti (h : 0 ≤ i) : dIx (.tup xs) (.int i) = xs[i.toNat]? := r_ixi (xs := xs) h
theorem r_ixsn (hl : s.length ≤ 1000000) : dIx (.str s) (.int (k : Nat)) = (s[k]?).map fun c => .str [c] := by
  show (if s.length ≤ LN then _ else _) = _
  rw [if_pos (show s.length ≤ LN from hl)]
  unfold L2.atI
  by_cases h : k < s.length
  · rw [ixN_nat h]; rfl
  · have e : L2.ixN s.length (k : Int) = none := by unfold L2.ixN; rw [if_pos (by omega), if_neg (by omega)]
    rw [e, List.getElem?_eq_none (by omega)]; rfl
theorem r_ixsi (hl : s.length ≤ 1000000) (h : 0 ≤ i) : dIx (.str s) (.int i) = (s[i.toNat]?).map fun c => .str [c] := by
  have := r_ixsn (s := s) (k := i.toNat) hl
  rwa [show ((i.toNat : Nat) : Int) = i by omega] at this
theorem r_ixc {ns : List Int} : dIx (.scr ns) (.int (k : Nat)) = (ns[k]?).map .int := by
  show (L2.atI ns ((k : Nat) : Int)).map _ = _
  unfold L2.atI
  by_cases h : k < ns.length
  · rw [ixN_nat h]; rfl
  · have e : L2.ixN ns.length (k : Int) = none := by unfold L2.ixN; rw [if_pos (by omega), if_neg (by omega)]
    rw [e, List.getElem?_eq_none (by omega)]; rfl
theorem r_last (h : xs.length = k + 1) : dIx (.lst xs) (.int (-1)) = xs[k]? := by
  show L2.atI xs (-1) = _
  unfold L2.atI
  have e : L2.ixN xs.length (-1) = some k := by
    unfold L2.ixN
    rw [h]
    simp
    omega
  rw [e]; rfl
/-! lengths and room -/
theorem r_len_s (h : s.length ≤ 1000000) : dLen [.str s] = some (.int s.length) := dLen_s h
theorem r_add_s (h : s.length + t.length ≤ 1000000) : dAdd (.str s) (.str t) = some (.str (s ++ t)) := dAdd_s h
theorem r_add_l (h : xs.length + ys.length ≤ 1000000) : dAdd (.lst xs) (.lst ys) = some (.lst (xs ++ ys)) := dAdd_l h
theorem r_cat_l (h : xs.length + ys.length ≤ 1000000) : dCat (.lst xs) (.lst ys) = some (.lst (xs ++ ys)) := dCat_l h
theorem r_lst (h : xs.length ≤ 1000000) : dLst xs = some (.lst xs) := dLst_ok h
theorem r_tup (h : xs.length ≤ 1000000) : dTup xs = some (.tup xs) := dTup_ok h
theorem r_R1 (h : -1000000000 ≤ j) (h2 : j ≤ 1000000000) : gR1 [.int j] = some (rngL 0 j.toNat) := gR1_ok h h2
theorem r_R1n (h2 : k ≤ 1000000000) : gR1 [.int (k : Nat)] = some (rngL 0 k) := by
  rw [r_R1 (by omega) (by omega), Int.toNat_natCast]
theorem r_R2 (h : -1000000000 ≤ i) (h2 : i ≤ 1000000000) (h3 : -1000000000 ≤ j) (h4 : j ≤ 1000000000) : gR2 [.int i, .int j] = some (rngL i (j - i).toNat) := gR2_ok h h2 h3 h4
theorem r_sl_s {lo hi : Option Int} (h : s.length ≤ 1000000) : dSl (.str s) lo hi = some (.str (cutG s lo hi)) := dSl_s h
theorem r_app {n : Nat} (h : xs.length < 1000000) : kApp n ρ (some xs) (.ok d) = .ok (.nx (ρ.set n (some (.lst (xs ++ [d]))))) := kApp_ok h
theorem r_kLn (h : xs.length ≤ 1000000) : kLn (.ok xs) = .ok (.lst xs) := kLn_ok h
theorem r_oRm {β γ : Type} {f : β → γ} {o : Option β} {b : β} (h : o = some b) : oR (o.map f) = .ok (f b) := by rw [h]; rfl
end
end PD
namespace PD
theorem isAtom_i {i : Int} : isAtom (.int i) = true := rfl
theorem isAtom_s {s : List Nat} : isAtom (.str s) = true := rfl
theorem isAtom_n : isAtom .non = true := rfl
end PD
namespace PD
/-! ### outcomes -/
/-- what a suite comes to -/
def Oc (r : R Fl) (N : Env → Prop) (K : D → Prop) (B C : Env → Prop) (X : PySem.Str → List (PySem.Str × D) → Prop) : Prop := match r with
  | .ok (.nx ρ) => N ρ
  | .ok (.rt d) => K d
  | .ok (.bk ρ) => B ρ
  | .ok (.ct ρ) => C ρ
  | .ok (.ex c fs _) => X c fs
  | _ => False
section
variable {N B C : Env → Prop} {K : D → Prop} {X : PySem.Str → List (PySem.Str × D) → Prop} {ρ : Env} {d : D} {r : R Fl}
theorem o_nx : Oc (.ok (.nx ρ)) N K B C X = N ρ := Eq.trans rfl rfl
theorem o_rt : Oc (.ok (.rt d)) N K B C X = K d := Eq.trans rfl rfl
theorem o_bk : Oc (.ok (.bk ρ)) N K B C X = B ρ := Eq.trans rfl rfl
theorem o_ct : Oc (.ok (.ct ρ)) N K B C X = C ρ := Eq.trans rfl rfl
theorem o_ex {c : PySem.Str} {fs : List (PySem.Str × D)} : Oc (.ok (.ex c fs ρ)) N K B C X = X c fs := Eq.trans rfl rfl
abbrev noE : Env → Prop := fun _ => False
abbrev noD : D → Prop := fun _ => False
abbrev noX : PySem.Str → List (PySem.Str × D) → Prop := fun _ _ => False
theorem oc_nx (h : Oc r N noD noE noE noX) : ∃ ρ, r = .ok (.nx ρ) ∧ N ρ := by
  unfold Oc at h
  split at h
  · exact ⟨_, rfl, h⟩
  all_goals exact h.elim
theorem oc_two (h : Oc r N K noE noE noX) : (∃ ρ, r = .ok (.nx ρ) ∧ N ρ) ∨ ∃ d, r = .ok (.rt d) ∧ K d := by
  unfold Oc at h
  split at h
  · exact .inl ⟨_, rfl, h⟩
  · exact .inr ⟨_, rfl, h⟩
  all_goals exact h.elim
theorem oc_exn (h : Oc r N noD noE noE X) : (∃ ρ, r = .ok (.nx ρ) ∧ N ρ) ∨ ∃ c fs ρ, r = .ok (.ex c fs ρ) ∧ X c fs := by
  unfold Oc at h
  split at h
  · exact .inl ⟨_, rfl, h⟩
  · exact h.elim
  · exact h.elim
  · exact h.elim
  · exact .inr ⟨_, _, _, rfl, h⟩
  · exact h.elim
def Ot (o : Option Env) (P : Env → Prop) : Prop := match o with
  | some ρ => P ρ
  | none => False
theorem ot_some {P : Env → Prop} : Ot (some ρ) P = P ρ := Eq.trans rfl rfl
theorem loop_oc {T : D → Env → Option Env} {b : Env → R Fl} (I : Nat → Env → Prop) (K : D → Prop) (B : Env → Prop) (X : PySem.Str → List (PySem.Str × D) → Prop) : ∀ (ds : List D) (k : Nat) (ρ : Env), I k ρ →
    (∀ (j : Nat) (d : D) (ρ : Env), ds[j]? = some d → I (k + j) ρ → Ot (T d ρ) fun ρ1 => Oc (b ρ1) (I (k + j + 1)) K B (I (k + j + 1)) X) →
    Oc (sLoop T b ds ρ) (fun ρ' => I (k + ds.length) ρ' ∨ B ρ') K noE noE X
  | [], k, ρ, h, _ => .inl h
  | d :: ds, k, ρ, h, hs => by
    have h1 := hs 0 d ρ rfl h
    have hs' : ∀ (j : Nat) (d' : D) (ρ : Env), ds[j]? = some d' → I (k + 1 + j) ρ → Ot (T d' ρ) fun ρ1 => Oc (b ρ1) (I (k + 1 + j + 1)) K B (I (k + 1 + j + 1)) X := fun j d' ρ' q h' => by
      have := hs (j + 1) d' ρ' (by rw [List.getElem?_cons_succ]; exact q) (by rw [show k + (j + 1) = k + 1 + j by omega]; exact h')
      rw [show k + (j + 1) + 1 = k + 1 + j + 1 by omega] at this
      exact this
    have z : k + (d :: ds).length = k + 1 + ds.length := by rw [List.length_cons]; omega
    rw [z]
    show Oc (match T d ρ with | none => _ | some ρ1 => _) _ _ _ _ _
    unfold Ot at h1
    split at h1
    · rename_i ρ1 e
      rw [e]
      show Oc (b ρ1 >>= _) _ _ _ _ _
      unfold Oc at h1
      split at h1
      · rename_i ρ2 e2
        rw [e2]
        exact loop_oc I K B X ds (k + 1) ρ2 h1 hs'
      · rename_i d2 e2
        rw [e2]
        exact h1
      · rename_i ρ2 e2
        rw [e2]
        exact .inr h1
      · rename_i ρ2 e2
        rw [e2]
        exact loop_oc I K B X ds (k + 1) ρ2 h1 hs'
      · rename_i c fs ρ2 e2
        rw [e2]
        exact h1
      · exact h1.elim
    · exact h1.elim
/-- each turn goes on -/
theorem loop_I {T : D → Env → Option Env} {b : Env → R Fl} (I : Nat → Env → Prop) (ds : List D) (ρ : Env) (h : I 0 ρ)
    (hs : ∀ (j : Nat) (d : D) (ρ : Env), ds[j]? = some d → I j ρ → Ot (T d ρ) fun ρ1 => Oc (b ρ1) (I (j + 1)) noD noE (I (j + 1)) noX) : ∃ ρ', sLoop T b ds ρ = .ok (.nx ρ') ∧ I ds.length ρ' := by
  have := oc_nx (loop_oc I noD noE noX ds 0 ρ h fun j d ρ q i => by rw [Nat.zero_add] at i ⊢; exact hs j d ρ q i)
  rw [Nat.zero_add] at this
  obtain ⟨ρ', e, h1 | h1⟩ := this
  · exact ⟨ρ', e, h1⟩
  · exact h1.elim
/-- each turn goes on or returns -/
theorem loop_R {T : D → Env → Option Env} {b : Env → R Fl} (I : Nat → Env → Prop) (K : D → Prop) (ds : List D) (ρ : Env) (h : I 0 ρ)
    (hs : ∀ (j : Nat) (d : D) (ρ : Env), ds[j]? = some d → I j ρ → Ot (T d ρ) fun ρ1 => Oc (b ρ1) (I (j + 1)) K noE (I (j + 1)) noX) : (∃ ρ', sLoop T b ds ρ = .ok (.nx ρ') ∧ I ds.length ρ') ∨ ∃ d, sLoop T b ds ρ = .ok (.rt d) ∧ K d := by
  have := oc_two (loop_oc I K noE noX ds 0 ρ h fun j d ρ q i => by rw [Nat.zero_add] at i ⊢; exact hs j d ρ q i)
  rw [Nat.zero_add] at this
  rcases this with ⟨ρ', e, h1 | h1⟩ | h1
  · exact .inl ⟨ρ', e, h1⟩
  · exact h1.elim
  · exact .inr h1
/-- each turn goes on or raises -/
theorem loop_X {T : D → Env → Option Env} {b : Env → R Fl} (I : Nat → Env → Prop) (X : PySem.Str → List (PySem.Str × D) → Prop) (ds : List D) (ρ : Env) (h : I 0 ρ)
    (hs : ∀ (j : Nat) (d : D) (ρ : Env), ds[j]? = some d → I j ρ → Ot (T d ρ) fun ρ1 => Oc (b ρ1) (I (j + 1)) noD noE (I (j + 1)) X) : (∃ ρ', sLoop T b ds ρ = .ok (.nx ρ') ∧ I ds.length ρ') ∨ ∃ c fs ρ', sLoop T b ds ρ = .ok (.ex c fs ρ') ∧ X c fs := by
  have := oc_exn (loop_oc I noD noE X ds 0 ρ h fun j d ρ q i => by rw [Nat.zero_add] at i ⊢; exact hs j d ρ q i)
  rw [Nat.zero_add] at this
  rcases this with ⟨ρ', e, h1 | h1⟩ | h1
  · exact .inl ⟨ρ', e, h1⟩
  · exact h1.elim
  · exact .inr h1
end
end PD
set_option linter.all false
set_option maxRecDepth 100000
namespace PN
open PD PM

def z8e13ffc9 : List Nat := [112, 117, 116]
def z12cba3ee : List Nat := [99, 111, 112, 121]
def i1_law_press : Env → R Fl := (sIf (mAnd (mB (m2 dEq (m2 dIx (mV 7) (m2 dMul (mC (.int 4)) (mV 10))) (mC (.int 4)))) (mB (m2 dGt (mV 9) (mC (.int 0))))) (sSet 12 (m2 dMod (mN dInt1 (mCons (m2 dIx (mV 7) (m2 dAdd (m2 dMul (mC (.int 4)) (mV 10)) (mC (.int 3)))) mNil)) (mV 9))) sNx)
def i2_law_press : Env → R Fl := (sIf (mB (m2 dLt (mV 9) (mV 4))) (sSeq (sSet 11 (m2 dAdd (mC (.int 1)) (m2 dMod (mN dInt1 (mCons (m2 dIx (mV 7) (m2 dAdd (m2 dMul (mC (.int 4)) (mV 10)) (mC (.int 2)))) mNil)) (mN dMin2 (mCons (mV 5) (mCons (m2 dSub (mV 4) (mV 9)) mNil)))))) (sSeq (sSet 12 (m2 dMod (mN dInt1 (mCons (m2 dIx (mV 7) (m2 dAdd (m2 dMul (mC (.int 4)) (mV 10)) (mC (.int 3)))) mNil)) (m2 dAdd (m2 dSub (mV 4) (mV 11)) (mC (.int 1))))) (sSeq i1_law_press (sSeq (sApp 8 (mN dTup (mCons (mC (.str z12cba3ee)) (mCons (mV 12) (mCons (mV 11) mNil))))) (sSet 9 (m2 dAdd (mV 9) (mV 11))))))) sNx)
def i3_law_press : Env → R Fl := (sIf (mAnd (mB (m2 dLt (mV 9) (mV 4))) (mB (m2 dLt (m2 dIx (mV 7) (m2 dMul (mC (.int 4)) (mV 10))) (mC (.int 2))))) (sSeq (sApp 8 (mN dTup (mCons (mC (.str z8e13ffc9)) (mCons (mCall 1 m_law_letter (mCons (m2 dMod (mN dInt1 (mCons (m2 dIx (mV 7) (m2 dAdd (m2 dMul (mC (.int 4)) (mV 10)) (mC (.int 1)))) mNil)) (mV 6)) mNil)) mNil)))) (sSet 9 (m2 dAdd (mV 9) (mC (.int 1))))) i2_law_press)
def l1_law_press : Env → R Fl := i3_law_press
def b_law_press : Env → R Fl := (sSeq (sSet 2 (mN dLst (mCons (mC (.int 10)) (mCons (mV 1) (mCons (mC (.int 3)) (mCons (mC (.int 2)) mNil)))))) (sSeq (sSet 3 (mCall 2 m_law_draws (mCons (mV 0) (mCons (mV 2) mNil)))) (sSeq (sSet 4 (mCall 3 m_law_size (mCons (m2 dIx (mV 3) (mC (.int 0))) (mCons (m2 dIx (mV 3) (mC (.int 1))) (mCons (mV 1) mNil))))) (sSeq (sSet 5 (m2 dIx (mN dLst (mCons (mC (.int 3)) (mCons (mC (.int 8)) (mCons (mV 1) mNil)))) (m2 dIx (mV 3) (mC (.int 2))))) (sSeq (sSet 6 (m2 dIx (mN dLst (mCons (mC (.int 26)) (mCons (mC (.int 2)) mNil))) (m2 dIx (mV 3) (mC (.int 3))))) (sSeq (sSet 7 (mSl dSl (mCall 2 m_law_draws (mCons (mV 0) (mCons (m2 dAdd (mV 2) (m2 dMul (mN dLst (mCons (mC (.int 5)) (mCons (mC (.int 26)) (mCons (mV 1) (mCons (mV 1) mNil))))) (mV 4))) mNil))) (mSo (mC (.int 4))) mNo)) (sSeq (sSet 8 (mN dLst mNil)) (sSeq (sSet 9 (mC (.int 0))) (sSeq (sFor (iArgs gR1 (mCons (mV 4) mNil)) (gSet 10) l1_law_press) (sRet (mV 8)))))))))))
def m_law_press : List D → R D := mFn 13 false b_law_press
def i1_law_many : Env → R Fl := (sIf (mB (m2 dEq (m2 dIx (mV 0) (mC (.int 0))) (mC (.str z8e13ffc9)))) (sRet (mC (.int 1))) sNx)
def b_law_many : Env → R Fl := (sSeq i1_law_many (sRet (m2 dIx (mV 0) (mC (.int 2)))))
def m_law_many : List D → R D := mFn 1 false b_law_many
def i1_phrase_length : Env → R Fl := (sIf (mB (m2 dEq (m2 dIx (mV 0) (mC (.int 0))) (mC (.str z8e13ffc9)))) (sRet (mC (.int 1))) sNx)
def b_phrase_length : Env → R Fl := (sSeq i1_phrase_length (sRet (m2 dIx (mV 0) (mC (.int 2)))))
def m_phrase_length : List D → R D := mFn 1 false b_phrase_length
def c1_total_length : Env → R D := (mLc (iOf gSq (mV 0)) [1] (gSet 1) mYes (mCall 1 m_phrase_length (mCons (mV 1) mNil)))
def b_total_length : Env → R Fl := (sRet (mN dSumL (mCons c1_total_length mNil)))
def m_total_length : List D → R D := mFn 2 false b_total_length
def b_is_letter : Env → R Fl := (sRet (mAndV (m2 dEq (mN dLen (mCons (mV 0) mNil)) (mC (.int 1))) (m2 dIn (mV 0) (mC (.str zc3fcd3d7)))))
def m_is_letter : List D → R D := mFn 1 false b_is_letter
def i1_is_valid_phrase : Env → R Fl := (sIf (mB (m2 dEq (m2 dIx (mV 0) (mC (.int 0))) (mC (.str z8e13ffc9)))) (sRet (mCall 1 m_is_letter (mCons (m2 dIx (mV 0) (mC (.int 1))) mNil))) sNx)
def b_is_valid_phrase : Env → R Fl := (sSeq i1_is_valid_phrase (sRet (mAndV (m2 dGe (m2 dIx (mV 0) (mC (.int 1))) (mC (.int 0))) (m2 dGe (m2 dIx (mV 0) (mC (.int 2))) (mC (.int 1))))))
def m_is_valid_phrase : List D → R D := mFn 1 false b_is_valid_phrase
def i1_check_phrases : Env → R Fl := (sIf (mB (m2 dEq (mN dLen (mCons (mV 0) mNil)) (mC (.int 0)))) (fun _ => .stuck) sNx)
def i2_check_phrases : Env → R Fl := (sIf (mNot (mTru (mCall 1 m_is_valid_phrase (mCons (mV 3) mNil)))) (fun _ => .stuck) sNx)
def l1_check_phrases : Env → R Fl := i2_check_phrases
def i3_check_phrases : Env → R Fl := (sIf (mB (m2 dGt (mV 1) (mC (.int 128)))) (fun _ => .stuck) sNx)
def i4_check_phrases : Env → R Fl := (sIf (mAnd (mB (m2 dEq (m2 dIx (mV 3) (mC (.int 0))) (mC (.str z12cba3ee)))) (mB (m2 dGt (m2 dAdd (m2 dIx (mV 3) (mC (.int 1))) (m2 dIx (mV 3) (mC (.int 2)))) (mV 1)))) (fun _ => .stuck) sNx)
def l2_check_phrases : Env → R Fl := i4_check_phrases
def b_check_phrases : Env → R Fl := (sSeq i1_check_phrases (sSeq (sFor (iOf (gEn 0) (mV 0)) (gTup (gsCons (gSet 2) (gsCons (gSet 3) gsNil))) l1_check_phrases) (sSeq (sSet 1 (mCall 1 m_total_length (mCons (mV 0) mNil))) (sSeq i3_check_phrases (sFor (iOf (gEn 0) (mV 0)) (gTup (gsCons (gSet 2) (gsCons (gSet 3) gsNil))) l2_check_phrases)))))
def m_check_phrases : List D → R D := mFn 4 true b_check_phrases
def b_Copies_init : Env → R Fl := (sSeq (sDrop (mCall 1 m_check_phrases (mCons (mV 1) mNil))) (sFldI 0 "phrases" (mN dTupOf (mCons (mV 1) mNil))))
def m_Copies_init : List D → R (List D) := mInit "Copies" ["phrases"] 2 b_Copies_init
def c1_sources_of : Env → R D := (mLc (iArgs gR1 (mCons (m2 dIx (mV 2) (mC (.int 2))) mNil)) [3] (gSet 3) mYes (m2 dAdd (m2 dIx (mV 2) (mC (.int 1))) (mV 3)))
def i1_sources_of : Env → R Fl := (sIf (mB (m2 dEq (m2 dIx (mV 2) (mC (.int 0))) (mC (.str z8e13ffc9)))) (sApp 1 (mC .non)) (sExt 1 c1_sources_of))
def l1_sources_of : Env → R Fl := i1_sources_of
def b_sources_of : Env → R Fl := (sSeq (sSet 1 (mN dLst mNil)) (sSeq (sFor (iOf gSq (mV 0)) (gSet 2) l1_sources_of) (sRet (mV 1))))
def m_sources_of : List D → R D := mFn 4 false b_sources_of
def l1_law_sources : Env → R Fl := (sApp 1 (m2 dAdd (m2 dIx (mV 2) (mC (.int 1))) (mV 3)))
def i1_law_sources : Env → R Fl := (sIf (mB (m2 dEq (m2 dIx (mV 2) (mC (.int 0))) (mC (.str z8e13ffc9)))) (sApp 1 (mC .non)) (sFor (iArgs gR1 (mCons (m2 dIx (mV 2) (mC (.int 2))) mNil)) (gSet 3) l1_law_sources))
def l2_law_sources : Env → R Fl := i1_law_sources
def b_law_sources : Env → R Fl := (sSeq (sSet 1 (mN dLst mNil)) (sSeq (sFor (iOf gSq (mV 0)) (gSet 2) l2_law_sources) (sRet (mV 1))))
def m_law_sources : List D → R D := mFn 4 false b_law_sources
def l1_law_put_letters : Env → R Fl := (sApp 1 (mC (.str [])))
def i1_law_put_letters : Env → R Fl := (sIf (mB (m2 dEq (m2 dIx (mV 2) (mC (.int 0))) (mC (.str z8e13ffc9)))) (sApp 1 (m2 dIx (mV 2) (mC (.int 1)))) (sFor (iArgs gR1 (mCons (m2 dIx (mV 2) (mC (.int 2))) mNil)) (gSet 3) l1_law_put_letters))
def l2_law_put_letters : Env → R Fl := i1_law_put_letters
def b_law_put_letters : Env → R Fl := (sSeq (sSet 1 (mN dLst mNil)) (sSeq (sFor (iOf gSq (mV 0)) (gSet 2) l2_law_put_letters) (sRet (mV 1))))
def m_law_put_letters : List D → R D := mFn 4 false b_law_put_letters
def l1_spans_of : Env → R Fl := (sSeq (sSet 4 (m2 dAdd (mV 2) (mCall 1 m_phrase_length (mCons (mV 3) mNil)))) (sSeq (sApp 1 (mN dTup (mCons (mV 2) (mCons (mV 4) mNil)))) (sSet 2 (mV 4))))
def b_spans_of : Env → R Fl := (sSeq (sSet 1 (mN dLst mNil)) (sSeq (sSet 2 (mC (.int 0))) (sSeq (sFor (iOf gSq (mV 0)) (gSet 3) l1_spans_of) (sRet (mV 1)))))
def m_spans_of : List D → R D := mFn 5 false b_spans_of
def b_Copies_length : Env → R Fl := (sRet (mCall 1 m_total_length (mCons (m1 (dFld ["Copies"] "phrases") (mV 0)) mNil)))
def m_Copies_length : List D → R D := mFn 1 false b_Copies_length
def b_Copies_size : Env → R Fl := (sRet (mN dLen (mCons (m1 (dFld ["Copies"] "phrases") (mV 0)) mNil)))
def m_Copies_size : List D → R D := mFn 1 false b_Copies_size
def b_Copies_sources : Env → R Fl := (sRet (mCall 1 m_sources_of (mCons (m1 (dFld ["Copies"] "phrases") (mV 0)) mNil)))
def m_Copies_sources : List D → R D := mFn 1 false b_Copies_sources
def b_Copies_spans : Env → R Fl := (sRet (mCall 1 m_spans_of (mCons (m1 (dFld ["Copies"] "phrases") (mV 0)) mNil)))
def m_Copies_spans : List D → R D := mFn 1 false b_Copies_spans
end PN
set_option linter.all false
set_option maxRecDepth 100000
set_option maxHeartbeats 1000000
namespace PN
open PD PM
local macro_rules
  | `(tactic| exists $es,*) => `(tactic| simp (disch := (first | assumption | omega | (simp only [LNe, LRe, rngL_length, List.length_map, List.length_append, List.length_take, List.length_drop, List.length_range, List.length_range', List.length_cons, List.length_nil, List.length_reverse, List.length_replicate, List.length_set, Int.toNat_natCast, Nat.reduceAdd, Nat.reduceLeDiff]; first | done | omega) | decide)) only [o_nx, o_rt, o_bk, o_ct, o_ex, ot_some, List.map_cons, List.map_nil, List.length_cons, List.length_nil, Nat.reduceAdd, Nat.reduceSub, Nat.reduceMul, Nat.reduceLT, Int.reduceAdd, Int.reduceSub, Int.reduceMul, Int.reduceNeg, Int.reduceToNat, Int.toNat_natCast, Nat.zero_add, List.replicate, List.cons_append, List.nil_append, List.set_cons_zero, List.set_cons_succ, List.getElem?_cons_zero, List.getElem?_cons_succ, Option.map_some, mFn_eq, kCl1, kCl2, kCl3, kCl4, ite_true, ite_false, Bool.not_true, Bool.not_false, reduceIte, isAtom_bl, isAtom_i, isAtom_s, isAtom_n, List.getElem?_nil, Bool.false_eq_true, eq_self, not_true_eq_false, not_false_eq_true, decide_true, decide_false, Bool.true_eq_false, kAtL_ok, reduceCtorEq, oR_some, oR_none, okb, mV_0, mV_s, mC_eq, k1_ok, m1_eq, k2_ok, m2_eq, kN_ok, mN_eq, iArgs_eq, kO_ok, iOf_eq, mB_eq, mTru_eq, mSo_eq, mNo_eq, mNil_eq, kC_ok, mCons_eq, dBool_bl, dInt?_int, kIf_t, kIf_f, mIf_eq, kAnd_t, kAnd_f, mAnd_eq, kOr_t, kOr_f, mOr_eq, kNot_ok, mNot_eq, kAndV_t, kAndV_f, mAndV_eq, kOrV_t, kOrV_f, mOrV_eq, kCh0_ok, kCh_t, kCh_f, mChain_eq, kAt_ok, mAt_eq, kSl_ok, mSl_eq, kM_ok, mM_eq, mCall_eq, noF_ok, noF_err, kClA_ok, mCallA_eq, kG_ok, kG_err, kClL_ok, mCallL_eq, kOb_ok, kOb_err, kMk_ok1, kMk_ok2, mMake_eq, kMkL_ok1, kMkL_ok2, mMakeL_eq, mMeth_eq, mMeth0_eq, gSq_l, gSq_t, gSq_s, gEn_l, dIsC_o, kS_nx, kS_rt, kS_bk, kS_ct, kS_ex, sSeq_eq, sNx_eq, sBk_eq, sCt_eq, sRaise_eq, sRetN_eq, kSet_ok, kSet_err, sSet_eq, kDrop_ok, kDrop_err, sDrop_eq, kRet_ok, kRet_err, sRet_eq, kIfS_t, kIfS_f, sIf_eq, kFor_ok, sFor_eq, getL_0, getL_s, sApp_eq, gSet_eq, kLc_ok, mLc_eq, wipeD_1, mYes_eq, kF_rt, kF_nx, kF_ex, dAdd_i, dSub_i, dNeg_i, dLt_i, dLe_i, dGt_i, dGe_i, dEq_b, dNot_b, dAbs_i, dMin2_i, dMax2_i, dInt1_i, dInt1_b, dLen_l, dLen_t, dLen_c, gL_l, gT_t, gS_s, dSl_l, dSlL_l, dFind_s, dAllS_s, dIsi_non, dIsi_bl, dIsi_int, dIsi_str, dIsi_lst, dIsi_tup, isN_non, isN_int, isN_str, isN_lst, isN_tup, isN_bl, notN_non, notN_int, notN_str, notN_lst, notN_tup, dIx_lit, dIx_litT, isi_1, isi_2, isi_3, isi_4, isi_5, isb_1, isb_2, isb_3, isb_4, isb_5, iss_1, iss_2, iss_3, iss_4, iss_5, isl_1, isl_2, isl_3, isl_4, isl_5, ist_1, ist_2, ist_3, ist_4, ist_5, isn_1, isn_2, isn_3, isn_4, isn_5, kT2_rt, endN_rt, endN_nx, clrI_s, clrI_n, mAtL_eq, kAtL_err, kC_err, kC_err1, kN_err, kCl_err, dListOf_l, dListOf_t, dTupOf_l, dTupOf_t, dRevL_l, r_kIf_p, r_kIf_n, r_kIfS_p, r_kIfS_n, r_kAnd_p, r_kAnd_n, r_kOr_p, r_kOr_n, r_kAndV_p, r_kAndV_n, r_kOrV_p, r_kOrV_n, r_kNot, r_dNot, r_kCh_p, r_kCh_n, r_not_t, r_bnot, r_eq_i, r_ne_i, r_eq_s, r_ne_s, r_mul, r_div, r_ixn, r_ixtn, r_ixsn, r_ixc, r_len_s, r_add_s, r_add_l, r_cat_l, r_lst, r_tup, r_R1, r_R1n, r_R2, r_sl_s, r_app, r_kLn, $[$es:term],*])
/-! ### phrases -/
inductive Ph where
  | put (c : Nat) | copy (s n : Nat)
deriving DecidableEq
def Ph.d : Ph → D
  | .put c => .tup [.str z8e13ffc9, .str [c]]
  | .copy s n => .tup [.str z12cba3ee, .int (s : Nat), .int (n : Nat)]
def Ph.len : Ph → Nat
  | .put _ => 1
  | .copy _ n => n
def tot (ps : List Ph) : Nat := (ps.map Ph.len).sum
@[simp] theorem tot_nil : tot [] = 0 := rfl
@[simp] theorem tot_cons {p : Ph} {ps : List Ph} : tot (p :: ps) = p.len + tot ps := rfl
@[simp] theorem tot_app {ps qs : List Ph} : tot (ps ++ qs) = tot ps + tot qs := by
  induction ps with
  | nil => simp
  | cons p ps ih => rw [List.cons_append, tot_cons, tot_cons, ih]; omega
def PhOk (size : Nat) : Ph → Prop
  | .put c => 97 ≤ c ∧ c ≤ 122
  | .copy s n => 1 ≤ n ∧ s + n ≤ size
structure Val (ps : List Ph) : Prop where
  ne : ps ≠ []
  most : tot ps ≤ 128
  ok : ∀ p ∈ ps, PhOk (tot ps) p
theorem PhOk.pos {size : Nat} {p : Ph} (h : PhOk size p) : 1 ≤ p.len := by
  cases p with
  | put c => exact Nat.le_refl 1
  | copy s n => exact h.1
theorem len_le {size : Nat} : ∀ {ps : List Ph}, (∀ p ∈ ps, PhOk size p) → ps.length ≤ tot ps
  | [], _ => Nat.le_refl _
  | p :: ps, h => by
    have h1 := (h p List.mem_cons_self).pos
    have h2 := len_le fun q m => h q (List.mem_cons_of_mem _ m)
    rw [tot_cons, List.length_cons]
    omega
theorem Val.len {ps : List Ph} (h : Val ps) : ps.length ≤ 128 := Nat.le_trans (len_le h.ok) h.most
theorem rep4_get {a b c d : Int} : ∀ {n k : Nat}, k < n → (List.replicate n [a, b, c, d]).flatten[4 * k]? = some a ∧ (List.replicate n [a, b, c, d]).flatten[4 * k + 1]? = some b ∧ (List.replicate n [a, b, c, d]).flatten[4 * k + 2]? = some c ∧ (List.replicate n [a, b, c, d]).flatten[4 * k + 3]? = some d
  | 0, _, h => absurd h (by omega)
  | n + 1, 0, _ => by
    rw [List.replicate_succ, List.flatten_cons]
    exact ⟨rfl, rfl, rfl, rfl⟩
  | n + 1, k + 1, h => by
    have ih := rep4_get (a := a) (b := b) (c := c) (d := d) (n := n) (k := k) (by omega)
    rw [List.replicate_succ, List.flatten_cons, show 4 * (k + 1) = 4 * k + 4 by omega]
    exact ih
theorem fits4 {ds : List Int} {a b c d : Int} {ss : List Int} (h : Fits ds (a :: b :: c :: d :: ss)) : ∃ x0 x1 x2 x3 r, ds = x0 :: x1 :: x2 :: x3 :: r ∧ (0 ≤ x0 ∧ x0 < a) ∧ (0 ≤ x1 ∧ x1 < b) ∧ (0 ≤ x2 ∧ x2 < c) ∧ (0 ≤ x3 ∧ x3 < d) ∧ Fits r ss := by
  match ds, h with
  | x0 :: x1 :: x2 :: x3 :: r, ⟨h0, h1, h2, h3, h4⟩ => exact ⟨x0, x1, x2, x3, r, rfl, h0, h1, h2, h3, h4⟩
theorem fits_ix {ds ss : List Int} {i : Nat} {s : Int} (h : Fits ds ss) (e : ss[i]? = some s) : ∃ d : Nat, (ds.map D.int)[i]? = some (.int (d : Nat)) ∧ (d : Int) < s := by
  obtain ⟨d, h1, h2, h3⟩ := h.get e
  refine ⟨d.toNat, ?_, by omega⟩
  rw [List.getElem?_map, h1, show ((d.toNat : Nat) : Int) = d by omega]
  rfl
theorem press_ok (n : Int) (hn : n.natAbs.log2 ≤ 2000000) : ∃ ps : List Ph, m_law_press [.int n, .int 128] = .ok (.lst (ps.map Ph.d)) ∧ Val ps := by
  obtain ⟨t0, et0, hf0⟩ := draws_ok n [10, 128, 3, 2] hn (by decide) (by decide)
  obtain ⟨y0, y1, y2, y3, r0, rfl, b0, b1, b2, b3, _⟩ := fits4 hf0
  obtain ⟨sz, es, s1, s2⟩ := size_ok y0 y1 128 (by omega)
  obtain ⟨z, rfl⟩ : ∃ z : Nat, sz = z := ⟨sz.toNat, by omega⟩
  obtain ⟨rc, erc, mrc, _⟩ := ix_mem (xs := [3, 8, 128]) b2.1 b2.2
  obtain ⟨ml, eml, mml, _⟩ := ix_mem (xs := [26, 2]) b3.1 b3.2
  have hrc : 0 < rc ∧ rc ≤ 128 := (show ∀ v ∈ ([3, 8, 128] : List Int), 0 < v ∧ v ≤ 128 by decide) rc mrc
  have hml : 0 < ml ∧ ml ≤ 26 := (show ∀ v ∈ ([26, 2] : List Int), 0 < v ∧ v ≤ 26 by decide) ml mml
  obtain ⟨t1, et1, hf1⟩ := draws_ok n ([10, 128, 3, 2] ++ (List.replicate z [(5 : Int), 26, 128, 128]).flatten) hn (fun s m => by
    rcases List.mem_append.mp m with m | m
    · exact (show ∀ s ∈ ([10, 128, 3, 2] : List Int), 0 < s ∧ s < 1000000000 by decide) s m
    · obtain ⟨l, m1, m2⟩ := List.mem_flatten.mp m
      rw [(List.mem_replicate.mp m1).2] at m2
      exact (show ∀ s ∈ ([5, 26, 128, 128] : List Int), 0 < s ∧ s < 1000000000 by decide) s m2) (by
    rw [List.length_append, List.length_flatten, List.map_replicate, List.sum_replicate_nat]
    show 4 + z * 4 ≤ 10000
    omega)
  obtain ⟨x0, x1, x2, x3, parts, rfl, _, _, _, _, hf⟩ := fits4 hf1
  have hf : Fits parts (List.replicate z [(5 : Int), 26, 128, 128]).flatten := hf
  have d1 : dLst [.int 10, .int 128, .int 3, .int 2] = some (.lst [.int 10, .int 128, .int 3, .int 2]) := dLst_ok (by rw [LNe]; decide)
  have d2 : dLst [.int 3, .int 8, .int 128] = some (.lst [.int 3, .int 8, .int 128]) := dLst_ok (by rw [LNe]; decide)
  have d3 : dLst [.int 26, .int 2] = some (.lst [.int 26, .int 2]) := dLst_ok (by rw [LNe]; decide)
  have d4 : dLst [.int 5, .int 26, .int 128, .int 128] = some (.lst [.int 5, .int 26, .int 128, .int 128]) := dLst_ok (by rw [LNe]; decide)
  have d5 : dMul (.lst [.int 5, .int 26, .int 128, .int 128]) (.int (z : Nat)) = some (.lst ((List.replicate z [(5 : Int), 26, 128, 128]).flatten.map .int)) := by
    rw [dMul_l (by omega) (by omega) (by rw [LNe, Int.toNat_natCast]; show 4 * z ≤ 1000000; omega), Int.toNat_natCast, List.map_flatten, List.map_replicate]
    rfl
  have hlen : ((List.replicate z [(5 : Int), 26, 128, 128]).flatten.map D.int).length = 4 * z := by
    rw [List.length_map, List.length_flatten, List.map_replicate, List.sum_replicate_nat]
    show z * 4 = 4 * z
    omega
  have d6 : dAdd (.lst [.int 10, .int 128, .int 3, .int 2]) (.lst ((List.replicate z [(5 : Int), 26, 128, 128]).flatten.map .int)) = some (.lst (([(10 : Int), 128, 3, 2] ++ (List.replicate z [(5 : Int), 26, 128, 128]).flatten).map .int)) := by
    rw [dAdd_l (by rw [hlen, LNe]; show 4 + 4 * z ≤ 1000000; omega), List.map_append]
    rfl
  have d7 : dSl (.lst ((x0 :: x1 :: x2 :: x3 :: parts).map D.int)) (some 4) none = some (.lst (parts.map .int)) := by
    rw [dSl_l, cut_from (by decide)]
    rfl
  have gx : ∀ k, k < z → ∃ p0 p1 p2 p3 : Nat, (parts.map D.int)[4 * k]? = some (.int (p0 : Nat)) ∧ (parts.map D.int)[4 * k + 1]? = some (.int (p1 : Nat)) ∧ (parts.map D.int)[4 * k + 2]? = some (.int (p2 : Nat)) ∧ (parts.map D.int)[4 * k + 3]? = some (.int (p3 : Nat)) := fun k hk => by
    obtain ⟨g0, g1, g2, g3⟩ := rep4_get (a := 5) (b := 26) (c := 128) (d := 128) hk
    obtain ⟨p0, q0, _⟩ := fits_ix hf g0
    obtain ⟨p1, q1, _⟩ := fits_ix hf g1
    obtain ⟨p2, q2, _⟩ := fits_ix hf g2
    obtain ⟨p3, q3, _⟩ := fits_ix hf g3
    exact ⟨p0, p1, p2, p3, q0, q1, q2, q3⟩
  generalize (([(10 : Int), 128, 3, 2] ++ (List.replicate z [(5 : Int), 26, 128, 128]).flatten).map D.int) = hd2 at *
  generalize ((List.replicate z [(5 : Int), 26, 128, 128]).flatten.map D.int) = hd3 at *
  generalize ((x0 :: x1 :: x2 :: x3 :: parts).map D.int) = al at *
  generalize parts.map D.int = pt at *
  simp only [List.map_cons, List.map_nil] at et0 erc eml
  obtain ⟨ρ', e, ps, o10, o11, o12, rfl, ht, hj, hok⟩ := loop_I (T := gSet 10) (b := l1_law_press) (fun j ρ => ∃ (ps : List Ph) (o10 o11 o12 : Option D), ρ = [some (.int n), some (.int 128), some (.lst [.int 10, .int 128, .int 3, .int 2]), some (.lst (.int y0 :: .int y1 :: .int y2 :: .int y3 :: r0.map D.int)), some (.int (z : Nat)), some (.int rc), some (.int ml), some (.lst pt), some (.lst (ps.map Ph.d)), some (.int (tot ps : Nat)), o10, o11, o12] ∧ tot ps ≤ z ∧ j ≤ tot ps ∧ ∀ p ∈ ps, PhOk z p)
    (rngL 0 z) [some (.int n), some (.int 128), some (.lst [.int 10, .int 128, .int 3, .int 2]), some (.lst (.int y0 :: .int y1 :: .int y2 :: .int y3 :: r0.map D.int)), some (.int (z : Nat)), some (.int rc), some (.int ml), some (.lst pt), some (.lst []), some (.int 0), none, none, none]
    ⟨[], none, none, none, rfl, Nat.zero_le _, Nat.le_refl _, fun p m => nomatch m⟩ (by
    rintro j d ρ hjd ⟨ps, o10, o11, o12, rfl, ht, hj, hok⟩
    obtain ⟨hjz, rfl⟩ := rngL_get hjd
    rw [Int.zero_add]
    obtain ⟨p0, p1, p2, p3, q0, q1, q2, q3⟩ := gx j hjz
    have ll := len_le hok
    have i0 : dIx (.lst pt) (.int (4 * (j : Int))) = some (.int (p0 : Nat)) := by rw [show 4 * (j : Int) = ((4 * j : Nat) : Int) by omega, r_ixn]; exact q0
    have i1 : dIx (.lst pt) (.int (4 * (j : Int) + 1)) = some (.int (p1 : Nat)) := by rw [show 4 * (j : Int) + 1 = ((4 * j + 1 : Nat) : Int) by omega, r_ixn]; exact q1
    have i2 : dIx (.lst pt) (.int (4 * (j : Int) + 2)) = some (.int (p2 : Nat)) := by rw [show 4 * (j : Int) + 2 = ((4 * j + 2 : Nat) : Int) by omega, r_ixn]; exact q2
    have i3 : dIx (.lst pt) (.int (4 * (j : Int) + 3)) = some (.int (p3 : Nat)) := by rw [show 4 * (j : Int) + 3 = ((4 * j + 3 : Nat) : Int) by omega, r_ixn]; exact q3
    have mj : dMul (.int 4) (.int (j : Nat)) = some (.int (4 * (j : Int))) := r_mul (by omega) (by omega) (by omega) (by omega)
    by_cases c1 : tot ps < z
    · by_cases c2 : p0 < 2
      · obtain ⟨c, ec, hc1, hc2⟩ := letter_ok ((p1 : Int) % ml)
        have := dMod_i (i := (p1 : Int)) hml.1
        exists l1_law_press, i3_law_press, i0, i1, mj, this, ec
        rw [show ps.map Ph.d ++ [D.tup [D.str z8e13ffc9, D.str [c]]] = (ps ++ [Ph.put c]).map Ph.d by rw [List.map_append]; rfl, show (tot ps : Int) + 1 = (tot (ps ++ [Ph.put c]) : Nat) by rw [tot_app]; rfl]
        refine ⟨ps ++ [.put c], _, _, _, rfl, ?_, ?_, ?_⟩
        · rw [tot_app]; show tot ps + 1 ≤ z; omega
        · rw [tot_app]; show j + 1 ≤ tot ps + 1; omega
        · intro p m
          rcases List.mem_append.mp m with m | m
          · exact hok p m
          · rw [List.mem_singleton.mp m]; exact ⟨hc1, hc2⟩
      · -- a copy
        obtain ⟨mn, emn, hmn⟩ : ∃ mn : Int, (if (z : Int) - (tot ps : Int) < rc then (z : Int) - (tot ps : Int) else rc) = mn ∧ 0 < mn ∧ mn ≤ (z : Int) - tot ps := by
          split
          · exact ⟨_, rfl, by omega, by omega⟩
          · exact ⟨_, rfl, by omega, by omega⟩
        obtain ⟨a, ea, la⟩ := mod_nat (y := (p2 : Int)) hmn.1
        have m2 := dMod_i (i := (p2 : Int)) hmn.1
        rw [ea] at m2
        obtain ⟨len, hlen⟩ : ∃ len : Nat, (1 : Int) + (a : Int) = (len : Nat) := ⟨1 + a, by omega⟩
        have hpos : 0 < (z : Int) - (len : Nat) + 1 := by omega
        obtain ⟨st, est, lst⟩ := mod_nat (y := (p3 : Int)) hpos
        have m3 := dMod_i (i := (p3 : Int)) hpos
        rw [est] at m3
        obtain ⟨st2, o12', f1, hst2⟩ : ∃ (st2 : Nat) (o12' : Option D), i1_law_press [some (.int n), some (.int 128), some (.lst [.int 10, .int 128, .int 3, .int 2]), some (.lst (.int y0 :: .int y1 :: .int y2 :: .int y3 :: r0.map D.int)), some (.int (z : Nat)), some (.int rc), some (.int ml), some (.lst pt), some (.lst (ps.map Ph.d)), some (.int (tot ps : Nat)), some (.int (j : Nat)), some (.int (len : Nat)), some (.int (st : Nat))] =
            .ok (.nx [some (.int n), some (.int 128), some (.lst [.int 10, .int 128, .int 3, .int 2]), some (.lst (.int y0 :: .int y1 :: .int y2 :: .int y3 :: r0.map D.int)), some (.int (z : Nat)), some (.int rc), some (.int ml), some (.lst pt), some (.lst (ps.map Ph.d)), some (.int (tot ps : Nat)), some (.int (j : Nat)), some (.int (len : Nat)), some (.int (st2 : Nat))]) ∧ st2 + len ≤ z := by
          by_cases c3 : (p0 : Int) = 4 ∧ 0 < (tot ps : Int)
          · obtain ⟨c3, c4⟩ := c3
            obtain ⟨b, eb, lb⟩ := mod_nat (y := (p3 : Int)) c4
            have m4 := dMod_i (i := (p3 : Int)) c4
            rw [eb] at m4
            refine ⟨b, none, ?_, by omega⟩
            exists i1_law_press, i0, i3, mj, m4, c3
          · refine ⟨st, none, ?_, by omega⟩
            by_cases c4 : (p0 : Int) = 4
            · exists i1_law_press, i0, i3, mj, c4
            · exists i1_law_press, i0, i3, mj, c4
        exists l1_law_press, i3_law_press, i2_law_press, i0, i2, i3, mj, emn, m2, hlen, m3, f1
        rw [show ps.map Ph.d ++ [D.tup [D.str z12cba3ee, D.int (st2 : Nat), D.int (len : Nat)]] = (ps ++ [Ph.copy st2 len]).map Ph.d by rw [List.map_append]; rfl, show (tot ps : Int) + (len : Nat) = (tot (ps ++ [Ph.copy st2 len]) : Nat) by rw [tot_app]; rfl]
        refine ⟨ps ++ [.copy st2 len], _, _, _, rfl, ?_, ?_, ?_⟩
        · rw [tot_app]; show tot ps + len ≤ z; omega
        · rw [tot_app]; show j + 1 ≤ tot ps + len; omega
        · intro p m
          rcases List.mem_append.mp m with m | m
          · exact hok p m
          · rw [List.mem_singleton.mp m]; exact ⟨by omega, hst2⟩
    · have e : tot ps = z := by omega
      exists l1_law_press, i3_law_press, i2_law_press, i0, mj
      exact ⟨ps, _, _, _, rfl, ht, by omega, hok⟩)
  rw [rngL_length] at hj
  have htz : tot ps = z := by omega
  refine ⟨ps, ?_, ?_, by omega, by rw [htz]; exact hok⟩
  · exists m_law_press, b_law_press, d1, et0, es, d2, erc, d3, eml, d4, d5, d6, et1, d7, e
  · intro z; rw [z] at htz; simp at htz; omega
end PN
set_option linter.all false
set_option maxRecDepth 100000
namespace PD
section
variable {α : Type} {N B C : Env → Prop} {K : D → Prop} {ρ : Env} {d : D}
/-- over the items, by what has been gone through -/
theorem loop_pre {T : D → Env → Option Env} {b : Env → R Fl} (I : List α → Env → Prop) (emb : α → D) (xs : List α) (ρ : Env) (h : I [] ρ)
    (hs : ∀ (pre : List α) (a : α) (post : List α) (ρ : Env), xs = pre ++ a :: post → I pre ρ → Ot (T (emb a) ρ) fun ρ1 => Oc (b ρ1) (I (pre ++ [a])) noD noE (I (pre ++ [a])) noX) : ∃ ρ', sLoop T b (xs.map emb) ρ = .ok (.nx ρ') ∧ I xs ρ' := by
  obtain ⟨ρ', e, h'⟩ := loop_I (T := T) (b := b) (fun j ρ => I (xs.take j) ρ) (xs.map emb) ρ (by rw [List.take_zero]; exact h) fun j d ρ hj hi => by
    rw [List.getElem?_map] at hj
    cases q : xs[j]? with
    | none => rw [q] at hj; cases hj
    | some a =>
      rw [q] at hj
      cases hj
      obtain ⟨hl, he⟩ := List.getElem?_eq_some_iff.mp q
      have e2 : xs.take (j + 1) = xs.take j ++ [a] := by rw [List.take_add_one, q]; rfl
      rw [e2]
      exact hs (xs.take j) a (xs.drop (j + 1)) ρ (by rw [← he, ← List.drop_eq_getElem_cons hl, List.take_append_drop]) hi
  rw [List.length_map, List.take_length] at h'
  exact ⟨ρ', e, h'⟩
/-- the same, a turn may return -/
theorem loop_preR {T : D → Env → Option Env} {b : Env → R Fl} (I : List α → Env → Prop) (K : D → Prop) (emb : α → D) (xs : List α) (ρ : Env) (h : I [] ρ)
    (hs : ∀ (pre : List α) (a : α) (post : List α) (ρ : Env), xs = pre ++ a :: post → I pre ρ → Ot (T (emb a) ρ) fun ρ1 => Oc (b ρ1) (I (pre ++ [a])) K noE (I (pre ++ [a])) noX) : (∃ ρ', sLoop T b (xs.map emb) ρ = .ok (.nx ρ') ∧ I xs ρ') ∨ ∃ d, sLoop T b (xs.map emb) ρ = .ok (.rt d) ∧ K d := by
  have := loop_R (T := T) (b := b) (fun j ρ => I (xs.take j) ρ) K (xs.map emb) ρ (by rw [List.take_zero]; exact h) fun j d ρ hj hi => by
    rw [List.getElem?_map] at hj
    cases q : xs[j]? with
    | none => rw [q] at hj; cases hj
    | some a =>
      rw [q] at hj
      cases hj
      obtain ⟨hl, he⟩ := List.getElem?_eq_some_iff.mp q
      have e2 : xs.take (j + 1) = xs.take j ++ [a] := by rw [List.take_add_one, q]; rfl
      rw [e2]
      exact hs (xs.take j) a (xs.drop (j + 1)) ρ (by rw [← he, ← List.drop_eq_getElem_cons hl, List.take_append_drop]) hi
  rcases this with ⟨ρ', e, h'⟩ | h'
  · rw [List.length_map, List.take_length] at h'
    exact .inl ⟨ρ', e, h'⟩
  · exact .inr h'
end
end PD
namespace PD
section
variable {ρ ρ' : Env} {d x y : D} {i j : Nat} {xs ys : List D}
def kExt (i : Nat) (ρ : Env) : Option (List D) → R D → R Fl := fun o r => match o with
  | some xs => liftE r ρ fun d => match d with
    | .lst ys => if xs.length + ys.length ≤ LN then .ok (.nx (ρ.set i (some (.lst (xs ++ ys))))) else .stuck
    | _ => .stuck
  | none => .stuck
theorem r_sExt {f : Env → R D} : sExt i f ρ = kExt i ρ (getL ρ i) (f ρ) := Eq.trans rfl rfl
theorem r_kExt (h : xs.length + ys.length ≤ 1000000) : kExt i ρ (some xs) (.ok (.lst ys)) = .ok (.nx (ρ.set i (some (.lst (xs ++ ys))))) := if_pos h
def kPop (j i : Nat) (ρ : Env) : Option (List D) → R Fl := fun o => match o with
  | some xs => match xs.getLast? with
    | some d => .ok (.nx ((ρ.set i (some (.lst xs.dropLast))).set j (some d)))
    | none => .stuck
  | none => .stuck
theorem r_sPop : sPop j i ρ = kPop j i ρ (getL ρ i) := Eq.trans rfl rfl
theorem r_kPop : kPop j i ρ (some (xs ++ [d])) = .ok (.nx ((ρ.set i (some (.lst xs))).set j (some d))) := by
  show (match (xs ++ [d]).getLast? with | some d => _ | none => _) = _
  rw [List.getLast?_append]
  show R.ok (Fl.nx ((ρ.set i (some (D.lst (xs ++ [d]).dropLast))).set j (some d))) = _
  rw [List.dropLast_concat]
def kSI (i : Nat) (ρ : Env) : R D → Option (List D) → R D → R Fl := fun r o k => liftE r ρ fun d => match o with
  | some xs => liftE k ρ fun k => match k with
    | .int j => match L2.ixN xs.length j with
      | some m => .ok (.nx (ρ.set i (some (.lst (xs.set m d)))))
      | none => .stuck
    | _ => .stuck
  | none => .stuck
theorem r_sSI {fe fk : Env → R D} : sSetIx i fe fk ρ = kSI i ρ (fe ρ) (getL ρ i) (fk ρ) := Eq.trans rfl rfl
theorem r_kSI {k : Nat} (h : k < xs.length) : kSI i ρ (.ok d) (some xs) (.ok (.int (k : Nat))) = .ok (.nx (ρ.set i (some (.lst (xs.set k d))))) := by
  show (match L2.ixN xs.length (k : Int) with | some m => _ | none => _) = _
  rw [ixN_nat h]
theorem r_kSIl : kSI i ρ (.ok d) (some (xs ++ [x])) (.ok (.int (-1))) = .ok (.nx (ρ.set i (some (.lst (xs ++ [d]))))) := by
  have e : L2.ixN (xs ++ [x]).length (-1) = some xs.length := by
    unfold L2.ixN
    rw [List.length_append]
    simp
    omega
  show (match L2.ixN (xs ++ [x]).length (-1) with | some m => _ | none => _) = _
  rw [e]
  show R.ok (Fl.nx (ρ.set i (some (D.lst ((xs ++ [x]).set xs.length d))))) = _
  rw [List.set_append_right _ _ (Nat.le_refl _), Nat.sub_self]
  rfl
theorem r_ixl : dIx (.lst (xs ++ [x])) (.int (-1)) = some x := by
  have := r_last (xs := xs ++ [x]) (k := xs.length) (by simp)
  rw [this]
  simp
def kAug (i : Nat) (g : D → D → Option D) (ρ : Env) : Option (Option D) → R D → R Fl := fun o r => match o with
  | some (some x) => liftE r ρ fun y => match g x y with
    | some d => .ok (.nx (ρ.set i (some d)))
    | none => .stuck
  | _ => .stuck
def kOS (i : Nat) (ρ : Env) : Option D → R Fl := fun o => match o with
  | some d => .ok (.nx (ρ.set i (some d)))
  | none => .stuck
theorem r_sAug {g : D → D → Option D} {f : Env → R D} : sAug i g f ρ = kAug i g ρ (ρ[i]?) (f ρ) := Eq.trans rfl rfl
theorem r_kAug {g : D → D → Option D} : kAug i g ρ (some (some x)) (.ok y) = kOS i ρ (g x y) := Eq.trans rfl rfl
theorem r_kOS : kOS i ρ (some d) = .ok (.nx (ρ.set i (some d))) := Eq.trans rfl rfl
def kPar (i j : Nat) (ρ : Env) : R D → R D → R Fl := fun a b => liftE a ρ fun a => liftE b ρ fun b => .ok (.nx ((ρ.set i (some a)).set j (some b)))
theorem r_sPar {f g : Env → R D} : sPar i j f g ρ = kPar i j ρ (f ρ) (g ρ) := Eq.trans rfl rfl
theorem r_kPar : kPar i j ρ (.ok x) (.ok y) = .ok (.nx ((ρ.set i (some x)).set j (some y))) := Eq.trans rfl rfl
def kTo : Option Env → R Fl := fun o => match o with
  | some ρ' => .ok (.nx ρ')
  | none => .stuck
def kAsg (T : D → Env → Option Env) (ρ : Env) : R D → R Fl := fun r => liftE r ρ fun d => kTo (T d ρ)
theorem r_sAsg {f : Env → R D} {T : D → Env → Option Env} : sAsg f T ρ = kAsg T ρ (f ρ) := by
  unfold sAsg kAsg kTo; rfl
theorem r_kAsg {T : D → Env → Option Env} : kAsg T ρ (.ok d) = kTo (T d ρ) := Eq.trans rfl rfl
theorem r_kTo : kTo (some ρ') = .ok (.nx ρ') := Eq.trans rfl rfl
theorem r_gTup {Ts : List D → Env → Option Env} : gTup Ts (.tup xs) ρ = Ts xs ρ := Eq.trans rfl rfl
theorem r_gsNil : gsNil [] ρ = some ρ := Eq.trans rfl rfl
def kGs (Ts : List D → Env → Option Env) (xs : List D) : Option Env → Option Env := fun o => o.bind fun ρ' => Ts xs ρ'
theorem r_gsCons {T : D → Env → Option Env} {Ts : List D → Env → Option Env} : gsCons T Ts (d :: xs) ρ = kGs Ts xs (T d ρ) := by
  show (T d ρ).bind _ = (T d ρ).bind _
  rfl
theorem r_kGs {Ts : List D → Env → Option Env} : kGs Ts xs (some ρ') = Ts xs ρ' := Eq.trans rfl rfl
theorem r_tru0 : dTru (.lst []) = some false := Eq.trans rfl rfl
theorem r_truc : dTru (.lst (x :: xs)) = some true := Eq.trans rfl rfl
theorem r_trus : dTru (.lst (xs ++ [x])) = some true := by
  show some (!(xs ++ [x]).isEmpty) = _
  cases xs <;> rfl
theorem r_trub {b : Bool} : dTru (.bl b) = some b := Eq.trans rfl rfl
theorem r_trun : dTru .non = some false := Eq.trans rfl rfl
/-! fields, __init__ -/
def kFI (i : Nat) (f : PySem.Str) (ρ : Env) : R D → Option (Option D) → R Fl := fun r o => liftE r ρ fun d => match o with
  | some (some (.obj c ks vs)) => if ks.contains f = false ∧ ks.length < 900 then .ok (.nx (ρ.set i (some (.obj c (ks ++ [f]) (vs ++ [d]))))) else .stuck
  | _ => .stuck
theorem r_sFI {f : PySem.Str} {fe : Env → R D} : sFldI i f fe ρ = kFI i f ρ (fe ρ) (ρ[i]?) := Eq.trans rfl rfl
theorem r_kFI {f c : PySem.Str} {ks : List PySem.Str} (h : ks.contains f = false ∧ ks.length < 900) : kFI i f ρ (.ok d) (some (some (.obj c ks xs))) = .ok (.nx (ρ.set i (some (.obj c (ks ++ [f]) (xs ++ [d]))))) := if_pos h
def kInit (ks : List PySem.Str) : R Fl → R (List D) := fun r => match r with
  | .ok (.nx ρ) => initOf ks ρ
  | .ok (.ex c fs _) => .err c fs
  | _ => .stuck
theorem mInit_eq {c : PySem.Str} {ks : List PySem.Str} {n : Nat} {b : Env → R Fl} {ds : List D} : mInit c ks n b ds = kInit ks (b (some (.obj c [] []) :: (ds.map some ++ List.replicate (n - 1 - ds.length) none))) := Eq.trans rfl rfl
theorem r_kInit {ks : List PySem.Str} : kInit ks (.ok (.nx ρ)) = initOf ks ρ := Eq.trans rfl rfl
theorem r_kInitX {ks : List PySem.Str} {c : PySem.Str} {fs : List (PySem.Str × D)} : kInit ks (.ok (.ex c fs ρ)) = .err c fs := Eq.trans rfl rfl
theorem initOf_ok {ks : List PySem.Str} {c : PySem.Str} : initOf ks (some (.obj c ks xs) :: ρ) = .ok xs := if_pos rfl
end
end PD
set_option linter.all false
set_option maxRecDepth 100000
set_option maxHeartbeats 1000000
namespace PN
open PD PM
local macro_rules
  | `(tactic| exists $es,*) => `(tactic| simp (disch := (first | assumption | omega | (simp only [LNe, LRe, rngL_length, List.length_map, List.length_append, List.length_take, List.length_drop, List.length_range, List.length_range', List.length_cons, List.length_nil, List.length_reverse, List.length_replicate, List.length_set, Int.toNat_natCast, Nat.reduceAdd, Nat.reduceLeDiff]; first | done | omega) | decide)) only [o_nx, o_rt, o_bk, o_ct, o_ex, ot_some, List.map_cons, List.map_nil, List.length_cons, List.length_nil, Nat.reduceAdd, Nat.reduceSub, Nat.reduceMul, Nat.reduceLT, Int.reduceAdd, Int.reduceSub, Int.reduceMul, Int.reduceNeg, Int.reduceToNat, Int.toNat_natCast, Nat.zero_add, List.replicate, List.cons_append, List.nil_append, List.set_cons_zero, List.set_cons_succ, List.getElem?_cons_zero, List.getElem?_cons_succ, Option.map_some, mFn_eq, kCl1, kCl2, kCl3, kCl4, ite_true, ite_false, Bool.not_true, Bool.not_false, reduceIte, isAtom_bl, isAtom_i, isAtom_s, isAtom_n, List.getElem?_nil, Bool.false_eq_true, eq_self, not_true_eq_false, not_false_eq_true, decide_true, decide_false, Bool.true_eq_false, kAtL_ok, reduceCtorEq, oR_some, oR_none, okb, mV_0, mV_s, mC_eq, k1_ok, m1_eq, k2_ok, m2_eq, kN_ok, mN_eq, iArgs_eq, kO_ok, iOf_eq, mB_eq, mTru_eq, mSo_eq, mNo_eq, mNil_eq, kC_ok, mCons_eq, dBool_bl, dInt?_int, kIf_t, kIf_f, mIf_eq, kAnd_t, kAnd_f, mAnd_eq, kOr_t, kOr_f, mOr_eq, kNot_ok, mNot_eq, kAndV_t, kAndV_f, mAndV_eq, kOrV_t, kOrV_f, mOrV_eq, kCh0_ok, kCh_t, kCh_f, mChain_eq, kAt_ok, mAt_eq, kSl_ok, mSl_eq, kM_ok, mM_eq, mCall_eq, noF_ok, noF_err, kClA_ok, mCallA_eq, kG_ok, kG_err, kClL_ok, mCallL_eq, kOb_ok, kOb_err, kMk_ok1, kMk_ok2, mMake_eq, kMkL_ok1, kMkL_ok2, mMakeL_eq, mMeth_eq, mMeth0_eq, gSq_l, gSq_t, gSq_s, gEn_l, dIsC_o, kS_nx, kS_rt, kS_bk, kS_ct, kS_ex, sSeq_eq, sNx_eq, sBk_eq, sCt_eq, sRaise_eq, sRetN_eq, kSet_ok, kSet_err, sSet_eq, kDrop_ok, kDrop_err, sDrop_eq, kRet_ok, kRet_err, sRet_eq, kIfS_t, kIfS_f, sIf_eq, kFor_ok, sFor_eq, getL_0, getL_s, sApp_eq, gSet_eq, kLc_ok, mLc_eq, wipeD_1, mYes_eq, kF_rt, kF_nx, kF_ex, dAdd_i, dSub_i, dNeg_i, dLt_i, dLe_i, dGt_i, dGe_i, dEq_b, dNot_b, dAbs_i, dMin2_i, dMax2_i, dInt1_i, dInt1_b, dLen_l, dLen_t, dLen_c, gL_l, gT_t, gS_s, dSl_l, dSlL_l, dFind_s, dAllS_s, dIsi_non, dIsi_bl, dIsi_int, dIsi_str, dIsi_lst, dIsi_tup, isN_non, isN_int, isN_str, isN_lst, isN_tup, isN_bl, notN_non, notN_int, notN_str, notN_lst, notN_tup, dIx_lit, dIx_litT, isi_1, isi_2, isi_3, isi_4, isi_5, isb_1, isb_2, isb_3, isb_4, isb_5, iss_1, iss_2, iss_3, iss_4, iss_5, isl_1, isl_2, isl_3, isl_4, isl_5, ist_1, ist_2, ist_3, ist_4, ist_5, isn_1, isn_2, isn_3, isn_4, isn_5, kT2_rt, endN_rt, endN_nx, clrI_s, clrI_n, mAtL_eq, kAtL_err, kC_err, kC_err1, kN_err, kCl_err, dListOf_l, dListOf_t, dTupOf_l, dTupOf_t, dRevL_l, r_kIf_p, r_kIf_n, r_kIfS_p, r_kIfS_n, r_kAnd_p, r_kAnd_n, r_kOr_p, r_kOr_n, r_kAndV_p, r_kAndV_n, r_kOrV_p, r_kOrV_n, r_kNot, r_dNot, r_kCh_p, r_kCh_n, r_not_t, r_bnot, r_eq_i, r_ne_i, r_eq_s, r_ne_s, r_mul, r_div, r_ixn, r_ixtn, r_ixsn, r_ixc, r_len_s, r_add_s, r_add_l, r_cat_l, r_lst, r_tup, r_R1, r_R1n, r_R2, r_sl_s, r_app, r_kLn, r_sExt, r_kExt, r_sPop, r_kPop, r_sSI, r_kSI, r_kSIl, r_ixl, r_sAug, r_kAug, r_kOS, r_sPar, r_kPar, r_sAsg, r_kAsg, r_kTo, r_gTup, r_gsNil, r_gsCons, r_kGs, r_tru0, r_truc, r_trus, r_trub, r_trun, r_sFI, r_kFI, r_kInit, r_kInitX, $[$es:term],*])
theorem pc_ne : (z8e13ffc9 = z12cba3ee) = False := by simp [z8e13ffc9, z12cba3ee]
theorem cp_ne : (z12cba3ee = z8e13ffc9) = False := by simp [z8e13ffc9, z12cba3ee]
/-! ### sources and letters -/
def oD : Option Nat → D
  | none => .non
  | some k => .int (k : Nat)
def src1 : Ph → List (Option Nat)
  | .put _ => [none]
  | .copy s n => (List.range n).map fun i => some (s + i)
def srcs (ps : List Ph) : List (Option Nat) := (ps.map src1).flatten
def let1 : Ph → List (List Nat)
  | .put c => [[c]]
  | .copy _ n => List.replicate n []
def lets (ps : List Ph) : List (List Nat) := (ps.map let1).flatten
theorem src1_len {p : Ph} : (src1 p).length = p.len := by
  cases p with
  | put c => rfl
  | copy s n => unfold src1 Ph.len; rw [List.length_map, List.length_range]
theorem let1_len {p : Ph} : (let1 p).length = p.len := by
  cases p with
  | put c => rfl
  | copy s n => unfold let1 Ph.len; rw [List.length_replicate]
theorem srcs_app {a b : List Ph} : srcs (a ++ b) = srcs a ++ srcs b := by unfold srcs; rw [List.map_append, List.flatten_append]
theorem lets_app {a b : List Ph} : lets (a ++ b) = lets a ++ lets b := by unfold lets; rw [List.map_append, List.flatten_append]
theorem srcs_one {p : Ph} : srcs [p] = src1 p := by simp [srcs]
theorem lets_one {p : Ph} : lets [p] = let1 p := by simp [lets]
theorem srcs_len : ∀ {ps : List Ph}, (srcs ps).length = tot ps
  | [] => rfl
  | p :: ps => by
    have := srcs_len (ps := ps)
    rw [show p :: ps = [p] ++ ps from rfl, srcs_app, List.length_append, this, srcs_one, src1_len, tot_app]
    rfl
theorem lets_len : ∀ {ps : List Ph}, (lets ps).length = tot ps
  | [] => rfl
  | p :: ps => by
    have := lets_len (ps := ps)
    rw [show p :: ps = [p] ++ ps from rfl, lets_app, List.length_append, this, lets_one, let1_len, tot_app]
    rfl
section
variable {s : D} {ps : List Ph}
theorem law_sources_ok (hs : gSq s = some (ps.map Ph.d)) (ht : tot ps ≤ 1000) : m_law_sources [s] = .ok (.lst ((srcs ps).map oD)) := by
  obtain ⟨ρ', e, o2, o3, rfl⟩ := loop_pre (T := gSet 2) (b := l2_law_sources) (fun pre ρ => ∃ o2 o3 : Option D, ρ = [some s, some (.lst ((srcs pre).map oD)), o2, o3]) Ph.d ps [some s, some (.lst []), none, none] ⟨none, none, rfl⟩ (by
    rintro pre a post ρ hp ⟨o2, o3, rfl⟩
    have hl : tot pre + a.len ≤ 1000 := by rw [hp, tot_app, tot_cons] at ht; omega
    have l1 := srcs_len (ps := pre)
    rw [srcs_app, srcs_one, List.map_append]
    have l2 : ((srcs pre).map oD).length = tot pre := by rw [List.length_map, l1]
    generalize (srcs pre).map oD = ac at *
    cases a with
    | put c =>
      exists l2_law_sources, i1_law_sources, Ph.d
      exact ⟨_, _, rfl⟩
    | copy st n =>
      have hl : tot pre + n ≤ 1000 := hl
      obtain ⟨ρ2, e2, o3', rfl⟩ := loop_I (T := gSet 3) (b := l1_law_sources) (fun j ρ => ∃ o3 : Option D, ρ = [some s, some (.lst (ac ++ ((List.range j).map fun i => some (st + i)).map oD)), some (Ph.copy st n).d, o3]) (rngL 0 n) [some s, some (.lst ac), some (Ph.copy st n).d, o3] ⟨o3, by rw [List.range_zero, List.map_nil, List.map_nil, List.append_nil]⟩ (by
        rintro j d ρ hj ⟨o3, rfl⟩
        obtain ⟨hjl, rfl⟩ := rngL_get hj
        rw [Int.zero_add, List.range_succ, List.map_append, List.map_append, ← List.append_assoc]
        have l3 : (ac ++ ((List.range j).map fun i => some (st + i)).map oD).length < 1000000 := by
          rw [List.length_append, List.length_map, List.length_map, List.length_range, l2]; omega
        generalize ac ++ ((List.range j).map fun i => some (st + i)).map oD = ac2 at *
        exists l1_law_sources, Ph.d
        exact ⟨_, rfl⟩)
      rw [rngL_length] at e2
      exists l2_law_sources, i1_law_sources, cp_ne
      simp only [Ph.d] at e2 ⊢
      exists cp_ne, e2
      exact ⟨_, _, rfl⟩)
  exists m_law_sources, b_law_sources, hs, e
theorem step_ok (st n : Nat) (hn : n ≤ 1000) {o1 o3 : Option D} : c1_sources_of [some s, o1, some (Ph.copy st n).d, o3] = .ok (.lst ((src1 (.copy st n)).map oD)) := by
  have e : lcGo (gSet 3) mYes (m2 dAdd (m2 dIx (mV 2) (mC (.int 1))) (mV 3)) [some s, o1, some (Ph.copy st n).d, none] (rngL 0 n) = .ok ((src1 (.copy st n)).map oD) := by
    rw [rngL0, List.map_map]
    have := lc_fm (T := gSet 3) (ft := mYes) (fe := m2 dAdd (m2 dIx (mV 2) (mC (.int 1))) (mV 3)) (ρ := [some s, o1, some (Ph.copy st n).d, none]) (fun i : Nat => D.int i) (fun _ => true) (fun i : Nat => D.int (st + i : Nat)) (xs := List.range n) fun i mi => ⟨_, rfl, rfl, fun _ => by
      exists Ph.d
      rfl⟩
    refine Eq.trans this ?_
    rw [List.filter_eq_self.mpr (fun _ _ => rfl)]
    unfold src1
    rw [List.map_map]
    rfl
  have l : ((src1 (.copy st n)).map oD).length ≤ 1000000 := by rw [List.length_map, src1_len]; show n ≤ 1000000; omega
  generalize (src1 (.copy st n)).map oD = ys at *
  simp only [Ph.d] at e ⊢
  exists c1_sources_of, e
theorem sources_ok (hs : gSq s = some (ps.map Ph.d)) (ht : tot ps ≤ 1000) : m_sources_of [s] = .ok (.lst ((srcs ps).map oD)) := by
  obtain ⟨ρ', e, o2, o3, rfl⟩ := loop_pre (T := gSet 2) (b := l1_sources_of) (fun pre ρ => ∃ o2 o3 : Option D, ρ = [some s, some (.lst ((srcs pre).map oD)), o2, o3]) Ph.d ps [some s, some (.lst []), none, none] ⟨none, none, rfl⟩ (by
    rintro pre a post ρ hp ⟨o2, o3, rfl⟩
    have hl : tot pre + a.len ≤ 1000 := by rw [hp, tot_app, tot_cons] at ht; omega
    have l1 := srcs_len (ps := pre)
    rw [srcs_app, srcs_one, List.map_append]
    have l2 : ((srcs pre).map oD).length = tot pre := by rw [List.length_map, l1]
    generalize (srcs pre).map oD = ac at *
    cases a with
    | put c =>
      exists l1_sources_of, i1_sources_of, Ph.d
      exact ⟨_, _, rfl⟩
    | copy st n =>
      have hl : tot pre + n ≤ 1000 := hl
      have e2 := step_ok (s := s) st n (by omega) (o1 := some (.lst ac)) (o3 := o3)
      have l3 : ((src1 (.copy st n)).map oD).length = n := by rw [List.length_map, src1_len]; rfl
      generalize (src1 (.copy st n)).map oD = ys at *
      simp only [Ph.d] at e2 ⊢
      exists l1_sources_of, i1_sources_of, cp_ne, e2
      exact ⟨_, _, rfl⟩)
  exists m_sources_of, b_sources_of, hs, e
theorem put_letters_ok (hs : gSq s = some (ps.map Ph.d)) (ht : tot ps ≤ 1000) : m_law_put_letters [s] = .ok (.lst ((lets ps).map D.str)) := by
  obtain ⟨ρ', e, o2, o3, rfl⟩ := loop_pre (T := gSet 2) (b := l2_law_put_letters) (fun pre ρ => ∃ o2 o3 : Option D, ρ = [some s, some (.lst ((lets pre).map D.str)), o2, o3]) Ph.d ps [some s, some (.lst []), none, none] ⟨none, none, rfl⟩ (by
    rintro pre a post ρ hp ⟨o2, o3, rfl⟩
    have hl : tot pre + a.len ≤ 1000 := by rw [hp, tot_app, tot_cons] at ht; omega
    have l1 := lets_len (ps := pre)
    rw [lets_app, lets_one, List.map_append]
    have l2 : ((lets pre).map D.str).length = tot pre := by rw [List.length_map, l1]
    generalize (lets pre).map D.str = ac at *
    cases a with
    | put c =>
      exists l2_law_put_letters, i1_law_put_letters, Ph.d
      exact ⟨_, _, rfl⟩
    | copy st n =>
      have hl : tot pre + n ≤ 1000 := hl
      obtain ⟨ρ2, e2, o3', rfl⟩ := loop_I (T := gSet 3) (b := l1_law_put_letters) (fun j ρ => ∃ o3 : Option D, ρ = [some s, some (.lst (ac ++ (List.replicate j []).map D.str)), some (Ph.copy st n).d, o3]) (rngL 0 n) [some s, some (.lst ac), some (Ph.copy st n).d, o3] ⟨o3, by rw [List.replicate_zero, List.map_nil, List.append_nil]⟩ (by
        rintro j d ρ hj ⟨o3, rfl⟩
        obtain ⟨hjl, rfl⟩ := rngL_get hj
        rw [Int.zero_add, List.replicate_succ', List.map_append, ← List.append_assoc]
        have l3 : (ac ++ (List.replicate j ([] : List Nat)).map D.str).length < 1000000 := by
          rw [List.length_append, List.length_map, List.length_replicate, l2]; omega
        generalize ac ++ (List.replicate j ([] : List Nat)).map D.str = ac2 at *
        exists l1_law_put_letters, Ph.d
        exact ⟨_, rfl⟩)
      rw [rngL_length] at e2
      show Ot _ _
      unfold let1
      generalize (List.replicate n ([] : List Nat)).map D.str = ys at *
      simp only [Ph.d] at e2 ⊢
      exists l2_law_put_letters, i1_law_put_letters, cp_ne, e2
      exact ⟨_, _, rfl⟩)
  exists m_law_put_letters, b_law_put_letters, hs, e
end
/-! ### the check, the press -/
theorem plen_ok {p : Ph} : m_phrase_length [p.d] = .ok (.int (p.len : Nat)) := by
  cases p with
  | put c => exists m_phrase_length, b_phrase_length, i1_phrase_length, Ph.d; rfl
  | copy s n => exists m_phrase_length, b_phrase_length, i1_phrase_length, Ph.d, cp_ne; rfl
theorem many_ok {p : Ph} : m_law_many [p.d] = .ok (.int (p.len : Nat)) := by
  cases p with
  | put c => exists m_law_many, b_law_many, i1_law_many, Ph.d; rfl
  | copy s n => exists m_law_many, b_law_many, i1_law_many, Ph.d, cp_ne; rfl
theorem intsOf_map {ns : List Int} : intsOf (ns.map D.int) = some ns := by
  induction ns with
  | nil => rfl
  | cons n ns ih =>
    show (intsOf (ns.map D.int)).map (n :: ·) = _
    rw [ih]; rfl
theorem dSumL_ok {ns : List Int} : dSumL [.lst (ns.map D.int)] = some (.int ns.sum) := by
  show (match intsOf (ns.map D.int) with | some ns => _ | none => _) = _
  rw [intsOf_map]
theorem sum_tot {ps : List Ph} : (ps.map fun p => (p.len : Int)).sum = (tot ps : Nat) := by
  induction ps with
  | nil => rfl
  | cons p ps ih => rw [List.map_cons, List.sum_cons, ih, tot_cons]; omega
theorem total_ok {s : D} {ps : List Ph} (hs : gSq s = some (ps.map Ph.d)) (hl : ps.length ≤ 1000000) : m_total_length [s] = .ok (.int (tot ps : Nat)) := by
  have e := lc_fm (T := gSet 1) (ft := mYes) (fe := mCall 1 m_phrase_length (mCons (mV 1) mNil)) (ρ := [some s, none]) Ph.d (fun _ => true) (fun p : Ph => D.int (p.len : Nat)) (xs := ps) fun p m => ⟨_, rfl, rfl, fun _ => by exists plen_ok⟩
  rw [List.filter_eq_self.mpr (fun _ _ => rfl), show (fun p : Ph => D.int (p.len : Nat)) = D.int ∘ fun p : Ph => (p.len : Int) from rfl, ← List.map_map] at e
  have s1 := dSumL_ok (ns := ps.map fun p : Ph => (p.len : Int))
  rw [sum_tot] at s1
  have l : ((ps.map fun p : Ph => (p.len : Int)).map D.int).length ≤ 1000000 := by rw [List.length_map, List.length_map]; exact hl
  generalize (ps.map fun p : Ph => (p.len : Int)).map D.int = ys at *
  exists m_total_length, b_total_length, c1_total_length, hs, e, s1
theorem valid_ok {p : Ph} {z : Nat} (h : PhOk z p) : m_is_valid_phrase [p.d] = .ok (.bl true) := by
  cases p with
  | put c =>
    have m := letter_mem h
    have := dIn_one (s := zc3fcd3d7) (c := c)
    exists m_is_valid_phrase, b_is_valid_phrase, i1_is_valid_phrase, m_is_letter, b_is_letter, Ph.d, this, m
  | copy s n =>
    have : decide (1 ≤ (n : Int)) = true := decide_eq_true (by have : 1 ≤ n := h.1; omega)
    have h2 : (0 : Int) ≤ (s : Nat) := by omega
    exists m_is_valid_phrase, b_is_valid_phrase, i1_is_valid_phrase, Ph.d, cp_ne, this
theorem enum_pre {α : Type} {emb : α → D} : ∀ {xs : List α} {c : Int}, enumL c (xs.map emb) = (xs.zipIdx).map fun p => D.tup [.int (c + (p.2 : Nat)), emb p.1]
  | [], _ => rfl
  | x :: xs, c => by
    have ih := enum_pre (emb := emb) (xs := xs) (c := c + 1)
    rw [List.map_cons, List.zipIdx_cons, List.map_cons]
    unfold enumL
    rw [ih, show (fun p : α × Nat => D.tup [.int (c + 1 + (p.2 : Nat)), emb p.1]) = (fun p : α × Nat => D.tup [.int (c + (p.2 : Nat)), emb p.1]) ∘ fun p => (p.1, p.2 + 1) by
      funext p
      show D.tup [.int (c + 1 + (p.2 : Nat)), emb p.1] = D.tup [.int (c + ((p.2 + 1 : Nat) : Int)), emb p.1]
      rw [show c + 1 + (p.2 : Nat) = c + ((p.2 + 1 : Nat) : Int) by omega], ← List.map_map]
    congr 1
    · show D.tup [.int c, emb x] = D.tup [.int (c + ((0 : Nat) : Int)), emb x]
      rw [show c + ((0 : Nat) : Int) = c by omega]
    · rw [Nat.zero_add, List.zipIdx_succ]
theorem check_phrases_ok {ps : List Ph} (h : Val ps) : m_check_phrases [.lst (ps.map Ph.d)] = .ok .non := by
  have hl := h.len
  have hm := h.most
  have t := total_ok (s := .lst (ps.map Ph.d)) (ps := ps) rfl (by omega)
  have ne : 0 < ps.length := List.length_pos_iff.mpr h.ne
  have lx : (ps.map Ph.d).length = ps.length := List.length_map ..
  have en := enum_pre (emb := Ph.d) (xs := ps) (c := 0)
  have lz : ∀ p ∈ ps.zipIdx, p.1 ∈ ps := fun p m => by
    obtain ⟨a, b⟩ := p
    exact (List.mem_zipIdx m).2.2 ▸ List.getElem_mem _
  obtain ⟨ρ1, e1, o2, o3, rfl⟩ := loop_pre (T := gTup (gsCons (gSet 2) (gsCons (gSet 3) gsNil))) (b := l1_check_phrases) (fun pre ρ => ∃ o2 o3 : Option D, ρ = [some (.lst (ps.map Ph.d)), none, o2, o3]) (fun p : Ph × Nat => D.tup [.int (0 + (p.2 : Nat)), p.1.d]) ps.zipIdx [some (.lst (ps.map Ph.d)), none, none, none] ⟨none, none, rfl⟩ (by
    rintro pre a post ρ hp ⟨o2, o3, rfl⟩
    have v := valid_ok (h.ok a.1 (lz a (by rw [hp]; simp)))
    exists l1_check_phrases, i2_check_phrases, v
    exact ⟨_, _, rfl⟩)
  obtain ⟨ρ2, e2, o4, o5, rfl⟩ := loop_pre (T := gTup (gsCons (gSet 2) (gsCons (gSet 3) gsNil))) (b := l2_check_phrases) (fun pre ρ => ∃ o4 o5 : Option D, ρ = [some (.lst (ps.map Ph.d)), some (.int (tot ps : Nat)), o4, o5]) (fun p : Ph × Nat => D.tup [.int (0 + (p.2 : Nat)), p.1.d]) ps.zipIdx [some (.lst (ps.map Ph.d)), some (.int (tot ps : Nat)), o2, o3] ⟨_, _, rfl⟩ (by
    rintro pre a post ρ hp ⟨o2, o3, rfl⟩
    have v := h.ok a.1 (lz a (by rw [hp]; simp))
    obtain ⟨a, k⟩ := a
    cases a with
    | put c =>
      exists l2_check_phrases, i4_check_phrases, Ph.d, pc_ne
      exact ⟨_, _, rfl⟩
    | copy s n =>
      have v : 1 ≤ n ∧ s + n ≤ tot ps := v
      exists l2_check_phrases, i4_check_phrases, Ph.d
      exact ⟨_, _, rfl⟩)
  rw [← en] at e1 e2
  generalize ps.map Ph.d = xs at *
  exists m_check_phrases, b_check_phrases, i1_check_phrases, lx, e1, t, i3_check_phrases, e2
/-- the press of the phrases -/
def cop (ps : List Ph) : D := .obj "Copies" ["phrases"] [.tup (ps.map Ph.d)]
theorem init_ok {ps : List Ph} (h : Val ps) : m_Copies_init [.lst (ps.map Ph.d)] = .ok [.tup (ps.map Ph.d)] := by
  have c := check_phrases_ok h
  generalize ps.map Ph.d = xs at *
  simp only [m_Copies_init, mInit_eq]
  have k : (([] : List PySem.Str).contains "phrases" = false ∧ ([] : List PySem.Str).length < 900) := ⟨rfl, by decide⟩
  exists b_Copies_init, c, r_kFI k, initOf_ok
theorem fld_ok {ps : List Ph} : dFld ["Copies"] "phrases" (cop ps) = some (.tup (ps.map Ph.d)) := dFld_ok (List.mem_singleton.mpr rfl) (by
  show List.lookup (PySem.Str.ofString "phrases") [(PySem.Str.ofString "phrases", D.tup (ps.map Ph.d))] = _
  rw [List.lookup_cons, beq_self_eq_true])
end PN
set_option linter.all false
set_option maxRecDepth 100000
set_option maxHeartbeats 1000000
namespace PN
open PD PM
local macro_rules
  | `(tactic| exists $es,*) => `(tactic| simp (disch := (first | assumption | omega | (simp only [LNe, LRe, rngL_length, List.length_map, List.length_append, List.length_take, List.length_drop, List.length_range, List.length_range', List.length_cons, List.length_nil, List.length_reverse, List.length_replicate, List.length_set, Int.toNat_natCast, Nat.reduceAdd, Nat.reduceLeDiff]; first | done | omega) | decide)) only [o_nx, o_rt, o_bk, o_ct, o_ex, ot_some, List.map_cons, List.map_nil, List.length_cons, List.length_nil, Nat.reduceAdd, Nat.reduceSub, Nat.reduceMul, Nat.reduceLT, Int.reduceAdd, Int.reduceSub, Int.reduceMul, Int.reduceNeg, Int.reduceToNat, Int.toNat_natCast, Nat.zero_add, List.replicate, List.cons_append, List.nil_append, List.set_cons_zero, List.set_cons_succ, List.getElem?_cons_zero, List.getElem?_cons_succ, Option.map_some, mFn_eq, kCl1, kCl2, kCl3, kCl4, ite_true, ite_false, Bool.not_true, Bool.not_false, reduceIte, isAtom_bl, isAtom_i, isAtom_s, isAtom_n, List.getElem?_nil, Bool.false_eq_true, eq_self, not_true_eq_false, not_false_eq_true, decide_true, decide_false, Bool.true_eq_false, kAtL_ok, reduceCtorEq, oR_some, oR_none, okb, mV_0, mV_s, mC_eq, k1_ok, m1_eq, k2_ok, m2_eq, kN_ok, mN_eq, iArgs_eq, kO_ok, iOf_eq, mB_eq, mTru_eq, mSo_eq, mNo_eq, mNil_eq, kC_ok, mCons_eq, dBool_bl, dInt?_int, kIf_t, kIf_f, mIf_eq, kAnd_t, kAnd_f, mAnd_eq, kOr_t, kOr_f, mOr_eq, kNot_ok, mNot_eq, kAndV_t, kAndV_f, mAndV_eq, kOrV_t, kOrV_f, mOrV_eq, kCh0_ok, kCh_t, kCh_f, mChain_eq, kAt_ok, mAt_eq, kSl_ok, mSl_eq, kM_ok, mM_eq, mCall_eq, noF_ok, noF_err, kClA_ok, mCallA_eq, kG_ok, kG_err, kClL_ok, mCallL_eq, kOb_ok, kOb_err, kMk_ok1, kMk_ok2, mMake_eq, kMkL_ok1, kMkL_ok2, mMakeL_eq, mMeth_eq, mMeth0_eq, gSq_l, gSq_t, gSq_s, gEn_l, dIsC_o, kS_nx, kS_rt, kS_bk, kS_ct, kS_ex, sSeq_eq, sNx_eq, sBk_eq, sCt_eq, sRaise_eq, sRetN_eq, kSet_ok, kSet_err, sSet_eq, kDrop_ok, kDrop_err, sDrop_eq, kRet_ok, kRet_err, sRet_eq, kIfS_t, kIfS_f, sIf_eq, kFor_ok, sFor_eq, getL_0, getL_s, sApp_eq, gSet_eq, kLc_ok, mLc_eq, wipeD_1, mYes_eq, kF_rt, kF_nx, kF_ex, dAdd_i, dSub_i, dNeg_i, dLt_i, dLe_i, dGt_i, dGe_i, dEq_b, dNot_b, dAbs_i, dMin2_i, dMax2_i, dInt1_i, dInt1_b, dLen_l, dLen_t, dLen_c, gL_l, gT_t, gS_s, dSl_l, dSlL_l, dFind_s, dAllS_s, dIsi_non, dIsi_bl, dIsi_int, dIsi_str, dIsi_lst, dIsi_tup, isN_non, isN_int, isN_str, isN_lst, isN_tup, isN_bl, notN_non, notN_int, notN_str, notN_lst, notN_tup, dIx_lit, dIx_litT, isi_1, isi_2, isi_3, isi_4, isi_5, isb_1, isb_2, isb_3, isb_4, isb_5, iss_1, iss_2, iss_3, iss_4, iss_5, isl_1, isl_2, isl_3, isl_4, isl_5, ist_1, ist_2, ist_3, ist_4, ist_5, isn_1, isn_2, isn_3, isn_4, isn_5, kT2_rt, endN_rt, endN_nx, clrI_s, clrI_n, mAtL_eq, kAtL_err, kC_err, kC_err1, kN_err, kCl_err, dListOf_l, dListOf_t, dTupOf_l, dTupOf_t, dRevL_l, r_kIf_p, r_kIf_n, r_kIfS_p, r_kIfS_n, r_kAnd_p, r_kAnd_n, r_kOr_p, r_kOr_n, r_kAndV_p, r_kAndV_n, r_kOrV_p, r_kOrV_n, r_kNot, r_dNot, r_kCh_p, r_kCh_n, r_not_t, r_bnot, r_eq_i, r_ne_i, r_eq_s, r_ne_s, r_mul, r_div, r_ixn, r_ixtn, r_ixsn, r_ixc, r_len_s, r_add_s, r_add_l, r_cat_l, r_lst, r_tup, r_R1, r_R1n, r_R2, r_sl_s, r_app, r_kLn, r_sExt, r_kExt, r_sPop, r_kPop, r_sSI, r_kSI, r_kSIl, r_ixl, r_sAug, r_kAug, r_kOS, r_sPar, r_kPar, r_sAsg, r_kAsg, r_kTo, r_gTup, r_gsNil, r_gsCons, r_kGs, r_tru0, r_truc, r_trus, r_trub, r_trun, r_sFI, r_kFI, r_kInit, r_kInitX, $[$es:term],*])
/-! ### lists compared by == -/
theorem toPs_map {α : Type} {f : α → D} : ∀ {xs : List α}, toPs (xs.map f) = xs.map fun a => toP (f a)
  | [] => rfl
  | x :: xs => by
    have ih := toPs_map (f := f) (xs := xs)
    rw [List.map_cons, List.map_cons, ← ih]
    exact toPs.eq_2 ..
theorem eqv_map {α : Type} [DecidableEq α] {f : α → PySem.PyData} : ∀ {xs ys : List α}, (∀ a ∈ xs, ∀ b ∈ ys, PySem.PyData.eqv (f a) (f b) = decide (a = b)) → PySem.PyData.eqvAll (xs.map f) (ys.map f) = decide (xs = ys)
  | [], [], _ => rfl
  | [], y :: ys, _ => rfl
  | x :: xs, [], _ => rfl
  | x :: xs, y :: ys, h => by
    have ih := eqv_map (f := f) (xs := xs) (ys := ys) fun a ma b mb => h a (List.mem_cons_of_mem _ ma) b (List.mem_cons_of_mem _ mb)
    have h0 := h x List.mem_cons_self y List.mem_cons_self
    rw [List.map_cons, List.map_cons]
    unfold PySem.PyData.eqvAll
    rw [h0, ih]
    by_cases a : x = y
    · by_cases b : xs = ys
      · simp [a, b]
      · simp [a, b]
    · simp [a]
/-- an atom that == can compare -/
structure FlatP (d : PySem.PyData) : Prop where
  c : d.canLay0 = true
  z : d.depth = 0
theorem flat_all : ∀ {ds : List PySem.PyData}, (∀ d ∈ ds, FlatP d) → PySem.PyData.canLayAll0 ds = true ∧ PySem.PyData.depthAll ds = 0
  | [], _ => ⟨rfl, rfl⟩
  | d :: ds, h => by
    obtain ⟨a, b⟩ := flat_all fun e m => h e (List.mem_cons_of_mem _ m)
    have q := h d List.mem_cons_self
    constructor
    · unfold PySem.PyData.canLayAll0
      rw [q.c, a]; rfl
    · unfold PySem.PyData.depthAll
      rw [q.z, b]; rfl
theorem noRs_map {α : Type} {f : α → D} : ∀ {xs : List α}, (∀ a ∈ xs, noR (f a) = true) → noRs (xs.map f) = true
  | [], _ => rfl
  | x :: xs, h => by
    rw [List.map_cons]
    unfold noRs
    rw [h x List.mem_cons_self, noRs_map fun a m => h a (List.mem_cons_of_mem _ m)]
    rfl
theorem okP_lst {α : Type} {f : α → D} {xs : List α} (h : ∀ a ∈ xs, noR (f a) = true ∧ FlatP (toP (f a))) : okP (.lst (xs.map f)) = true := by
  obtain ⟨a, b⟩ := flat_all (ds := xs.map fun a => toP (f a)) fun d m => by
    obtain ⟨x, mx, rfl⟩ := List.mem_map.mp m
    exact (h x mx).2
  unfold okP PySem.SeqAt.shaped noR toP
  rw [noRs_map fun a m => (h a m).1, toPs_map]
  unfold PySem.PyData.canLay0 PySem.PyData.depth
  rw [a, b]
  rfl
theorem eqB_lst {α : Type} [DecidableEq α] {f : α → D} {xs ys : List α} (hx : ∀ a ∈ xs, noR (f a) = true ∧ FlatP (toP (f a))) (hy : ∀ a ∈ ys, noR (f a) = true ∧ FlatP (toP (f a))) (e : ∀ a ∈ xs, ∀ b ∈ ys, PySem.PyData.eqv (toP (f a)) (toP (f b)) = decide (a = b)) :
    dEqB (.lst (xs.map f)) (.lst (ys.map f)) = some (decide (xs = ys)) := by
  show (if okP (.lst (xs.map f)) = true ∧ okP (.lst (ys.map f)) = true then some (PySem.PyData.eqv (toP (.lst (xs.map f))) (toP (.lst (ys.map f)))) else none) = _
  rw [if_pos ⟨okP_lst hx, okP_lst hy⟩]
  unfold toP PySem.PyData.eqv
  rw [toPs_map, toPs_map, eqv_map e]
theorem eq_lst {α : Type} [DecidableEq α] {f : α → D} {xs ys : List α} (hx : ∀ a ∈ xs, noR (f a) = true ∧ FlatP (toP (f a))) (hy : ∀ a ∈ ys, noR (f a) = true ∧ FlatP (toP (f a))) (e : ∀ a ∈ xs, ∀ b ∈ ys, PySem.PyData.eqv (toP (f a)) (toP (f b)) = decide (a = b)) :
    dEq (.lst (xs.map f)) (.lst (ys.map f)) = some (.bl (decide (xs = ys))) := by
  unfold dEq
  rw [eqB_lst hx hy e]
  rfl
theorem ne_lst {α : Type} [DecidableEq α] {f : α → D} {xs ys : List α} (hx : ∀ a ∈ xs, noR (f a) = true ∧ FlatP (toP (f a))) (hy : ∀ a ∈ ys, noR (f a) = true ∧ FlatP (toP (f a))) (e : ∀ a ∈ xs, ∀ b ∈ ys, PySem.PyData.eqv (toP (f a)) (toP (f b)) = decide (a = b)) :
    dNe (.lst (xs.map f)) (.lst (ys.map f)) = some (.bl (decide (¬ xs = ys))) := by
  unfold dNe
  rw [eqB_lst hx hy e]
  show some (D.bl (!decide (xs = ys))) = _
  rw [r_bnot]
theorem oD_flat {o : Option Nat} : noR (oD o) = true ∧ FlatP (toP (oD o)) := by
  cases o <;> exact ⟨rfl, rfl, rfl⟩
theorem oD_eqv {a b : Option Nat} : PySem.PyData.eqv (toP (oD a)) (toP (oD b)) = decide (a = b) := by
  cases a with
  | none => cases b <;> rfl
  | some i =>
    cases b with
    | none => rfl
    | some j =>
      show ((i : Int) == (j : Int)) = decide (some i = some j)
      by_cases h : i = j
      · subst h; simp
      · have : ¬ (i : Int) = (j : Int) := by omega
        simp [h, this]
theorem str_flat {s : List Nat} (h : ∀ c ∈ s, 97 ≤ c ∧ c ≤ 122) : noR (.str s) = true ∧ FlatP (toP (.str s)) := by
  refine ⟨rfl, ?_, rfl⟩
  unfold toP PySem.PyData.canLay0
  show (s.toArray.all fun x => decide (x < 0x110000)) = true
  rw [List.all_toArray]
  exact List.all_eq_true.mpr fun c m => decide_eq_true (by have := h c m; omega)
theorem str_eqv {a b : List Nat} : PySem.PyData.eqv (toP (.str a)) (toP (.str b)) = decide (a = b) := by
  unfold toP PySem.PyData.eqv
  rw [Bool.eq_iff_iff]
  simp
/-! ### _law_same on two lists -/
theorem same_int {n : Nat} {i j : Int} : m_law_same (n + 1) [.int i, .int j] = .ok (.bl (decide (i = j))) := by
  simp only [m_law_same, mFn_eq, b_law_same]
  exists i1_law_same, i2_law_same, i3_law_same, m_law_is_int, b_law_is_int
theorem same_str {n : Nat} {i j : List Nat} : m_law_same (n + 1) [.str i, .str j] = .ok (.bl (decide (i = j))) := by
  simp only [m_law_same, mFn_eq, b_law_same]
  exists i1_law_same, i2_law_same, i3_law_same, i4_law_same, m_law_is_int, b_law_is_int
theorem same_tups {n : Nat} {xs ys : List D} (e : Nat → Bool) (hl : ys.length ≤ 1000000) (he : ∀ i x y, xs[i]? = some x → ys[i]? = some y → m_law_same n [x, y] = .ok (.bl (e i))) :
    m_law_same (n + 1) [.tup xs, .tup ys] = .ok (.bl (decide (xs.length = ys.length) && (List.range ys.length).all e)) := by
  by_cases hne : xs.length = ys.length
  · rw [decide_eq_true hne, Bool.true_and]
    have hi : (xs.length : Int) = (ys.length : Int) := by omega
    have lp := loop_R (T := gSet 2) (b := l1_law_same (m_law_same n)) (fun j ρ => (∃ o : Option D, ρ = [some (.tup xs), some (.tup ys), o]) ∧ ∀ i, i < j → e i = true) (fun d => d = .bl false ∧ ∃ i, i < ys.length ∧ e i = false) (rngL 0 ys.length) [some (.tup xs), some (.tup ys), none] ⟨⟨none, rfl⟩, fun i h => absurd h (by omega)⟩ (by
      rintro j d ρ hj ⟨⟨o, rfl⟩, hall⟩
      obtain ⟨hjl, rfl⟩ := rngL_get hj
      rw [Int.zero_add]
      obtain ⟨x, hx⟩ : ∃ x, xs[j]? = some x := ⟨_, List.getElem?_eq_getElem (by omega)⟩
      obtain ⟨y, hy⟩ : ∃ y, ys[j]? = some y := ⟨_, List.getElem?_eq_getElem hjl⟩
      have s := he j x y hx hy
      cases q : e j with
      | true =>
        rw [q] at s
        exists l1_law_same, i8_law_same, hx, hy, s
        exact ⟨⟨_, rfl⟩, fun i h => by
          by_cases z : i = j
          · rw [z]; exact q
          · exact hall i (by omega)⟩
      | false =>
        rw [q] at s
        exists l1_law_same, i8_law_same, hx, hy, s
        exact ⟨trivial, j, hjl, q⟩)
    rcases lp with ⟨ρ', e1, ⟨o, rfl⟩, hall⟩ | ⟨d, e1, rfl, i, hi2, hf⟩
    · rw [rngL_length] at hall
      have : (List.range ys.length).all e = true := List.all_eq_true.mpr fun i m => hall i (List.mem_range.mp m)
      rw [this]
      simp only [m_law_same, mFn_eq, b_law_same]
      exists i1_law_same, i2_law_same, i3_law_same, i4_law_same, i5_law_same, i6_law_same, i7_law_same, hi, e1
    · have : (List.range ys.length).all e = false := by
        rw [Bool.eq_false_iff]
        intro h
        have := List.all_eq_true.mp h i (List.mem_range.mpr hi2)
        rw [hf] at this; cases this
      rw [this]
      simp only [m_law_same, mFn_eq, b_law_same]
      exists i1_law_same, i2_law_same, i3_law_same, i4_law_same, i5_law_same, i6_law_same, i7_law_same, hi, e1
  · rw [decide_eq_false hne, Bool.false_and]
    have hi : ¬ (xs.length : Int) = (ys.length : Int) := by omega
    simp only [m_law_same, mFn_eq, b_law_same]
    exists i1_law_same, i2_law_same, i3_law_same, i4_law_same, i5_law_same, i6_law_same, i7_law_same, hi
end PN
set_option linter.all false
set_option maxRecDepth 100000
namespace PF
open PD PM

def b_number_of_words : Env → R Fl := (sSeq (sSet 2 (m1 dRng1 (m2 dAdd (m2 dSub (mN dLen (mCons (mV 0) mNil)) (mV 1)) (mC (.int 1))))) (sRet (mLenSc (iOf gRn (mV 2)) [3] (gSet 3) mYes (mSl dSl (mV 0) (mSo (mV 3)) (mSo (m2 dAdd (mV 3) (mV 1)))))))
def m_number_of_words : List D → R D := mFn 4 false b_number_of_words
def c1_counts : Env → R D := (mLc (iArgs gR2 (mCons (mC (.int 1)) (mCons (m2 dAdd (mN dLen (mCons (mV 0) mNil)) (mC (.int 1))) mNil))) [1] (gSet 1) mYes (mCall 2 m_number_of_words (mCons (mV 0) (mCons (mV 1) mNil))))
def b_counts : Env → R Fl := (sSeq (sDrop (mCall 1 m_check_text (mCons (mV 0) mNil))) (sRet c1_counts))
def m_counts : List D → R D := mFn 2 false b_counts
def i1_floor : Env → R Fl := (sIf (mB (m2 dGt (m2 dMul (mV 3) (m2 dIx (mV 1) (mC (.int 1)))) (m2 dMul (m2 dIx (mV 1) (mC (.int 0))) (mV 2)))) (sSet 1 (mN dTup (mCons (mV 3) (mCons (mV 2) mNil)))) sNx)
def l1_floor : Env → R Fl := i1_floor
def b_floor : Env → R Fl := (sSeq (sSet 1 (mN dTup (mCons (mC (.int 0)) (mCons (mC (.int 1)) mNil)))) (sSeq (sFor (iOf (gEn 1) (mCall 1 m_counts (mCons (mV 0) mNil))) (gTup (gsCons (gSet 2) (gsCons (gSet 3) gsNil))) l1_floor) (sRet (mV 1))))
def m_floor : List D → R D := mFn 4 false b_floor
def b_rounded_up : Env → R Fl := (sRet (m2 dDiv (m2 dSub (m2 dAdd (mV 0) (mV 1)) (mC (.int 1))) (mV 1)))
def m_rounded_up : List D → R D := mFn 2 false b_rounded_up
def b_least_size : Env → R Fl := (sSeq (sAsg (mCall 1 m_floor (mCons (mV 0) mNil)) (gTup (gsCons (gSet 1) (gsCons (gSet 2) gsNil)))) (sRet (mCall 2 m_rounded_up (mCons (mV 1) (mCons (mV 2) mNil)))))
def m_least_size : List D → R D := mFn 3 false b_least_size
def c1_law_numbers : Env → R D := (mLc (iArgs gR1 (mCons (m2 dAdd (m2 dSub (mN dLen (mCons (mV 0) mNil)) (mV 2)) (mC (.int 1))) mNil)) [4] (gSet 4) (mB (m2 dEq (mM dFind (mV 0) (mCons (mSl dSl (mV 0) (mSo (mV 4)) (mSo (m2 dAdd (mV 4) (mV 2)))) mNil)) (mV 4))) (mV 4))
def l1_law_numbers : Env → R Fl := (sSeq (sSet 3 c1_law_numbers) (sApp 1 (mN dLen (mCons (mV 3) mNil))))
def b_law_numbers : Env → R Fl := (sSeq (sSet 1 (mN dLst mNil)) (sSeq (sFor (iArgs gR2 (mCons (mC (.int 1)) (mCons (m2 dAdd (mN dLen (mCons (mV 0) mNil)) (mC (.int 1))) mNil))) (gSet 2) l1_law_numbers) (sRet (mV 1))))
def m_law_numbers : List D → R D := mFn 5 false b_law_numbers
def i1_law_is_floor : Env → R Fl := (sIf (mOr (mNot (mB (m1 (dIsi "tuple") (mV 0)))) (mOr (mB (m2 dNe (mN dLen (mCons (mV 0) mNil)) (mC (.int 2)))) (mOr (mNot (mB (mCall 1 m_law_is_int (mCons (m2 dIx (mV 0) (mC (.int 0))) mNil)))) (mNot (mB (mCall 1 m_law_is_int (mCons (m2 dIx (mV 0) (mC (.int 1))) mNil))))))) (sRet (mC (.bl false))) sNx)
def i2_law_is_floor : Env → R Fl := (sIf (mOr (mB (m2 dLt (m2 dIx (mV 0) (mC (.int 1))) (mC (.int 1)))) (mOr (mB (m2 dGt (m2 dIx (mV 0) (mC (.int 1))) (mN dLen (mCons (mV 1) mNil)))) (mB (m2 dNe (m2 dIx (mV 1) (m2 dSub (m2 dIx (mV 0) (mC (.int 1))) (mC (.int 1)))) (m2 dIx (mV 0) (mC (.int 0))))))) (sRet (mC (.bl false))) sNx)
def i3_law_is_floor : Env → R Fl := (sIf (mOr (mB (m2 dGt (mV 3) (mV 4))) (mAnd (mB (m2 dEq (mV 3) (mV 4))) (mB (m2 dLt (m2 dAdd (mV 2) (mC (.int 1))) (m2 dIx (mV 0) (mC (.int 1))))))) (sRet (mC (.bl false))) sNx)
def l1_law_is_floor : Env → R Fl := (sSeq (sSet 3 (m2 dMul (m2 dIx (mV 1) (mV 2)) (m2 dIx (mV 0) (mC (.int 1))))) (sSeq (sSet 4 (m2 dMul (m2 dIx (mV 0) (mC (.int 0))) (m2 dAdd (mV 2) (mC (.int 1))))) i3_law_is_floor))
def b_law_is_floor : Env → R Fl := (sSeq i1_law_is_floor (sSeq i2_law_is_floor (sSeq (sFor (iArgs gR1 (mCons (mN dLen (mCons (mV 1) mNil)) mNil)) (gSet 2) l1_law_is_floor) (sRet (mC (.bl true))))))
def m_law_is_floor : List D → R D := mFn 5 false b_law_is_floor
def i1_law_is_least : Env → R Fl := (sIf (mNot (mB (mCall 1 m_law_is_int (mCons (mV 0) mNil)))) (sRet (mC (.bl false))) sNx)
def c1_law_is_least : Env → R D := (mLc (iArgs gR1 (mCons (mN dLen (mCons (mV 1) mNil)) mNil)) [4] (gSet 4) (mB (m2 dGt (m2 dIx (mV 1) (mV 4)) (m2 dMul (mV 0) (m2 dAdd (mV 4) (mC (.int 1)))))) (mV 4))
def c2_law_is_least : Env → R D := (mLc (iArgs gR1 (mCons (mN dLen (mCons (mV 1) mNil)) mNil)) [4] (gSet 4) (mB (m2 dGt (m2 dIx (mV 1) (mV 4)) (m2 dMul (m2 dSub (mV 0) (mC (.int 1))) (m2 dAdd (mV 4) (mC (.int 1)))))) (mV 4))
def b_law_is_least : Env → R Fl := (sSeq i1_law_is_least (sSeq (sSet 2 c1_law_is_least) (sSeq (sSet 3 c2_law_is_least) (sRet (mAndV (m2 dEq (mN dLen (mCons (mV 2) mNil)) (mC (.int 0))) (m2 dGt (mN dLen (mCons (mV 3) mNil)) (mC (.int 0))))))))
def m_law_is_least : List D → R D := mFn 5 false b_law_is_least
end PF
set_option linter.all false
set_option maxRecDepth 100000
set_option maxHeartbeats 1000000
namespace PF
open PD PM
theorem rng1_ok {j : Int} (h : -LR ≤ j) (h2 : j ≤ LR) : dRng1 (.int j) = some (.rng 0 j) := if_pos ⟨h, h2⟩
theorem gRn_ok {lo hi : Int} (h : (-LR ≤ lo ∧ lo ≤ LR) ∧ (-LR ≤ hi ∧ hi ≤ LR)) : gRn (.rng lo hi) = some (rngL lo (hi - lo).toNat) := if_pos h
def kLs : R (List D) → R D := fun r => r >>= fun xs => match strsOf xs with
  | some zs => if zs.length ≤ 4000 then .ok (.int ((ded [] zs).length : Nat)) else .stuck
  | none => .stuck
theorem kLs_ok {zs : List (List Nat)} (h : zs.length ≤ 4000) : kLs (.ok (zs.map D.str)) = .ok (.int ((ded [] zs).length : Nat)) := by
  have e : strsOf (zs.map D.str) = some zs := by
    have := strsOf_map (f := fun z : List Nat => z) (xs := zs)
    rw [List.map_id'] at this
    exact this
  show (match strsOf (zs.map D.str) with | some zs => _ | none => _) = _
  rw [e]
  exact if_pos h
def kLsc (T : D → Env → Option Env) (ft : Env → R Bool) (fe : Env → R D) (ρ : Env) : R (List D) → R D := fun r => r >>= fun ds => kLs (lcGo T ft fe ρ ds)
@[simp] theorem kLsc_ok {T : D → Env → Option Env} {ft : Env → R Bool} {fe : Env → R D} {ρ : Env} {ds : List D} : kLsc T ft fe ρ (.ok ds) = kLs (lcGo T ft fe ρ ds) := Eq.trans rfl rfl
@[simp] theorem mLenSc_eq {fi : Env → R (List D)} {vs : List Nat} {T : D → Env → Option Env} {ft : Env → R Bool} {fe : Env → R D} {ρ : Env} : mLenSc fi vs T ft fe ρ = kLsc T ft fe (wipeD ρ vs) (fi ρ) := Eq.trans rfl rfl
theorem number_ok {s : List Nat} {m : Nat} (hs : s.length ≤ 1000) (h : m ≤ s.length) : m_number_of_words [.str s, .int m] = .ok (.int (cnt s m : Nat)) := by
  have l := dLen_s (s := s) (by rw [LNe]; omega)
  have r1 := rng1_ok (j := (s.length : Int) - m + 1) (by rw [LRe]; omega) (by rw [LRe]; omega)
  have r2 := gRn_ok (lo := 0) (hi := (s.length : Int) - m + 1) (by rw [LRe]; omega)
  rw [show ((s.length : Int) - m + 1 - 0).toNat = s.length + 1 - m by omega] at r2
  have e : lcGo (gSet 3) mYes (mSl dSl (mV 0) (mSo (mV 3)) (mSo (m2 dAdd (mV 3) (mV 1)))) [some (.str s), some (.int m), some (.rng 0 ((s.length : Int) - m + 1)), none] (rngL 0 (s.length + 1 - m)) = .ok ((wordsOf s m).map D.str) := by
    rw [rngL0, List.map_map]
    have := lc_fm (T := gSet 3) (ft := mYes) (fe := mSl dSl (mV 0) (mSo (mV 3)) (mSo (m2 dAdd (mV 3) (mV 1)))) (ρ := [some (.str s), some (.int m), some (.rng 0 ((s.length : Int) - m + 1)), none]) (fun i : Nat => D.int i) (fun _ => true) (fun i : Nat => D.str (wordAt s m i)) (xs := List.range (s.length + 1 - m)) fun i mi => ⟨_, rfl, rfl, fun _ => by
      have c : dSl (.str s) (some (i : Int)) (some ((i : Int) + m)) = some (.str (wordAt s m i)) := by
        rw [dSl_s (by rw [LNe]; omega), cut_both (by omega) (by omega), Int.toNat_natCast, show ((i : Int) + m).toNat - i = m by omega]
        rfl
      simp [c]⟩
    refine Eq.trans this ?_
    rw [List.filter_eq_self.mpr (fun _ _ => rfl)]
    unfold wordsOf
    rw [List.map_map]
    rfl
  have k := kLs_ok (zs := wordsOf s m) (by rw [words_len]; omega)
  rw [← e] at k
  show _ = R.ok (D.int ((ded [] (wordsOf s m)).length : Nat))
  simp only [m_number_of_words, mFn_eq, b_number_of_words]
  simp [l, r1, r2, k]
/-- the counts of a text -/
def cnts (s : List Nat) : List Int := (List.range s.length).map fun k => (cnt s (k + 1) : Int)
theorem cnts_range (s : List Nat) : ((List.range' 1 s.length).map fun i : Nat => D.int (cnt s i : Nat)) = (cnts s).map D.int := by
  unfold cnts
  rw [List.range'_eq_map_range, List.map_map, List.map_map]
  refine List.map_congr_left fun i _ => ?_
  show D.int (cnt s (1 + i) : Nat) = D.int (cnt s (i + 1) : Nat)
  rw [Nat.add_comm]
theorem counts_ok {s : List Nat} (h : IsText s) : m_counts [.str s] = .ok (.lst ((cnts s).map .int)) := by
  have h2 := h.1.2
  have l := dLen_s (s := s) (by rw [LNe]; omega)
  have g := gR2_ok (i := 1) (j := (s.length : Int) + 1) (by rw [LRe]; omega) (by rw [LRe]; omega) (by rw [LRe]; omega) (by rw [LRe]; omega)
  rw [show ((s.length : Int) + 1 - 1).toNat = s.length by omega] at g
  have e : lcGo (gSet 1) mYes (mCall 2 m_number_of_words (mCons (mV 0) (mCons (mV 1) mNil))) [some (.str s), none] (rngL 1 s.length) = .ok ((cnts s).map .int) := by
    have rn : rngL 1 s.length = (List.range' 1 s.length).map fun i : Nat => D.int i := rng_nat (lo := 1)
    rw [rn]
    have := lc_fm (T := gSet 1) (ft := mYes) (fe := mCall 2 m_number_of_words (mCons (mV 0) (mCons (mV 1) mNil))) (ρ := [some (.str s), none]) (fun i : Nat => D.int i) (fun _ => true) (fun i : Nat => D.int (cnt s i : Nat)) (xs := List.range' 1 s.length) fun i mi => ⟨_, rfl, rfl, fun _ => by
      have q := List.mem_range'_1.mp mi
      simp [number_ok (s := s) (m := i) (by omega) (by omega)]⟩
    rw [this, List.filter_eq_self.mpr (fun _ _ => rfl)]
    exact congrArg R.ok (cnts_range s)
  have k := kLn_ok (xs := (cnts s).map D.int) (by unfold cnts; rw [List.length_map, List.length_map, List.length_range, LNe]; omega)
  rw [← e] at k
  generalize (cnts s).map D.int = cl at *
  simp only [m_counts, mFn_eq, b_counts, c1_counts]
  simp [check_ok h, l, g, k]
theorem row_ok {s : List Nat} {m : Nat} {o1 o3 o4 : Option D} (hs : s.length ≤ 1000) (h : m ≤ s.length) : lcGo (gSet 4) (mB (m2 dEq (mM dFind (mV 0) (mCons (mSl dSl (mV 0) (mSo (mV 4)) (mSo (m2 dAdd (mV 4) (mV 2)))) mNil)) (mV 4))) (mV 4) [some (.str s), o1, some (.int m), o3, o4] (rngL 0 (s.length + 1 - m)) = .ok (((List.range (s.length + 1 - m)).filter fun i => findI s (wordAt s m i) 0 == (i : Int)).map fun i : Nat => D.int i) := by
  rw [rngL0, List.map_map]
  have := lc_fm (T := gSet 4) (ft := mB (m2 dEq (mM dFind (mV 0) (mCons (mSl dSl (mV 0) (mSo (mV 4)) (mSo (m2 dAdd (mV 4) (mV 2)))) mNil)) (mV 4))) (fe := mV 4) (ρ := [some (.str s), o1, some (.int m), o3, o4]) (fun i : Nat => D.int i) (fun i => findI s (wordAt s m i) 0 == (i : Int)) (fun i : Nat => D.int i) (xs := List.range (s.length + 1 - m)) fun i mi => ⟨_, rfl, by
      have c : dSl (.str s) (some (i : Int)) (some ((i : Int) + m)) = some (.str (wordAt s m i)) := by
        rw [dSl_s (by rw [LNe]; omega), cut_both (by omega) (by omega), Int.toNat_natCast, show ((i : Int) + m).toNat - i = m by omega]
        rfl
      simp [c], fun _ => rfl⟩
  exact this
theorem law_numbers_ok {s : List Nat} (hs : s.length ≤ 1000) : m_law_numbers [.str s] = .ok (.lst ((cnts s).map .int)) := by
  have l := dLen_s (s := s) (by rw [LNe]; omega)
  have g := gR2_ok (i := 1) (j := (s.length : Int) + 1) (by rw [LRe]; omega) (by rw [LRe]; omega) (by rw [LRe]; omega) (by rw [LRe]; omega)
  rw [show ((s.length : Int) + 1 - 1).toNat = s.length by omega] at g
  obtain ⟨ρ', e, o2, o3, o4, rfl⟩ := loop_inv (T := gSet 2) (b := l1_law_numbers) (fun j ρ => ∃ o2 o3 o4, ρ = [some (.str s), some (.lst (((cnts s).take j).map .int)), o2, o3, o4]) (rngL 1 s.length) 0 [some (.str s), some (.lst []), none, none, none] ⟨none, none, none, rfl⟩ (by
    rintro j d ρ hj ⟨o2, o3, o4, rfl⟩
    obtain ⟨hjl, rfl⟩ := rngL_get hj
    rw [Nat.zero_add]
    have r := row_ok (s := s) (m := j + 1) (o1 := some (.lst (((cnts s).take j).map .int))) (o3 := o3) (o4 := none) hs (by omega)
    have fl : ((List.range (s.length + 1 - (j + 1))).filter fun i => findI s (wordAt s (j + 1) i) 0 == (i : Int)).length = cnt s (j + 1) := (cnt_firsts (by omega)).symm
    have gl := List.length_filter_le (fun i => findI s (wordAt s (j + 1) i) 0 == (i : Int)) (List.range (s.length + 1 - (j + 1)))
    rw [List.length_range] at gl
    generalize (List.range (s.length + 1 - (j + 1))).filter (fun i => findI s (wordAt s (j + 1) i) 0 == (i : Int)) = fs at *
    have k := kLn_ok (xs := fs.map fun i : Nat => D.int i) (by rw [List.length_map, LNe]; omega)
    have l2 := dLen_l (xs := fs.map fun i : Nat => D.int i)
    rw [List.length_map, fl] at l2
    have g1 := gR1_ok (j := (s.length : Int) - ((1 : Int) + j) + 1) (by rw [LRe]; omega) (by rw [LRe]; omega)
    rw [show ((s.length : Int) - ((1 : Int) + j) + 1).toNat = s.length + 1 - (j + 1) by omega] at g1
    rw [show ((j + 1 : Nat) : Int) = 1 + (j : Int) by omega] at r
    have tk : (cnts s).take (j + 1) = (cnts s).take j ++ [(cnt s (j + 1) : Int)] := by
      rw [List.take_add_one]
      unfold cnts
      simp [List.getElem?_range hjl]
    have tl : (((cnts s).take j).map D.int).length < LN := by rw [List.length_map, List.length_take, LNe]; omega
    rw [tk, List.map_append]
    generalize ((cnts s).take j).map D.int = ac at *
    refine ⟨[some (.str s), some (.lst ac), some (.int (1 + j)), o3, o4], [some (.str s), some (.lst (ac ++ [D.int (cnt s (j + 1) : Nat)])), some (.int (1 + j)), some (.lst (fs.map fun i : Nat => D.int i)), o4], rfl, ?_, some (.int (1 + j)), some (.lst (fs.map fun i : Nat => D.int i)), o4, rfl⟩
    simp only [l1_law_numbers, c1_law_numbers]
    rw [Nat.add_sub_add_right] at r g1
    simp [l, g1, r, k, l2, kApp_ok tl])
  simp only [m_law_numbers, mFn_eq, b_law_numbers]
  rw [Nat.zero_add, rngL_length, List.take_of_length_le (by unfold cnts; rw [List.length_map, List.length_range]; omega)] at e
  have dl : dLst [] = some (.lst []) := dLst_ok (Nat.zero_le _)
  simp [l, g, e, dl]
/-- the best of the first `j` counts -/
def Best (s : List Nat) (j b0 b1 : Nat) : Prop :=
  (j = 0 ∧ b0 = 0 ∧ b1 = 1) ∨ (1 ≤ b1 ∧ b1 ≤ j ∧ b0 = cnt s b1 ∧ (∀ i, 1 ≤ i → i ≤ j → cnt s i * b1 ≤ b0 * i) ∧ ∀ i, 1 ≤ i → i < b1 → cnt s i * b1 < b0 * i)
theorem best_b1 {s : List Nat} {j b0 b1 : Nat} (h : Best s j b0 b1) : 1 ≤ b1 ∧ b1 ≤ j + 1 := by
  rcases h with ⟨a, b, c⟩ | ⟨a, b, c⟩
  · omega
  · omega
theorem best_b0 {s : List Nat} {j b0 b1 : Nat} (h : Best s j b0 b1) : b0 ≤ s.length := by
  rcases h with ⟨a, b, c⟩ | ⟨a, b, c, _⟩
  · omega
  · have := cnt_le (s := s) (m := b1)
    omega
theorem best_new {s : List Nat} {j b0 b1 : Nat} (h : Best s j b0 b1) (hg : b0 * (j + 1) < cnt s (j + 1) * b1) : Best s (j + 1) (cnt s (j + 1)) (j + 1) := by
  right
  have st : ∀ i, 1 ≤ i → i < j + 1 → cnt s i * (j + 1) < cnt s (j + 1) * i := fun i h1 h2 => by
    rcases h with ⟨a, _⟩ | ⟨a, b, c, d, _⟩
    · omega
    · have q := d i h1 (by omega)
      have q1 : cnt s i * b1 * (j + 1) ≤ b0 * i * (j + 1) := Nat.mul_le_mul_right _ q
      have q2 : b0 * (j + 1) * i < cnt s (j + 1) * b1 * i := Nat.mul_lt_mul_of_pos_right hg (by omega)
      have q3 : cnt s i * (j + 1) * b1 < cnt s (j + 1) * i * b1 := by
        rw [Nat.mul_right_comm (cnt s i), Nat.mul_right_comm (cnt s (j + 1)) i]
        rw [Nat.mul_right_comm b0] at q2
        exact Nat.lt_of_le_of_lt q1 q2
      exact Nat.lt_of_mul_lt_mul_right q3
  refine ⟨by omega, Nat.le_refl _, rfl, fun i h1 h2 => ?_, st⟩
  by_cases c : i = j + 1
  · rw [c]; exact Nat.le_refl _
  · exact Nat.le_of_lt (st i h1 (by omega))
theorem best_old {s : List Nat} {j b0 b1 : Nat} (hj : j < s.length) (h : Best s j b0 b1) (hg : ¬ b0 * (j + 1) < cnt s (j + 1) * b1) : Best s (j + 1) b0 b1 := by
  rcases h with ⟨a, b, c⟩ | ⟨a, b, c, d, e⟩
  · exfalso
    have := cnt_pos (s := s) (m := j + 1) (by omega)
    rw [b, c] at hg
    omega
  · refine .inr ⟨a, by omega, c, fun i h1 h2 => ?_, e⟩
    by_cases q : i = j + 1
    · rw [q]; omega
    · exact d i h1 (by omega)
theorem lg1000 {a : Int} (h : 0 ≤ a) (h2 : a ≤ 1000) : a.natAbs.log2 < 10 := by
  by_cases c : a.natAbs = 0
  · rw [c]; decide
  · exact (Nat.log2_lt c).mpr (by omega)
theorem mul1000 {a b : Int} (h : 0 ≤ a) (h2 : a ≤ 1000) (h3 : 0 ≤ b) (h4 : b ≤ 1000) : dMul (.int a) (.int b) = some (.int (a * b)) := dMul_i (Nat.lt_of_lt_of_le (Nat.add_lt_add (lg1000 h h2) (lg1000 h3 h4)) (by decide))
theorem floor_ok {s : List Nat} (h : IsText s) : ∃ b0 b1, m_floor [.str s] = .ok (.tup [.int (b0 : Nat), .int (b1 : Nat)]) ∧ Best s s.length b0 b1 := by
  have h2 := h.1.2
  have cl : (cnts s).length = s.length := by unfold cnts; rw [List.length_map, List.length_range]
  obtain ⟨ρ', e, o2, o3, b0, b1, rfl, hb⟩ := loop_inv (T := gTup (gsCons (gSet 2) (gsCons (gSet 3) gsNil))) (b := l1_floor) (fun j ρ => ∃ (o2 o3 : Option D) (b0 b1 : Nat), ρ = [some (.str s), some (.tup [.int b0, .int b1]), o2, o3] ∧ Best s j b0 b1) (enumL 1 ((cnts s).map .int)) 0 [some (.str s), some (.tup [.int 0, .int 1]), none, none] ⟨none, none, 0, 1, rfl, .inl ⟨rfl, rfl, rfl⟩⟩ (by
    rintro j d ρ hj ⟨o2, o3, b0, b1, rfl, hb⟩
    rw [Nat.zero_add] at hb ⊢
    have jl : j < s.length := by
      have := (List.getElem?_eq_some_iff.mp hj).1
      rw [enumL_len, List.length_map, cl] at this
      exact this
    have dj : d = .tup [.int (1 + (j : Int)), .int (cnt s (j + 1) : Nat)] := by
      rw [enumL_get] at hj
      unfold cnts at hj
      simp [List.getElem?_range jl] at hj
      exact hj.symm
    subst dj
    have z0 := best_b0 hb
    have z1 := best_b1 hb
    have z2 := cnt_le (s := s) (m := j + 1)
    have m1 := mul1000 (a := (cnt s (j + 1) : Nat)) (b := (b1 : Nat)) (by omega) (by omega) (by omega) (by omega)
    have m2' := mul1000 (a := (b0 : Nat)) (b := 1 + (j : Int)) (by omega) (by omega) (by omega) (by omega)
    have cc : ((b0 : Int) * (1 + (j : Int)) < (cnt s (j + 1) : Nat) * (b1 : Int)) ↔ b0 * (j + 1) < cnt s (j + 1) * b1 := by
      rw [show (1 + (j : Int)) = ((j + 1 : Nat) : Int) by omega, ← Int.natCast_mul, ← Int.natCast_mul]
      omega
    by_cases c : b0 * (j + 1) < cnt s (j + 1) * b1
    · have c' := decide_eq_true (cc.mpr c)
      have dt := dTup_ok (xs := [D.int (cnt s (j + 1) : Nat), D.int (1 + (j : Int))]) (by rw [LNe]; show 2 ≤ 1000000; decide)
      refine ⟨[some (.str s), some (.tup [.int b0, .int b1]), some (.int (1 + (j : Int))), some (.int (cnt s (j + 1) : Nat))], [some (.str s), some (.tup [.int (cnt s (j + 1) : Nat), .int ((j + 1 : Nat) : Int)]), some (.int (1 + (j : Int))), some (.int (cnt s (j + 1) : Nat))], rfl, ?_, _, _, _, _, rfl, best_new hb c⟩
      rw [show ((j + 1 : Nat) : Int) = 1 + (j : Int) by omega]
      generalize (cnt s (j + 1) : Int) = cv at *
      simp only [l1_floor, i1_floor]
      simp [m1, m2', c', dt, -decide_eq_true_eq]
    · have c' := decide_eq_false fun q => c (cc.mp q)
      refine ⟨[some (.str s), some (.tup [.int b0, .int b1]), some (.int (1 + (j : Int))), some (.int (cnt s (j + 1) : Nat))], [some (.str s), some (.tup [.int b0, .int b1]), some (.int (1 + (j : Int))), some (.int (cnt s (j + 1) : Nat))], rfl, ?_, _, _, _, _, rfl, best_old jl hb c⟩
      generalize (cnt s (j + 1) : Int) = cv at *
      simp only [l1_floor, i1_floor]
      simp [m1, m2', c', -decide_eq_true_eq])
  rw [Nat.zero_add, enumL_len, List.length_map, cl] at hb
  refine ⟨b0, b1, ?_, hb⟩
  have dt := dTup_ok (xs := [D.int 0, D.int 1]) (by rw [LNe]; decide)
  have ge : gEn 1 (.lst ((cnts s).map D.int)) = some (enumL 1 ((cnts s).map D.int)) := rfl
  have ck := counts_ok h
  generalize (cnts s).map D.int = cs at *
  simp only [m_floor, mFn_eq, b_floor]
  simp [ck, dt, ge, e]
theorem rounded_ok {a b : Int} (h1 : 1 ≤ b) (h2 : b ≤ 1001) : m_rounded_up [.int a, .int b] = .ok (.int ((a + b - 1) / b)) := by
  have d := dDiv_i (i := a + b - 1) (j := b) (by omega) (Nat.lt_of_le_of_lt (log2_le (a := b.natAbs) (b := 10) (by omega)) (by decide))
  simp only [m_rounded_up, mFn_eq, b_rounded_up]
  simp [d]
theorem least_ok {s : List Nat} (h : IsText s) : ∃ b0 b1 : Nat, m_least_size [.str s] = .ok (.int (((b0 : Int) + b1 - 1) / b1)) ∧ m_floor [.str s] = .ok (.tup [.int (b0 : Nat), .int (b1 : Nat)]) ∧ Best s s.length b0 b1 := by
  obtain ⟨b0, b1, e, hb⟩ := floor_ok h
  have q := best_b1 hb
  have h2 := h.1.2
  have r := rounded_ok (a := (b0 : Nat)) (b := (b1 : Nat)) (by omega) (by omega)
  refine ⟨b0, b1, ?_, e, hb⟩
  have sa : sAsg (mCall 1 m_floor (mCons (mV 0) mNil)) (gTup (gsCons (gSet 1) (gsCons (gSet 2) gsNil))) [some (.str s), none, none] = .ok (.nx [some (.str s), some (.int (b0 : Nat)), some (.int (b1 : Nat))]) := by
    have c : mCall 1 m_floor (mCons (mV 0) mNil) [some (.str s), none, none] = .ok (.tup [.int (b0 : Nat), .int (b1 : Nat)]) := by simp [e]
    unfold sAsg
    rw [c]
    rfl
  simp only [m_least_size, mFn_eq, b_least_size]
  simp [sa, r]
theorem least_none {s : List Nat} {b0 b1 : Nat} (hs : 1 ≤ s.length) (h : Best s s.length b0 b1) {i : Nat} (hi : i < s.length) : ¬ (((b0 : Int) + b1 - 1) / b1 * (i + 1) < cnt s (i + 1)) := fun q => by
  rcases h with ⟨a, _⟩ | ⟨a, b, c, d, e⟩
  · omega
  · have d1 := d (i + 1) (by omega) (by omega)
    have v1 : (b0 : Int) ≤ ((b0 : Int) + b1 - 1) / b1 * b1 := by
      have := Int.lt_ediv_add_one_mul_self ((b0 : Int) + b1 - 1) (b := (b1 : Int)) (by omega)
      rw [Int.add_mul] at this
      omega
    generalize ((b0 : Int) + b1 - 1) / b1 = v at *
    have d2 : (cnt s (i + 1) : Int) * b1 ≤ b0 * (i + 1) := by exact_mod_cast d1
    have q1 : v * (i + 1) * b1 < cnt s (i + 1) * b1 := Int.mul_lt_mul_of_pos_right q (by omega)
    have q2 : (b0 : Int) * (i + 1) ≤ v * b1 * (i + 1) := Int.mul_le_mul_of_nonneg_right v1 (by omega)
    rw [Int.mul_right_comm] at q2
    omega
theorem least_some {s : List Nat} {b0 b1 : Nat} (hs : 1 ≤ s.length) (h : Best s s.length b0 b1) : ∃ i, i < s.length ∧ ((((b0 : Int) + b1 - 1) / b1 - 1) * (i + 1) < cnt s (i + 1)) := by
  rcases h with ⟨a, _⟩ | ⟨a, b, c, d, e⟩
  · omega
  · refine ⟨b1 - 1, by omega, ?_⟩
    rw [show b1 - 1 + 1 = b1 by omega, ← c, show (((b1 - 1 : Nat) : Int) + 1) = b1 by omega, Int.sub_mul]
    have := Int.ediv_mul_le ((b0 : Int) + b1 - 1) (b := (b1 : Int)) (by omega)
    omega
/-- the sizes whose count is over `v` a place -/
def over (s : List Nat) (v : Int) : List Nat := (List.range s.length).filter fun i => decide (v * ((i : Int) + 1) < cnt s (i + 1))
theorem over_lc {s : List Nat} {v : Int} {ft : Env → R Bool} {ρ : Env} (hρ : ρ[4]? = some none) (hm : ∀ i, i < s.length → ft (ρ.set 4 (some (.int (i : Nat)))) = .ok (decide (v * ((i : Int) + 1) < cnt s (i + 1)))) : lcGo (gSet 4) ft (mV 4) ρ (rngL 0 s.length) = .ok ((over s v).map fun i : Nat => D.int i) := by
  rw [rngL0, List.map_map]
  have := lc_fm (T := gSet 4) (ft := ft) (fe := mV 4) (ρ := ρ) (fun i : Nat => D.int i) (fun i => decide (v * ((i : Int) + 1) < cnt s (i + 1))) (fun i : Nat => D.int i) (xs := List.range s.length) fun i mi => ⟨ρ.set 4 (some (.int (i : Nat))), rfl, hm i (List.mem_range.mp mi), fun _ => by
    have l4 : 4 < ρ.length := (List.getElem?_eq_some_iff.mp hρ).1
    unfold mV
    rw [List.getElem?_set_self l4]⟩
  exact this
theorem over_none {s : List Nat} {b0 b1 : Nat} (hs : 1 ≤ s.length) (h : Best s s.length b0 b1) : over s (((b0 : Int) + b1 - 1) / b1) = [] := by
  unfold over
  refine List.filter_eq_nil_iff.mpr fun i mi q => least_none hs h (List.mem_range.mp mi) (of_decide_eq_true q)
theorem over_some {s : List Nat} {b0 b1 : Nat} (hs : 1 ≤ s.length) (h : Best s s.length b0 b1) : 1 ≤ (over s (((b0 : Int) + b1 - 1) / b1 - 1)).length := by
  obtain ⟨i, hi, q⟩ := least_some hs h
  exact List.length_pos_of_mem (List.mem_filter.mpr ⟨List.mem_range.mpr hi, decide_eq_true q⟩)
theorem over_len {s : List Nat} {v : Int} : (over s v).length ≤ s.length := by
  have := List.length_filter_le (fun i : Nat => decide (v * ((i : Int) + 1) < cnt s (i + 1))) (List.range s.length)
  rw [List.length_range] at this
  exact this
theorem cnts_get {s : List Nat} {i : Nat} (h : i < s.length) : ((cnts s).map D.int)[i]? = some (.int (cnt s (i + 1) : Nat)) := by
  unfold cnts
  simp [List.getElem?_range h]
theorem cnts_len {s : List Nat} : ((cnts s).map D.int).length = s.length := by
  unfold cnts
  rw [List.length_map, List.length_map, List.length_range]
theorem mul_i21 {a b : Int} (h : 0 ≤ a) (h2 : a ≤ 4000) (h3 : 0 ≤ b) (h4 : b ≤ 4000) : dMul (.int a) (.int b) = some (.int (a * b)) := mul_small h (by omega) h3 (by omega)
theorem is_least_ok {s : List Nat} {v : Int} (h1 : 1 ≤ s.length) (h2 : s.length ≤ 1000) (hv : 1 ≤ v) (hv2 : v ≤ 4000) (ha : over s v = []) (hb : 1 ≤ (over s (v - 1)).length) : m_law_is_least [.int v, .lst ((cnts s).map .int)] = .ok (.bl true) := by
  have gt : ∀ i, i < s.length → dIx (.lst ((cnts s).map D.int)) (.int (i : Nat)) = some (.int (cnt s (i + 1) : Nat)) := fun i hi => dIx_l (by omega) (by rw [Int.toNat_natCast]; exact cnts_get hi)
  have cl := cnts_len (s := s)
  have ol := over_len (s := s) (v := v - 1)
  have g := gR1_ok (j := (s.length : Int)) (by rw [LRe]; omega) (by rw [LRe]; omega)
  rw [Int.toNat_natCast] at g
  have dl := dLen_l (xs := (cnts s).map D.int)
  rw [cl] at dl
  generalize (cnts s).map D.int = cs at *
  have e1 := over_lc (s := s) (v := v) (ft := mB (m2 dGt (m2 dIx (mV 1) (mV 4)) (m2 dMul (mV 0) (m2 dAdd (mV 4) (mC (.int 1)))))) (ρ := [some (.int v), some (.lst cs), none, none, none]) rfl fun i hi => by
    have m := mul_i21 (a := v) (b := (i : Int) + 1) (by omega) (by omega) (by omega) (by omega)
    have gi := gt i hi
    generalize (cnt s (i + 1) : Int) = cv at *
    simp [gi, m, -decide_eq_true_eq]
  have e2 := over_lc (s := s) (v := v - 1) (ft := mB (m2 dGt (m2 dIx (mV 1) (mV 4)) (m2 dMul (m2 dSub (mV 0) (mC (.int 1))) (m2 dAdd (mV 4) (mC (.int 1)))))) (ρ := [some (.int v), some (.lst cs), some (.lst []), none, none]) rfl fun i hi => by
    have m := mul_i21 (a := v - 1) (b := (i : Int) + 1) (by omega) (by omega) (by omega) (by omega)
    have gi := gt i hi
    generalize (cnt s (i + 1) : Int) = cv at *
    simp [gi, m, -decide_eq_true_eq]
  rw [ha, List.map_nil] at e1
  generalize over s (v - 1) = os at *
  have k0 := kLn_ok (xs := []) (Nat.zero_le _)
  have k := kLn_ok (xs := os.map fun i : Nat => D.int i) (by rw [List.length_map, LNe]; omega)
  have l2 := dLen_l (xs := os.map fun i : Nat => D.int i)
  have l0 := dLen_l (xs := [])
  rw [List.length_map] at l2
  have c := decide_eq_true (show 0 < os.length by omega)
  simp only [m_law_is_least, mFn_eq, b_law_is_least, i1_law_is_least, c1_law_is_least, c2_law_is_least]
  simp [m_law_is_int, b_law_is_int, mFn_eq, dl, g, e1, e2, k0, k, l2, l0, c, -decide_eq_true_eq]
end PF
set_option linter.all false
set_option maxRecDepth 100000
set_option maxHeartbeats 1000000
namespace PF
open PD PM
local macro_rules
  | `(tactic| exists $es,*) => `(tactic| simp (disch := (first | assumption | omega | (simp only [LNe, LRe, rngL_length, List.length_map, List.length_append, List.length_take, List.length_drop, List.length_range, List.length_range', List.length_cons, List.length_nil, List.length_reverse, List.length_replicate, List.length_set, Int.toNat_natCast, Nat.reduceAdd, Nat.reduceLeDiff]; first | done | omega) | decide)) only [o_nx, o_rt, o_bk, o_ct, o_ex, ot_some, List.map_cons, List.map_nil, List.length_cons, List.length_nil, Nat.reduceAdd, Nat.reduceSub, Nat.reduceMul, Nat.reduceLT, Int.reduceAdd, Int.reduceSub, Int.reduceMul, Int.reduceNeg, Int.reduceToNat, Int.toNat_natCast, Nat.zero_add, List.replicate, List.cons_append, List.nil_append, List.set_cons_zero, List.set_cons_succ, List.getElem?_cons_zero, List.getElem?_cons_succ, Option.map_some, mFn_eq, kCl1, kCl2, kCl3, kCl4, ite_true, ite_false, Bool.not_true, Bool.not_false, reduceIte, isAtom_bl, isAtom_i, isAtom_s, isAtom_n, List.getElem?_nil, Bool.false_eq_true, eq_self, not_true_eq_false, not_false_eq_true, decide_true, decide_false, Bool.true_eq_false, kAtL_ok, reduceCtorEq, oR_some, oR_none, okb, mV_0, mV_s, mC_eq, k1_ok, m1_eq, k2_ok, m2_eq, kN_ok, mN_eq, iArgs_eq, kO_ok, iOf_eq, mB_eq, mTru_eq, mSo_eq, mNo_eq, mNil_eq, kC_ok, mCons_eq, dBool_bl, dInt?_int, kIf_t, kIf_f, mIf_eq, kAnd_t, kAnd_f, mAnd_eq, kOr_t, kOr_f, mOr_eq, kNot_ok, mNot_eq, kAndV_t, kAndV_f, mAndV_eq, kOrV_t, kOrV_f, mOrV_eq, kCh0_ok, kCh_t, kCh_f, mChain_eq, kAt_ok, mAt_eq, kSl_ok, mSl_eq, kM_ok, mM_eq, mCall_eq, noF_ok, noF_err, kClA_ok, mCallA_eq, kG_ok, kG_err, kClL_ok, mCallL_eq, kOb_ok, kOb_err, kMk_ok1, kMk_ok2, mMake_eq, kMkL_ok1, kMkL_ok2, mMakeL_eq, mMeth_eq, mMeth0_eq, gSq_l, gSq_t, gSq_s, gEn_l, dIsC_o, kS_nx, kS_rt, kS_bk, kS_ct, kS_ex, sSeq_eq, sNx_eq, sBk_eq, sCt_eq, sRaise_eq, sRetN_eq, kSet_ok, kSet_err, sSet_eq, kDrop_ok, kDrop_err, sDrop_eq, kRet_ok, kRet_err, sRet_eq, kIfS_t, kIfS_f, sIf_eq, kFor_ok, sFor_eq, getL_0, getL_s, sApp_eq, gSet_eq, kLc_ok, mLc_eq, wipeD_1, mYes_eq, kF_rt, kF_nx, kF_ex, dAdd_i, dSub_i, dNeg_i, dLt_i, dLe_i, dGt_i, dGe_i, dEq_b, dNot_b, dAbs_i, dMin2_i, dMax2_i, dInt1_i, dInt1_b, dLen_l, dLen_t, dLen_c, gL_l, gT_t, gS_s, dSl_l, dSlL_l, dFind_s, dAllS_s, dIsi_non, dIsi_bl, dIsi_int, dIsi_str, dIsi_lst, dIsi_tup, isN_non, isN_int, isN_str, isN_lst, isN_tup, isN_bl, notN_non, notN_int, notN_str, notN_lst, notN_tup, dIx_lit, dIx_litT, isi_1, isi_2, isi_3, isi_4, isi_5, isb_1, isb_2, isb_3, isb_4, isb_5, iss_1, iss_2, iss_3, iss_4, iss_5, isl_1, isl_2, isl_3, isl_4, isl_5, ist_1, ist_2, ist_3, ist_4, ist_5, isn_1, isn_2, isn_3, isn_4, isn_5, kT2_rt, endN_rt, endN_nx, clrI_s, clrI_n, mAtL_eq, kAtL_err, kC_err, kC_err1, kN_err, kCl_err, dListOf_l, dListOf_t, dTupOf_l, dTupOf_t, dRevL_l, r_kIf_p, r_kIf_n, r_kIfS_p, r_kIfS_n, r_kAnd_p, r_kAnd_n, r_kOr_p, r_kOr_n, r_kAndV_p, r_kAndV_n, r_kOrV_p, r_kOrV_n, r_kNot, r_dNot, r_kCh_p, r_kCh_n, r_not_t, r_bnot, r_eq_i, r_ne_i, r_eq_s, r_ne_s, r_mul, r_div, r_ixn, r_ixtn, r_ixsn, r_ixc, r_len_s, r_add_s, r_add_l, r_cat_l, r_lst, r_tup, r_R1, r_R1n, r_R2, r_sl_s, r_app, r_kLn, $[$es:term],*])
theorem best_some {s : List Nat} {b0 b1 : Nat} (h1 : 1 ≤ s.length) (hb : Best s s.length b0 b1) : 1 ≤ b1 ∧ b1 ≤ s.length ∧ b0 = cnt s b1 ∧ (∀ i, 1 ≤ i → i ≤ s.length → cnt s i * b1 ≤ b0 * i) ∧ ∀ i, 1 ≤ i → i < b1 → cnt s i * b1 < b0 * i := by
  rcases hb with ⟨a, _⟩ | h
  · omega
  · exact h
theorem is_floor_ok {s : List Nat} {b0 b1 : Nat} (h1 : 1 ≤ s.length) (h2 : s.length ≤ 1000) (hb : Best s s.length b0 b1) : m_law_is_floor [.tup [.int (b0 : Nat), .int (b1 : Nat)], .lst ((cnts s).map .int)] = .ok (.bl true) := by
  obtain ⟨p1, p2, p3, p4, p5⟩ := best_some h1 hb
  have q0 := cnt_le (s := s) (m := b1)
  have gt : ∀ i, i < s.length → dIx (.lst ((cnts s).map D.int)) (.int (i : Nat)) = some (.int (cnt s (i + 1) : Nat)) := fun i hi => dIx_l (by omega) (by rw [Int.toNat_natCast]; exact cnts_get hi)
  have cl := cnts_len (s := s)
  have g := gR1_ok (j := (s.length : Int)) (by rw [LRe]; omega) (by rw [LRe]; omega)
  rw [Int.toNat_natCast] at g
  have dl := dLen_l (xs := (cnts s).map D.int)
  rw [cl] at dl
  generalize (cnts s).map D.int = cs at *
  obtain ⟨ρ', e, o2, o3, o4, rfl⟩ := loop_I (T := gSet 2) (b := l1_law_is_floor) (fun j ρ => ∃ (o2 o3 o4 : Option D), ρ = [some (.tup [.int (b0 : Nat), .int (b1 : Nat)]), some (.lst cs), o2, o3, o4]) (rngL 0 s.length) [some (.tup [.int (b0 : Nat), .int (b1 : Nat)]), some (.lst cs), none, none, none] ⟨none, none, none, rfl⟩ (by
    rintro j d ρ hj ⟨o2, o3, o4, rfl⟩
    obtain ⟨hjl, rfl⟩ := rngL_get hj
    rw [Int.zero_add]
    have gi := gt j hjl
    have q2 := cnt_le (s := s) (m := j + 1)
    have m1 := mul1000 (a := (cnt s (j + 1) : Nat)) (b := (b1 : Nat)) (by omega) (by omega) (by omega) (by omega)
    have m2' := mul1000 (a := (b0 : Nat)) (b := (j : Int) + 1) (by omega) (by omega) (by omega) (by omega)
    have r1 := p4 (j + 1) (by omega) (by omega)
    have r2 : (cnt s (j + 1) : Int) * (b1 : Int) ≤ (b0 : Int) * ((j : Int) + 1) := by exact_mod_cast r1
    have r3 : (cnt s (j + 1) : Int) * (b1 : Int) = (b0 : Int) * ((j : Int) + 1) → ¬ ((j : Int) + 1 < b1) := fun e q => by
      have r4 := p5 (j + 1) (by omega) (by omega)
      have r5 : (cnt s (j + 1) : Int) * (b1 : Int) < (b0 : Int) * ((j : Int) + 1) := by exact_mod_cast r4
      omega
    generalize (cnt s (j + 1) : Int) * (b1 : Int) = u at *
    generalize (b0 : Int) * ((j : Int) + 1) = w at *
    generalize (cnt s (j + 1) : Int) = cv at *
    by_cases c : u = w
    · have c2 := r3 c
      exists l1_law_is_floor, i3_law_is_floor, gi, m1, m2', c
      exact ⟨_, _, _, rfl⟩
    · exists l1_law_is_floor, i3_law_is_floor, gi, m1, m2'
      exact ⟨_, _, _, rfl⟩)
  have gb := gt (b1 - 1) (by omega)
  rw [show ((b1 - 1 : Nat) : Int) = (b1 : Int) - 1 by omega, show b1 - 1 + 1 = b1 by omega, ← p3] at gb
  exists m_law_is_floor, b_law_is_floor, i1_law_is_floor, i2_law_is_floor, m_law_is_int, b_law_is_int, dl, g, gb, e
theorem core {s : List Nat} (h : IsText s) : ∃ (f v : D) , m_floor [.str s] = .ok f ∧ m_least_size [.str s] = .ok v ∧ m_law_is_floor [f, .lst ((cnts s).map .int)] = .ok (.bl true) ∧ m_law_is_least [v, .lst ((cnts s).map .int)] = .ok (.bl true) := by
  obtain ⟨b0, b1, e1, e2, hb⟩ := least_ok h
  have h2 := h.1
  obtain ⟨p1, p2, p3, p4, p5⟩ := best_some h2.1 hb
  have c1 := cnt_pos (s := s) (m := b1) p2
  have c2 := cnt_le (s := s) (m := b1)
  refine ⟨_, _, e2, e1, is_floor_ok h2.1 (by omega) hb, is_least_ok h2.1 (by omega) ?_ ?_ (over_none h2.1 hb) (over_some h2.1 hb)⟩
  · rw [Int.le_ediv_iff_mul_le (by omega)]; omega
  · have : ((b0 : Int) + b1 - 1) / b1 ≤ (b0 : Int) + b1 - 1 := Int.ediv_le_self _ (by omega)
    omega
end PF
set_option linter.all false
set_option maxRecDepth 100000
set_option maxHeartbeats 1000000
namespace PF
open PD PM
/-! ### plain laws of the counts -/
theorem ded_nodup : ∀ {ws acc : List (List Nat)}, acc.Nodup → (ded acc ws).Nodup
  | [], acc, h => h
  | w :: ws, acc, h => by
    show (ded (if w ∈ acc then acc else acc ++ [w]) ws).Nodup
    by_cases m : w ∈ acc
    · rw [if_pos m]; exact ded_nodup h
    · rw [if_neg m]
      refine ded_nodup (List.nodup_append.mpr ⟨h, by simp, fun a ha b hb e => ?_⟩)
      rw [List.mem_singleton] at hb
      exact m (by rw [← hb, ← e]; exact ha)
theorem len_sub {α : Type} [DecidableEq α] : ∀ {A B : List α}, A.Nodup → (∀ a ∈ A, a ∈ B) → A.length ≤ B.length
  | [], B, _, _ => Nat.zero_le _
  | a :: A, B, hn, h => by
    rw [List.nodup_cons] at hn
    have mB := h a List.mem_cons_self
    have := len_sub (A := A) (B := B.erase a) hn.2 fun x mx => (List.mem_erase_of_ne (fun e => hn.1 (by rw [← e]; exact mx))).mpr (h x (List.mem_cons_of_mem _ mx))
    rw [List.length_erase_of_mem mB] at this
    have p := List.length_pos_of_mem mB
    rw [List.length_cons]
    omega
theorem cnt_cover {s : List Nat} {m : Nat} {C : List (List Nat)} (h : ∀ i, i + m ≤ s.length → wordAt s m i ∈ C) : cnt s m ≤ C.length := by
  unfold cnt
  refine len_sub (ded_nodup List.nodup_nil) fun w mw => ?_
  rcases mem_ded.mp mw with z | z
  · cases z
  · obtain ⟨i, mi, rfl⟩ := List.mem_map.mp z
    have := List.mem_range.mp mi
    exact h i (by omega)
theorem in_ded {s : List Nat} {m i : Nat} (h : i + m ≤ s.length) : wordAt s m i ∈ ded [] (wordsOf s m) := mem_ded.mpr (.inr (List.mem_map.mpr ⟨i, List.mem_range.mpr (by omega), rfl⟩))
theorem wordAt_get {s : List Nat} {m i k : Nat} : (wordAt s m i)[k]? = if k < m then s[i + k]? else none := by
  unfold wordAt
  rw [List.getElem?_take]
  by_cases h : k < m
  · rw [if_pos h, if_pos h, List.getElem?_drop]
  · rw [if_neg h, if_neg h]
theorem word_eq {s t : List Nat} {m i j : Nat} (h : ∀ k, k < m → s[i + k]? = t[j + k]?) : wordAt s m i = wordAt t m j := by
  refine List.ext_getElem? fun k => ?_
  rw [wordAt_get, wordAt_get]
  by_cases c : k < m
  · rw [if_pos c, if_pos c, h k c]
  · rw [if_neg c, if_neg c]
theorem cnt_infix {u s v : List Nat} {m : Nat} : cnt s m ≤ cnt (u ++ s ++ v) m := by
  refine cnt_cover (C := ded [] (wordsOf (u ++ s ++ v) m)) fun i hi => ?_
  have e : wordAt s m i = wordAt (u ++ s ++ v) m (u.length + i) := word_eq fun k hk => by
    rw [List.append_assoc, List.getElem?_append_right (by omega), show u.length + i + k - u.length = i + k by omega, List.getElem?_append_left (by omega)]
  rw [e]
  exact in_ded (by rw [List.length_append, List.length_append]; omega)
theorem cnt_join {x y : List Nat} {m : Nat} : cnt (x ++ y) m ≤ cnt x m + cnt y m + (m - 1) := by
  have := cnt_cover (s := x ++ y) (m := m) (C := ded [] (wordsOf x m) ++ ded [] (wordsOf y m) ++ (List.range (m - 1)).map fun j => wordAt (x ++ y) m (x.length - 1 - j)) fun i hi => by
    rw [List.length_append] at hi
    rw [List.mem_append, List.mem_append]
    by_cases c1 : i + m ≤ x.length
    · left; left
      have e : wordAt (x ++ y) m i = wordAt x m i := word_eq fun k hk => by rw [List.getElem?_append_left (by omega)]
      rw [e]; exact in_ded c1
    · by_cases c2 : x.length ≤ i
      · left; right
        have e : wordAt (x ++ y) m i = wordAt y m (i - x.length) := word_eq fun k hk => by rw [List.getElem?_append_right (by omega), show i + k - x.length = i - x.length + k by omega]
        rw [e]; exact in_ded (by omega)
      · right
        exact List.mem_map.mpr ⟨x.length - 1 - i, List.mem_range.mpr (by omega), by rw [show x.length - 1 - (x.length - 1 - i) = i by omega]⟩
  rw [List.length_append, List.length_append, List.length_map, List.length_range] at this
  exact this
theorem rep_get {x : List Nat} (hx : 1 ≤ x.length) : ∀ (k j : Nat), j < k * x.length → (List.replicate k x).flatten[j]? = x[j % x.length]?
  | 0, j, h => by rw [Nat.zero_mul] at h; omega
  | k + 1, j, h => by
    rw [List.replicate_succ, List.flatten_cons]
    by_cases c : j < x.length
    · rw [List.getElem?_append_left c, Nat.mod_eq_of_lt c]
    · rw [Nat.add_mul, Nat.one_mul] at h
      rw [List.getElem?_append_right (by omega), rep_get hx k (j - x.length) (by omega), Nat.mod_eq_sub_mod (a := j) (by omega)]
theorem cnt_pow {x : List Nat} {k m : Nat} (hx : 1 ≤ x.length) : cnt (List.replicate k x).flatten m ≤ cnt x m + (m - 1) := by
  have lr : (List.replicate k x).flatten.length = k * x.length := by
    induction k with
    | zero => simp
    | succ k ih => rw [List.replicate_succ, List.flatten_cons, List.length_append, ih, Nat.add_mul]; omega
  have g := rep_get hx k
  generalize (List.replicate k x).flatten = s at *
  have := cnt_cover (s := s) (m := m) (C := ded [] (wordsOf x m) ++ (List.range (m - 1)).map fun j => wordAt s m (x.length - 1 - j)) fun i hi => by
    rw [List.mem_append]
    have lt := Nat.mod_lt i (y := x.length) (by omega)
    have le := Nat.mod_le i x.length
    have e0 : wordAt s m i = wordAt s m (i % x.length) := word_eq fun t ht => by
      rw [g (i + t) (by omega), g (i % x.length + t) (by omega), Nat.mod_add_mod]
    by_cases c : i % x.length + m ≤ x.length
    · left
      have e : wordAt s m i = wordAt x m (i % x.length) := by
        rw [e0]
        refine word_eq fun t ht => ?_
        rw [g (i % x.length + t) (by omega), Nat.mod_eq_of_lt (a := i % x.length + t) (by omega)]
      rw [e]; exact in_ded c
    · right
      rw [e0]
      exact List.mem_map.mpr ⟨x.length - 1 - i % x.length, List.mem_range.mpr (by omega), by rw [show x.length - 1 - (x.length - 1 - i % x.length) = i % x.length by omega]⟩
  rw [List.length_append, List.length_map, List.length_range] at this
  exact this
theorem cnt_img {s t : List Nat} {m : Nat} (f : List Nat → List Nat) (h : ∀ i, i + m ≤ s.length → ∃ j, j + m ≤ t.length ∧ wordAt s m i = f (wordAt t m j)) : cnt s m ≤ cnt t m := by
  have := cnt_cover (s := s) (m := m) (C := (ded [] (wordsOf t m)).map f) fun i hi => by
    obtain ⟨j, hj, e⟩ := h i hi
    rw [e]
    exact List.mem_map.mpr ⟨_, in_ded hj, rfl⟩
  rw [List.length_map] at this
  exact this
theorem cnt_map {s : List Nat} {m : Nat} (h : Nat → Nat) : cnt (s.map h) m ≤ cnt s m := cnt_img (List.map h) fun i hi => by
  rw [List.length_map] at hi
  refine ⟨i, hi, ?_⟩
  unfold wordAt
  rw [← List.map_drop, ← List.map_take]
theorem cnt_rev_le {s : List Nat} {m : Nat} : cnt s.reverse m ≤ cnt s m := cnt_img List.reverse fun i hi => by
  rw [List.length_reverse] at hi
  refine ⟨s.length - m - i, by omega, ?_⟩
  unfold wordAt
  rw [List.drop_reverse, List.take_reverse, List.length_take, List.drop_take, Nat.min_eq_left (by omega)]
  rw [show s.length - i - m = s.length - m - i by omega]
  congr 2
  omega
theorem cnt_rev {s : List Nat} {m : Nat} : cnt s.reverse m = cnt s m := by
  have a := cnt_rev_le (s := s) (m := m)
  have b := cnt_rev_le (s := s.reverse) (m := m)
  rw [List.reverse_reverse] at b
  omega
theorem cnts_rev {s : List Nat} : cnts s.reverse = cnts s := by
  unfold cnts
  rw [List.length_reverse]
  exact List.map_congr_left fun k _ => by rw [cnt_rev]
/-! ### floors -/
theorem best_bd {t : List Nat} {c0 c1 m : Nat} (h1 : 1 ≤ t.length) (hb : Best t t.length c0 c1) (hm : 1 ≤ m) : cnt t m * c1 ≤ c0 * m := by
  obtain ⟨p1, p2, p3, p4, p5⟩ := best_some h1 hb
  by_cases c : m ≤ t.length
  · exact p4 m hm c
  · have := cnt_le (s := t) (m := m)
    rw [show cnt t m = 0 by omega, Nat.zero_mul]
    exact Nat.zero_le _
theorem floor_le {s t : List Nat} {b0 b1 c0 c1 e : Nat} (h1 : 1 ≤ s.length) (h2 : 1 ≤ t.length) (hb : Best s s.length b0 b1) (hc : Best t t.length c0 c1) (h : ∀ m, 1 ≤ m → cnt s m ≤ cnt t m + e * m) : b0 * c1 ≤ (c0 + e * c1) * b1 := by
  obtain ⟨p1, p2, p3, p4, p5⟩ := best_some h1 hb
  have q := best_bd h2 hc p1
  have q2 := h b1 p1
  rw [p3]
  calc cnt s b1 * c1 ≤ (cnt t b1 + e * b1) * c1 := Nat.mul_le_mul_right _ q2
    _ = cnt t b1 * c1 + e * c1 * b1 := by rw [Nat.add_mul, Nat.mul_right_comm]
    _ ≤ c0 * b1 + e * c1 * b1 := Nat.add_le_add_right q _
    _ = _ := by rw [Nat.add_mul]
theorem floor_join {x y : List Nat} {b0 b1 x0 x1 y0 y1 : Nat} (h1 : 1 ≤ x.length) (h2 : 1 ≤ y.length) (hx : Best x x.length x0 x1) (hy : Best y y.length y0 y1) (hb : Best (x ++ y) (x ++ y).length b0 b1) : b0 * (x1 * y1) ≤ (x0 * y1 + y0 * x1 + 1 * (x1 * y1)) * b1 := by
  obtain ⟨p1, p2, p3, p4, p5⟩ := best_some (by rw [List.length_append]; omega) hb
  have qx := best_bd h1 hx p1
  have qy := best_bd h2 hy p1
  have j := cnt_join (x := x) (y := y) (m := b1)
  rw [p3]
  calc cnt (x ++ y) b1 * (x1 * y1) ≤ (cnt x b1 + cnt y b1 + b1) * (x1 * y1) := Nat.mul_le_mul_right _ (by omega)
    _ = (cnt x b1 * x1) * y1 + (cnt y b1 * y1) * x1 + x1 * y1 * b1 := by
      rw [Nat.add_mul, Nat.add_mul, Nat.mul_assoc (cnt x b1), Nat.mul_assoc (cnt y b1), Nat.mul_comm y1 x1, Nat.mul_comm b1]
    _ ≤ (x0 * b1) * y1 + (y0 * b1) * x1 + x1 * y1 * b1 := Nat.add_le_add_right (Nat.add_le_add (Nat.mul_le_mul_right _ qx) (Nat.mul_le_mul_right _ qy)) _
    _ = _ := by rw [Nat.add_mul, Nat.add_mul, Nat.one_mul, Nat.mul_right_comm x0, Nat.mul_right_comm y0]
theorem best_rev {s : List Nat} {n b0 b1 : Nat} (h : Best s.reverse n b0 b1) : Best s n b0 b1 := by
  unfold Best at h ⊢
  simp only [cnt_rev] at h
  exact h
theorem best_uniq {s : List Nat} {b0 b1 c0 c1 : Nat} (h1 : 1 ≤ s.length) (hb : Best s s.length b0 b1) (hc : Best s s.length c0 c1) : b0 = c0 ∧ b1 = c1 := by
  obtain ⟨p1, p2, p3, p4, p5⟩ := best_some h1 hb
  obtain ⟨q1, q2, q3, q4, q5⟩ := best_some h1 hc
  have e : b1 = c1 := by
    rcases Nat.lt_trichotomy b1 c1 with l | l | l
    · have a := q5 b1 p1 l
      have b := p4 c1 q1 q2
      rw [← q3] at b
      rw [← p3] at a
      omega
    · exact l
    · have a := p5 c1 q1 l
      have b := q4 b1 p1 p2
      rw [← q3] at a
      rw [← p3] at b
      omega
  exact ⟨by rw [p3, q3, e], e⟩
end PF
set_option Elab.async false
set_option linter.all false
set_option maxRecDepth 100000
set_option maxHeartbeats 1000000
/-! # text.rfind -/
namespace PD
open PySem PySem.Spec PyProof.Rows L2
/-- the last number under n with p -/
def lastU (p : Nat → Bool) : Nat → Option Nat
  | 0 => none
  | n + 1 => if p n = true then some n else lastU p n
theorem lastU_some {p : Nat → Bool} {i : Nat} : ∀ {n : Nat}, lastU p n = some i → i < n ∧ p i = true ∧ ∀ k, i < k → k < n → p k = false
  | 0, h => by cases h
  | n + 1, h => by
    unfold lastU at h
    by_cases c : p n = true
    · rw [if_pos c] at h
      cases h
      exact ⟨by omega, c, fun k h1 h2 => by omega⟩
    · rw [if_neg c] at h
      obtain ⟨a, b, d⟩ := lastU_some h
      refine ⟨by omega, b, fun k h1 h2 => ?_⟩
      by_cases e : k = n
      · rw [e]; simpa using c
      · exact d k h1 (by omega)
theorem lastU_none {p : Nat → Bool} : ∀ {n : Nat}, lastU p n = none → ∀ k, k < n → p k = false
  | 0, _, k, h => by omega
  | n + 1, h, k, hk => by
    unfold lastU at h
    by_cases c : p n = true
    · rw [if_pos c] at h; cases h
    · rw [if_neg c] at h
      by_cases e : k = n
      · rw [e]; simpa using c
      · exact lastU_none h k (by omega)
def atP (s t : List Nat) (i : Nat) : Bool := decide (i + t.length ≤ s.length) && ((s.drop i).take t.length == t)
def rfindI (s t : List Nat) : Int := match lastU (atP s t) (s.length + 1) with
  | some i => (i : Nat)
  | none => -1
def dRfind (s : List Nat) : List D → Option D
  | [.str t] => some (.int (rfindI s t))
  | _ => none
theorem atP_le {s t : List Nat} {i : Nat} (h : atP s t i = true) : i + t.length ≤ s.length := by
  unfold atP at h
  rw [Bool.and_eq_true, decide_eq_true_eq] at h
  exact h.1
theorem rfind_eq (s t : List Nat) : Txt.rfind ⟨s.toArray⟩ ⟨t.toArray⟩ = rfindI s t := by
  have w := rfind_whole ⟨s.toArray⟩ ⟨t.toArray⟩
  unfold rfindI
  rcases w with ⟨e, n⟩ | ⟨i, e, a, n⟩
  · rw [e]
    cases q : lastU (atP s t) (s.length + 1) with
    | none => rfl
    | some j => exact absurd (at_findN.mpr (lastU_some q).2.1) (n j)
  · rw [e]
    have ai : atP s t i = true := at_findN.mp a
    cases q : lastU (atP s t) (s.length + 1) with
    | none =>
      have := lastU_none q i (by have := atP_le ai; omega)
      rw [ai] at this; cases this
    | some j =>
      obtain ⟨j1, j2, j3⟩ := lastU_some q
      have : i = j := by
        rcases Nat.lt_trichotomy i j with l | l | l
        · exact absurd (at_findN.mpr j2) (n j l)
        · exact l
        · have := j3 i l (by have := atP_le ai; omega)
          rw [ai] at this; cases this
      rw [this]
section
variable {L : LE}
theorem md_rfind {bw bw2 : Bool} : MethD L (fun x xs H Q => ∃ a b, x = .str a ∧ xs = [.str b] ∧ Q (.int (Txt.rfind a b)) H) bw (.d bw2) dRfind := methD_pure fun F H z vs ds d s hx e => by
  unfold dRfind at e
  split at e <;> cases e
  obtain ⟨v, rfl, h⟩ := datL1 hx
  cases h
  rename_i t
  refine ⟨_, fun _ => .int, fun Q q => ⟨_, _, rfl, rfl, ?_⟩⟩
  rw [rfind_eq]
  exact q
end
@[simp] theorem dRfind_s {s t : List Nat} : dRfind s [.str t] = some (.int (rfindI s t)) := Eq.trans rfl rfl
end PD
set_option Elab.async false
set_option linter.all false
set_option maxRecDepth 100000
set_option maxHeartbeats 1000000
/-! # xs.reverse() of one's own list; comprehensions over one's own list that stays one's own -/
namespace PD
open PySem PySem.Spec PyProof.Rows L2
def sRev (i : Nat) : Env → R Fl := fun ρ => match getL ρ i with
  | some xs => .ok (.nx (ρ.set i (some (.lst xs.reverse))))
  | none => .stuck
/-- a list without lists in it -/
def gNLL : D → R D := fun d => match d with
  | .lst xs => if noLs xs = true then .ok (.lst xs) else .stuck
  | _ => .stuck
def mNLL (f : Env → R D) : Env → R D := fun ρ => f ρ >>= gNLL
section
variable {L : LE} {W : WX} {F1 H1 : Hp}
theorem newF_none {F2 : Hp} (e : Ext L.T (lf F1 H1) H1 F2 H2) {a : Addr} (h : F2 a = none) : newF F1 H1 F2 a = none := by
  unfold newF
  cases q : F1 a with
  | some o =>
    have := e.ff a o (lf_F q)
    rw [h] at this; cases this
  | none =>
    dsimp only
    split
    · rfl
    · exact h
theorem postE_lfL {r0 : R D} {σ : L2.St} {Q : VK} (fh : Same F1 H1) (nf : NoT F1) (p : PostE L F1 H1 (.l .s) (r0 >>= gNLL) W σ Q) : PostE L (lf F1 H1) H1 (.l .s) r0 W σ Q := by
  cases r0 with
  | ok d =>
    rw [bind_ok] at p
    intro v F2 H2 S e o nd fr
    obtain ⟨ex, k⟩ := newF_ext fh nf e
    cases o with
    | l h r =>
      obtain ⟨dv, eS⟩ := OwnL.datS r
      subst eS
      unfold gNLL at p
      dsimp only at p
      rename_i ds
      by_cases n : noLs ds = true
      · rw [if_pos n] at p
        exact p _ _ H2 _ ex (.l h (OwnL.ofDat (datL_noL k n dv))) nd fun a m => ⟨newF_none e (fr a m).1, (fr a m).2⟩
      · rw [if_neg n] at p; exact p.elim
  | err c fs =>
    rw [bind_err] at p
    intro cls d F2 H2 e x
    obtain ⟨ex, k⟩ := newF_ext fh nf e
    exact p cls d _ H2 ex (errOk_noL k x)
  | stuck => exact p
theorem rep_lf {fl fl' : List Sh} {F B H : Hp} {σ : L2.St} {ρ : Env} (ha : fl.all Sh.listy = true) (e : fl.map (fun _ => Sh.s) = fl') (r : Rep L fl F B σ H ρ) : Rep L fl' (lf F H) (offH (lf F H) H) σ H ρ := by
  subst e
  refine ⟨lf_bs r.bs, by rw [List.length_map]; exact r.ls, by rw [List.length_map]; exact r.lr, fun i v eo h => ?_, fun _ => [], fun i d h => ?_, fun _ _ a m => (nomatch m), fun _ => List.nodup_nil, fun _ a m => (nomatch m)⟩
  · rw [List.getElem?_map] at h
    obtain ⟨s, _, z⟩ := Option.map_eq_some_iff.mp h
    cases z
  · obtain ⟨Ss, h1, _, _, h4⟩ := r.sl
    obtain ⟨v, sh, a1, a2, a3, a4⟩ := h1 i d h
    have ls : sh.listy = true := List.all_eq_true.mp ha sh (List.mem_of_getElem? a2)
    exact ⟨v, .s, a1, by rw [List.getElem?_map, a2]; rfl, rfl, .d (a4.lf ls fun a m => (h4 i a m).1)⟩
end
section
variable {X : Cx} {L : LE} {J : Jn} {fl fl1 : List Sh} {W : WX} {pos : Pos}
theorem s_rev (i : Nat) {x : Str} {xp apos cpos : Pos} (hs : fl[i]? = some (.l .s) := by rfl) (hN : X.N[i]? = some x := by rfl) (hv : Vis X.env.scope x := by first | exact Or.inl rfl | exact Or.inr (Or.inl rfl) | exact Or.inr (Or.inr rfl)) (hd : (x == ("__debug__" : Str)) = false := by decide)
    (hcd : (x == ("__classdict__" : Str)) = false := by decide) (hbase : attributeBase (.Name x xp) "reverse" X.env (eval (.Name x xp) X.env) = eval (.Name x xp) X.env := by rfl) (hline : (apos.endLine == cpos.line) = true := by rfl)
    (hsw : swapsWith (.Call (.Attribute (.Name x xp) "reverse" apos) [] [] cpos) none pos.line X.env = pure false := by rfl) :
    PS X (.Expr (.Call (.Attribute (.Name x xp) "reverse" apos) [] [] cpos) pos) (tS L J fl fl W (sRev i)) :=
  (ps_expr (pe_bm0 PySem.F.plainAttrs_list PySem.F.slot_list_reverse PySem.F.type_list_reverse mt_reverse (pv i hN hv hd hcd) hbase hline) hsw).imp fun D σ H ⟨F, B, ρ, r, p⟩ => by
    unfold sRev at p
    cases q : getL ρ i with
    | none => rw [q] at p; exact p.elim
    | some xs =>
      rw [q] at p
      have hx := getL_some q
      obtain ⟨l, vs, S, a1, a2, a3, a4, a5, a6, a7, a8, go⟩ := r.mut hs hx
      obtain ⟨dvs, eS⟩ := OwnL.datS a3
      subst eS
      have r2 := go F H vs.reverse xs.reverse [] r.refl (OwnL.ofDat dvs.revD) (by simp) List.nodup_nil (fun a m => nomatch m) (fun a m => nomatch m)
      exact ⟨.ref l, a1, .inl ⟨rfl, _, SqL.of a2⟩, l, vs, rfl, rfl, a2, p _ F _ (.refl _) r2⟩
theorem s_setLcB (i : Nat) {fl' : List Sh} {y : Str} {py spos : Pos} {elt tg iter : Expr} {ifs : List Expr} {scope : Scope} (own : List (Str × Nat)) {fi : Env → R (List D)} {T : D → Env → Option Env} {ft : Env → R Bool} {fe : Env → R D} (hN : X.N.Nodup) (hi : PI X tg iter (tI L fl' W fi)) (ok : blkC X.N X.env.scope scope own = true)
    (hg : ∀ (s : Shared) (H : Hp) (C : Addr) (cl : List (Str × Addr)) (fp : List Addr), PG (X.blk s H scope (compEnvC scope cl C X.env) fp) tg (tG L fl' fl' (own.map (·.2)) T))
    (ht : ∀ (s : Shared) (H : Hp) (C : Addr) (cl : List (Str × Addr)) (fp : List Addr), PTs (X.blk s H scope (compEnvC scope cl C X.env) fp) ifs (tT L fl' W0 ft))
    (he : ∀ (s : Shared) (H : Hp) (C : Addr) (cl : List (Str × Addr)) (fp : List Addr), PE (X.blk s H scope (compEnvC scope cl C X.env) fp) elt (tD L fl' .s W0 fe))
    (hsw : swapsWith (.ListComp elt [⟨tg, iter, ifs, 0⟩] scope pos) (some (.Name y py)) spos.line X.env = pure true) (hsh : fl.map (fun _ => Sh.s) = fl' := by rfl) (hall : fl.all Sh.listy = true := by rfl) (hf' : fl.set i .s = fl1 := by rfl) (hc : X.calm = true := by rfl) (hy : X.N[i]? = some y := by rfl) (hyl : X.env.scope.names.lookup y = some .local := by rfl) (hw : noXs fl' (own.map (·.2)) = true := by rfl) (hs : ∀ x, foldedSetIterable iter X.env x = pure x := by intro _; rfl) :
    PS X (.Assign [.Name y py] (.ListComp elt [⟨tg, iter, ifs, 0⟩] scope pos) spos) (tS L J fl fl1 W (sSet i (mNLL (mLc fi (own.map (·.2)) T ft fe)))) :=
  (ps_setLc hc hN hy hyl hsw hi (blkOk_by ok) hg ht he hs).imp fun D σ H ⟨F, B, ρ, r, p⟩ => t_lc (L := L) (fl := fl') (W := W) hw ⟨lf F H, offH (lf F H) H, ρ, rep_lf hall hsh r, postE_lfL r.bs.fh r.bs.nf (PostS.bindE (sh := .l .s) r p fun d v F' H' S _ e _ o nd fr p1 => by
    subst hf'
    have r2 := r.setE (i := i) e o rfl nd fr
    obtain ⟨F2, s2, r3⟩ := r2.frz (sh := .s) (i := i)
    rw [List.set_set] at r3
    exact p1 _ F2 H' s2 r3)⟩
theorem e_brw {fl' : List Sh} {e : Expr} {f : Env → R D} (he : PE X e (tD L fl' (.l .s) W f)) (hsh : fl.map (fun _ => Sh.s) = fl' := by rfl) (hall : fl.all Sh.listy = true := by rfl) : PE X e (tD L fl (.l .s) W (mNLL f)) :=
  he.imp fun σ H Q ⟨F, B, ρ, r, p⟩ => ⟨lf F H, offH (lf F H) H, ρ, rep_lf hall hsh r, postE_lfL r.bs.fh r.bs.nf p⟩
end
/-! x in l of nested data -/
def inP (x : D) (ys : List D) : Bool := ys.any fun z => PyData.eqv (toP z) (toP x)
def dInD : D → D → Option D
  | x, .lst ys => if okP x = true ∧ okP (.lst ys) = true then some (.bl (inP x ys)) else none
  | _, _ => none
def dNotInD : D → D → Option D
  | x, .lst ys => if okP x = true ∧ okP (.lst ys) = true then some (.bl (!inP x ys)) else none
  | _, _ => none
theorem toPs_any {p : PyData → Bool} : ∀ {ys : List D}, (toPs ys).any p = ys.any fun z => p (toP z)
  | [] => by unfold toPs; rfl
  | y :: ys => by
    unfold toPs
    rw [List.any_cons, List.any_cons, toPs_any]
theorem okP_two {d : D} (h : okP d = true) : noR d = true ∧ SeqAt.shaped (toP d) = true := by
  unfold okP at h
  rwa [Bool.and_eq_true] at h
section
variable {X : Cx} {L : LE} {bw : Bool}
theorem od_notInD {bw2 : Bool} : OpD L (rNotInD L.K) bw (.d bw2) dNotInD := opD_pure fun F H x y dx dy d s hx hy e => by
  unfold dNotInD at e
  split at e
  · split at e <;> cases e
    rename_i ys hh
    obtain ⟨n1, n2⟩ := okP_two hh.1
    obtain ⟨n3, n4⟩ := okP_two hh.2
    have d2 := dp_of n3 (cond_H s hy)
    unfold toP at d2 n4
    refine ⟨_, fun _ => .bl, fun Q k => ⟨toP dx, toPs ys, dp_of n1 (cond_H s hx), d2, n2, n4, ?_⟩⟩
    rw [toPs_any]
    exact k
  · cases e
theorem od_inD {bw2 : Bool} : OpD L (rInD L.K) bw (.d bw2) dInD := opD_pure fun F H x y dx dy d s hx hy e => by
  unfold dInD at e
  split at e
  · split at e <;> cases e
    rename_i ys hh
    obtain ⟨n1, n2⟩ := okP_two hh.1
    obtain ⟨n3, n4⟩ := okP_two hh.2
    have d2 := dp_of n3 (cond_H s hy)
    unfold toP at d2 n4
    refine ⟨_, fun _ => .bl, fun Q k => ⟨toP dx, toPs ys, dp_of n1 (cond_H s hx), d2, n2, n4, ?_⟩⟩
    rw [toPs_any]
    exact k
  · cases e
theorem or_inD {j : Nat} (hr : Room j X.A) (hK : X.K = L.K := by rfl) : OpR X (compareOp .In) (rInD L.K) := by
  rw [← hK]
  exact op_inD (by have := hr.un; omega)
theorem or_notInD {j : Nat} (hr : Room j X.A) (hK : X.K = L.K := by rfl) : OpR X (compareOp .NotIn) (rNotInD L.K) := by
  rw [← hK]
  exact op_notInD (by have := hr.un; omega)
end
@[simp] theorem mNLL_eq {f : Env → R D} {ρ : Env} : mNLL f ρ = (f ρ >>= gNLL) := rfl
end PD
set_option Elab.async false
set_option linter.all false
set_option maxRecDepth 100000
set_option maxHeartbeats 1000000
/-! # set(xs), xs a list of texts -/
namespace L2
open PySem PySem.Spec PyProof.Rows
/-- one key more -/
def hasB (l : List Key) (k : Key) : Bool := l.any fun j => decide (j = k)
def metK (l : List Key) (k : Key) : List Key := if hasB l k = true then l else l ++ [k]
theorem hasB_iff {l : List Key} {k : Key} : hasB l k = true ↔ k ∈ l := by
  unfold hasB
  rw [List.any_eq_true]
  exact ⟨fun ⟨j, m, e⟩ => of_decide_eq_true e ▸ m, fun m => ⟨k, m, decide_eq_true rfl⟩⟩
theorem metK_has (l : List Key) (k j : Key) : (hasB l j || decide (j = k)) = hasB (metK l k) j := by
  rw [Bool.eq_iff_iff, Bool.or_eq_true, hasB_iff, hasB_iff, decide_eq_true_eq]
  unfold metK
  by_cases h : hasB l k = true
  · rw [if_pos h]
    exact ⟨fun z => z.elim id fun e => e ▸ hasB_iff.mp h, .inl⟩
  · rw [if_neg h, List.mem_append, List.mem_singleton]
theorem metK_len (l : List Key) (k : Key) : (if hasB l k = true then l.length else l.length + 1) = (metK l k).length := by
  unfold metK
  by_cases h : hasB l k = true
  · rw [if_pos h, if_pos h]
  · rw [if_neg h, if_neg h, List.length_append, List.length_singleton]
theorem metK_le (l : List Key) (k : Key) : (metK l k).length ≤ l.length + 1 := by
  rw [← metK_len]
  split <;> omega
section
variable {P : Program} {w : World} {A : Around} {R : Result → Shared → Prop} {it : Addr} {fp wr : List Addr} {G : Array GenState → Array GenState → Prop} {n : Nat} {Pv : Nat → Value → Prop} {St : Nat → Shared → Prop}
/-- the set at a holds the keys l -/
def HoldsK (P : Program) (w : World) (h : Heap) (a : Addr) (l : List Key) : Prop := h.SetOf (mixKind P w) a (hasB l) l.length
theorem HoldsK.keep {h h' : Heap} {a : Addr} {l : List Key} (x : HoldsK P w h a l) (k : ∀ o, h.get? a = some o → h'.get? a = some o) : HoldsK P w h' a l := setOf_at x k
theorem HoldsK.more {h : Heap} {a : Addr} {l : List Key} {k : Key} (x : h.SetOf (mixKind P w) a (fun j => hasB l j || decide (j = k)) (if hasB l k = true then l.length else l.length + 1)) : HoldsK P w h a (metK l k) := by
  unfold HoldsK
  rw [metK_len] at x
  rwa [show (fun j => hasB l j || decide (j = k)) = hasB (metK l k) from funext fun j => metK_has l k j] at x
theorem upd_go (W : WalksS P w A.in1 it fp wr G n Pv St) (a : Addr) (out : a ∉ fp) (room : n + 1 < scanBound) :
    ∀ (r : List Key) (i : Nat) (l : List Key) (s : Shared), r.length + i = n → l.length ≤ i →
      (∀ (m : Nat) (k : Key) v, r[m]? = some k → Pv (i + m) v → RelV (kV k) v) → St i s → HoldsK P w s.heap a l →
      (∀ s', Moved (a :: wr) G s s' → HoldsK P w s'.heap a (r.foldl metK l) → R (.ok (.ret .none)) s') →
      codeAny (model P w) A (.builtin "set.update.loop" ⟨[.ref a, .ref it], []⟩) R s
  | [], i, l, s, hn, _, _, st, hS, fin => by
    obtain rfl : i = n := by simpa using hn
    refine codeAny_builtin PyProof.Rows.F.entry_set_update_loop ?_
    rw [Around.under_plainId PyProof.Rows.F.plain_set_update_loop _]
    change wpAny (model P w) A.in1 (pyNext (.ref it) >>= _) _ _ s
    exact wpAny_bind (W.done s _ _ st fun t mv => wpAny_pure (fin t (mv.mono fun b m => .tail _ m) (hS.keep fun o e => mv.heap a o (fun m => out (W.sub a m)) e)))
  | k :: r, i, l, s, hn, hl, hv, st, hS, fin => by
    have lt : i < n := by rw [List.length_cons] at hn; omega
    refine codeAny_builtin PyProof.Rows.F.entry_set_update_loop ?_
    rw [Around.under_plainId PyProof.Rows.F.plain_set_update_loop _]
    change wpAny (model P w) A.in1 (pyNext (.ref it) >>= _) _ _ s
    refine wpAny_bind (W.item i s _ _ lt st fun v t pv st' mv => ?_)
    have rv : RelV (kV k) v := hv 0 k v rfl pv
    have hS' : HoldsK P w t.heap a l := hS.keep fun o e => mv.heap a o (fun m => out (W.sub a m)) e
    change wpAny (model P w) A.in1 (holding [v] (setAdd a v) >>= _) _ _ t
    refine wpAny_bind (wpAny_holding (wpAny_holding (wpAny_bind ((mixKind P w).pyHash (k := k) (kV_is rv) ?_))))
    have rm : l.length + 1 < scanBound := by omega
    refine wpAny_setAddHashed_of (kV_is rv) (key_scan rv) (s := { t with toks := t.toks + 1 }) hS' rm fun h' sb new => ?_
    have eq : ∀ b, b ≠ a → ∀ o, t.heap.get? b = some o → h'.get? b = some o := fun b ne o e => (sb.2 b ne).trans e
    refine wpAny_pure ⟨plainId_quiet PyProof.Rows.F.plain_set_update_loop _, upd_go W a out room r (i + 1) (metK l k) _ (by rw [List.length_cons] at hn; omega) (Nat.le_trans (metK_le l k) (by omega)) (fun m j u q => ?_)
      (W.frame _ t _ _ st' (Nat.le_succ _) fun b m o e => eq b (fun z => out (z ▸ m)) o e) (HoldsK.more new) fun u mv2 hS2 => ?_⟩
    · have := hv (m + 1) j u (by simpa using q)
      rwa [show i + 1 + m = i + (m + 1) by omega]
    · exact fin u (Moved.trans W.gtrans ((mv.mono fun b m => .tail _ m).then_heap (Nat.le_succ _) fun b o nb e => eq b (fun z => nb (z ▸ List.mem_cons_self)) o e) mv2) hS2
end
/-- a set just made -/
def eset (led : Bool) : Obj := { cls := .type "set", dict := none, data := .set #[] 0 (.fresh 0 0 led) }
theorem eset_at {P : Program} {w : World} {h : Heap} {a : Addr} {led : Bool} (e : h.get? a = some (eset led)) : HoldsK P w h a [] :=
  ⟨_, #[], 0, _, e, ⟨rfl, rfl, rfl⟩, rfl, (fun x hx => by simp at hx), (fun k => by simp [hasB]), (by decide), (by rfl), rfl⟩
section
variable {P : Program} {w : World} {A : Around} {E : Value → Shared → Prop} {s : Shared}
/-- what set.__init__ leaves behind -/
def InitOk (P : Program) (w : World) (s : Shared) (h0 : Heap) (ks : List Key) (r : Value) (s2 : Shared) : Prop :=
  r = .none ∧ ∃ h' tk, s2 = { s with heap := h', toks := tk } ∧ HoldsK P w h' h0.objs.size (ks.foldl metK []) ∧ ∀ b o, h0.get? b = some o → h'.get? b = some o
theorem call_setK {l : Addr} {items : List Value} {ks : List Key} {Q : Value → Shared → Prop} (calm : A.handled = none) (hl : s.heap.IsList l items.toArray) (hv : Vals (ks.map kV) items) (room : ks.length + 1 < scanBound)
    (k : ∀ h' tk, HoldsK P w h' s.heap.objs.size (ks.foldl metK []) → (∀ b o, s.heap.get? b = some o → h'.get? b = some o) → Q (.ref s.heap.objs.size) { s with heap := h', toks := tk }) :
    wpAny (model P w) A (call (.type "set") [.ref l]) Q E s := by
  obtain ⟨c, tl, mro⟩ := PySem.F.called_set.mro
  have m1 := PySem.F.called_set.made
  have m2 := PySem.F.called_set.sub
  have m3 := PySem.F.called_set.notType
  have m4 := PySem.F.called_set.canCreate
  have m5 := PySem.F.typeCall_set_1 (.ref l)
  refine wpAny_call (codeAny_of_tree ?_)
  change wpAny _ _ (callAny (.type "set") _) _ _ _
  refine wpAny_pure ⟨Code.quiet_builtin _ (by decide +kernel), codeAny_builtin PySem.F.entry_type_call ?_⟩
  rw [Around.under_plain (weight_type_call_type "set" [.ref l] []) rfl]
  repeat (any_goals first | assumption | wp_step)
  refine codeAny_mono (code_set_new_1 (E := E) (.ref l) (Q₁ := fun x t => ∃ led, x = .ref s.heap.objs.size ∧ t = { s with heap := s.heap.push (eset led) }) fun led => ⟨led, rfl, rfl⟩) fun r t hr => ?_
  match r, hr with
  | .error e, hr => exact hr
  | .ok (.ret x), ⟨led, ex, et⟩ =>
    subst ex et
    have new : (s.heap.push (eset led)).get? s.heap.objs.size = some (eset led) := Heap.get?_push_size _ rfl
    have ty : Shared.TypeIs { s with heap := s.heap.push (eset led) } (.ref s.heap.objs.size) "set" := ⟨_, new, rfl⟩
    have i1 := PySem.F.called_set.init.lookup
    have i2 := PySem.F.called_set.init.bind (.ref s.heap.objs.size)
    repeat (any_goals first | assumption | wp_step)
    refine codeAny_mono (codeAny_call_builtin (R := wants (InitOk P w s s.heap ks) E) PySem.F.called_set.init.plain PySem.F.entry_set_init (check_set_init_1 ty ?_)) fun r2 t2 hr2 => ?_
    · obtain ⟨⟨cl, dd, dt, sl⟩, ol, hc, nl, hd⟩ := hl
      simp only at hc hd
      subst hc hd
      have far : ∀ b o, s.heap.get? b = some o → (s.heap.push (eset led)).get? b = some o := fun b o e => Heap.get?_push_of_some _ e
      have ol2 := far l _ ol
      have q1 := PySem.F.sub_list_set
      have q2 := PySem.F.sub_list_frozenset
      have q3 : (Value.type "list" == Value.type "dict") = false := by decide
      have isl : (s.heap.push (eset led)).IsList l items.toArray := ⟨_, ol2, rfl, nl, rfl⟩
      unfold Builtin.«set.__init__» noKeywords Builtin.Frozenset.updateFrom
      generalize gi : pyIter = iter
      wp_walk
      subst gi
      refine wpAny_pyIter_list isl (wpAny_bind (wpAny_runValue ?_))
      have low : l < s.heap.objs.size := Heap.lt_size ol
      have sz : (s.heap.push (eset led)).objs.size = s.heap.objs.size + 1 := Heap.size_push _ _
      have n1 : l ≠ (s.heap.push (eset led)).objs.size := by rw [sz]; exact Nat.ne_of_lt (Nat.lt_succ_of_lt low)
      have n2 : s.heap.objs.size ∉ [(s.heap.push (eset led)).objs.size, l] := by
        simp only [List.mem_cons, List.not_mem_nil, or_false, not_or]
        exact ⟨by rw [sz]; exact Nat.ne_of_lt (Nat.lt_succ_self _), Nat.ne_of_gt low⟩
      have len : items.toArray.size = ks.length := by rw [List.size_toArray, ← hv.length, List.length_map]
      refine upd_go (P := P) (Walks.list (by simp [calm]) _ l n1 items.toArray).toS s.heap.objs.size n2 (by rw [len]; exact room) ks 0 [] _ len.symm (Nat.le_refl _) (fun m k v hk hq => ?_) ⟨⟨_, Heap.get?_push_size _ rfl, rfl, rfl⟩, isl.push _⟩ (eset_at (Heap.get?_push_of_some _ new)) fun t mv hS => ?_
      · obtain ⟨v2, e2, r2⟩ := hv.get (i := m) (x := kV k) (by rw [List.getElem?_map, hk]; rfl)
        rw [Nat.zero_add, List.getElem?_toArray, e2] at hq
        cases hq
        exact r2
      · obtain ⟨h', g', d', tk, os⟩ := t
        have e1 : g' = s.gens := mv.gens
        have e2 : d' = s.drawn := mv.drawn
        have e3 : os = s.os := mv.os
        subst e1 e2 e3
        change wpAny _ _ _ _ _ _
        refine wpAny_pure (wpAny_pure ⟨rfl, h', tk, rfl, hS, fun b o e => ?_⟩)
        have lb := Heap.lt_size e
        refine mv.heap b o ?_ (Heap.get?_push_of_some _ (far b o e))
        simp only [List.mem_cons, List.not_mem_nil, or_false, not_or]
        exact ⟨Nat.ne_of_lt lb, by rw [sz]; exact Nat.ne_of_lt (Nat.lt_succ_of_lt lb)⟩
    · match r2, hr2 with
      | .error e, hr2 => exact hr2
      | .ok (.ret x), ⟨ex, h', tk, et, hS, hk⟩ =>
        subst ex et
        repeat (any_goals first | assumption | wp_step)
        exact k _ _ hS hk
end
/-- set(xs) -/
def rSetK (K : PySem.W.Frag) (P : Program) (w : World) : List V → Hp → VK → Prop := fun xs H Q => ∃ (l : Addr) (ks : List Key), xs = [.ref l] ∧ SqL K H l (ks.map kV) ∧ ks.length ≤ 4000 ∧
  ∀ p, H p = none → Q (.ref p) (upd H p (SetK P w p (hasB (ks.foldl metK [])) (ks.foldl metK []).length))
theorem cr_setK {X : Cx} (hc : X.calm = true) : CallR X (.type "set") (rSetK X.K X.prog X.w) := by
  intro pins s σ H xs us Q I r h
  obtain ⟨l, ks, rfl, hq, hn, q⟩ := h
  rw [Vals.ref1 r]
  obtain ⟨its, rv, pl, hz⟩ := I.list hq
  have b : scanBound = 4096 := rfl
  refine call_setK (I.ok.hd hc) pl.isList rv (by omega) fun h' tk hS keep => ?_
  exact ⟨.ref s.heap.objs.size, _, I.laid (t' := tk) (fun b u e => keep b u e) (Nat.le_refl _) (setK_new hS), rfl, q _ (I.hok.fresh (Nat.le_refl _))⟩
end L2
namespace PD
open PySem PySem.Spec PyProof.Rows L2
theorem ded_met : ∀ (zs acc : List (List Nat)), (zs.map keyS).foldl metK (acc.map keyS) = (ded acc zs).map keyS
  | [], acc => rfl
  | z :: zs, acc => by
    have e : metK (acc.map keyS) (keyS z) = (if z ∈ acc then acc else acc ++ [z]).map keyS := by
      unfold metK
      by_cases h : z ∈ acc
      · rw [if_pos h, if_pos (hasB_iff.mpr (List.mem_map.mpr ⟨z, h, rfl⟩))]
      · rw [if_neg h, if_neg fun m => ?_, List.map_append]
        · rfl
        · obtain ⟨y, my, q⟩ := List.mem_map.mp (hasB_iff.mp m)
          exact h (keyS_inj q ▸ my)
    show (zs.map keyS).foldl metK (metK (acc.map keyS) (keyS z)) = _
    rw [e]
    exact ded_met zs _
def dLenSet : List D → Option D
  | [.lst xs] => match strsOf xs with
    | some zs => if zs.length ≤ 4000 then some (.int ((ded [] zs).length : Nat)) else none
    | none => none
  | _ => none
def rLenSet (K : PySem.W.Frag) (P : Program) (w : World) : List V → Hp → VK → Prop := fun xs H Q => rSetK K P w xs H fun v H1 => ∃ (a : Addr) (S : Key → Bool) (n : Nat), [v] = [.ref a] ∧ H1 a = some (SetK P w a S n) ∧ Q (.int (n : Nat)) H1
section
variable {X : Cx} {L : LE} {fl : List Sh} {W : WX} {pos : Pos} {bw bw2 : Bool}
theorem cd_lenSet (hK : X.K = L.K) : CallD L (rLenSet X.K X.prog X.w) bw (.d bw2) dLenSet := fun F H vs ds d s nt hx e Q q => by
  unfold dLenSet at e
  split at e
  · rename_i xs
    split at e
    · rename_i zs qz
      split at e <;> cases e
      rename_i hl
      obtain ⟨v, rfl, h⟩ := datL1 hx
      obtain ⟨a, ws, rfl, h1, h2⟩ := dat_sq h
      have e1 := strs_V h2 qz
      have e2 : (zs.map keyS).map kV = ws := by
        rw [e1, List.map_map, List.map_map]
        rfl
      refine ⟨a, zs.map keyS, rfl, by rw [hK, e2]; exact sm_l (cond_sm s) (SqL.of h1), by simpa using hl, fun p hp => ⟨p, _, _, rfl, upd_same, ?_⟩⟩
      have e3 := ded_met zs []
      rw [List.map_nil] at e3
      rw [e3, List.length_map]
      exact q _ F _ [] (Ext.newH s nt hp) (.d .int) List.nodup_nil fun a m => nomatch m
    · cases e
  · cases e
theorem pe_lenSetK {e : Expr} {t : TA} {p p2 q : Pos} (hl : X.mg "len" = none) (hs : X.mg "set" = none) (ha : PA X [e] t) (hc : X.calm = true) (gl : Gl X "len") (gs : Gl X "set")
    (he : starEach [e] X.env = (false, eval e X.env) :: starEach [] X.env) (he2 : starEach [.Call (.Name "set" p2) [e] [] q] X.env = (false, eval (.Call (.Name "set" p2) [e] [] q) X.env) :: starEach [] X.env)
    (hp : (backTo pos (starEach [] X.env)).any (·.1) = false) (hp2 : (backTo q (starEach [] X.env)).any (·.1) = false) :
    PE X (.Call (.Name "len" p) [.Call (.Name "set" p2) [e] [] q] [] pos) (tCB (rLenSet X.K X.prog X.w) t) :=
  (pe_callB call_lenK gl hl PySem.boot_len (pa_cons (pe_callTy (cr_setK hc) gs hs PyProof.Rows.boot_set ha (he := he) (hpl := hp2)) pa_nil he2) (he := he2) (hpl := hp)).imp fun σ H Q h => h
theorem e_lenSet {e : Expr} {p p2 q : Pos} {fs : Env → R (List D)} (hK : X.K = L.K) (hl : X.mg "len" = none) (hs : X.mg "set" = none) (ha : PA X [e] (tA L fl bw W fs)) (hc : X.calm = true := by rfl) (gl : Gl X "len" := by rfl) (gs : Gl X "set" := by rfl)
    (he : starEach [e] X.env = (false, eval e X.env) :: starEach [] X.env := by rfl) (he2 : starEach [.Call (.Name "set" p2) [e] [] q] X.env = (false, eval (.Call (.Name "set" p2) [e] [] q) X.env) :: starEach [] X.env := by rfl)
    (hp : (backTo pos (starEach [] X.env)).any (·.1) = false := by rfl) (hp2 : (backTo q (starEach [] X.env)).any (·.1) = false := by rfl) :
    PE X (.Call (.Name "len" p) [.Call (.Name "set" p2) [e] [] q] [] pos) (tD L fl (.d bw2) W (mN dLenSet fs)) :=
  (pe_lenSetK hl hs ha hc gl gs he he2 hp hp2).imp fun _ _ _ h => t_call (cd_lenSet hK) h
end
end PD
set_option Elab.async false
set_option linter.all false
set_option maxRecDepth 100000
set_option maxHeartbeats 1000000
/-! # x.pop(e) as a statement -/
namespace PD
open PySem PySem.Spec PyProof.Rows L2
def sPopAt (i : Nat) (f : Env → R D) : Env → R Fl := fun ρ => match getL ρ i with
  | none => .stuck
  | some xs => liftE (f ρ) ρ fun d => match d with
    | .int k => if 0 ≤ k ∧ k.toNat < xs.length ∧ xs.length ≤ LN then .ok (.nx (ρ.set i (some (.lst (xs.eraseIdx k.toNat))))) else .stuck
    | _ => .stuck
theorem DatL.erase {K : PySem.W.Frag} {F : Hp} : ∀ {vs : List V} {ds : List D} (n : Nat), DatL K F vs ds → DatL K F (vs.eraseIdx n) (ds.eraseIdx n)
  | _, _, _, .nil => .nil
  | _, _, 0, .cons h r => r
  | _, _, n + 1, .cons h r => .cons h (DatL.erase n r)
section
variable {X : Cx} {L : LE} {J : Jn} {fl fl1 : List Sh} {W : WX} {pos : Pos} {bw : Bool}
theorem s_popAt (i : Nat) {x : Str} {e : Expr} {f : Env → R D} {xp apos cpos : Pos} (he : PE X e (tD L fl (.d bw) W f)) (hs : fl[i]? = some (.l .s) := by rfl) (hN : X.N[i]? = some x := by rfl) (hv : Vis X.env.scope x := by first | exact Or.inl rfl | exact Or.inr (Or.inl rfl) | exact Or.inr (Or.inr rfl)) (hd : (x == ("__debug__" : Str)) = false := by decide)
    (hcd : (x == ("__classdict__" : Str)) = false := by decide) (hbase : attributeBase (.Name x xp) "pop" X.env (eval (.Name x xp) X.env) = eval (.Name x xp) X.env := by rfl)
    (hfew : ((backTo cpos (starEach [e] X.env)).all (fun x => !x.1) && (backToKw cpos (keywordEach [] X.env)).all (fun x => x.1.isSome) && decide (([e] : List Expr).length + ([] : List Keyword).length + (if ([] : List Keyword).isEmpty then 0 else 1) < 30)) = true := by rfl)
    (hline : (apos.endLine == cpos.line) = true := by rfl) (hse : starEach [e] X.env = (false, eval e X.env) :: starEach [] X.env := by rfl) (hplain : (backTo cpos (starEach [] X.env)).any (·.1) = false := by rfl)
    (hsw : swapsWith (.Call (.Attribute (.Name x xp) "pop" apos) [e] [] cpos) none pos.line X.env = pure false := by rfl) :
    PS X (.Expr (.Call (.Attribute (.Name x xp) "pop" apos) [e] [] cpos) pos) (tS L J fl fl W (sPopAt i f)) :=
  (ps_expr (pe_bm PySem.F.plainAttrs_list PySem.F.slot_list_pop PySem.F.type_list_pop mt_popAt (pv i hN hv hd hcd) (pa_cons he pa_nil hse) hbase hfew hline hse hplain) hsw).imp fun D σ H ⟨F, B, ρ, r, p⟩ => by
    unfold sPopAt at p
    cases q : getL ρ i with
    | none => rw [q] at p; exact p.elim
    | some xs =>
      rw [q] at p
      have hx := getL_some q
      obtain ⟨l, vs, S, a1, a2, a3, a4, a5, a6, a7, a8, go⟩ := r.mut hs hx
      obtain ⟨dvs, eS⟩ := OwnL.datS a3
      subst eS
      refine ⟨.ref l, a1, .inl ⟨rfl, _, SqL.of a2⟩, F, B, ρ, r, PostS.bindE r p fun d v F' H' S' _ e r' o nd fr p1 => ?_⟩
      cases d with
      | int k =>
        dsimp only at p1
        by_cases c : 0 ≤ k ∧ k.toNat < xs.length ∧ xs.length ≤ LN
        · rw [if_pos c] at p1
          have ev : v = .int k := by
            cases o with
            | d dv => cases dv; rfl
          subst ev
          have hlv := dvs.length
          obtain ⟨c1, c2, c3⟩ := c
          have LNe : LN = 1000000 := rfl
          have lt : k.toNat < vs.length := by omega
          refine ⟨l, vs, k, k.toNat, vs[k.toNat], rfl, rfl, e.hh l _ a2 rfl, by omega, by omega, PySem.StrLaws.seqIndex_nonneg c1 (by omega), List.getElem?_eq_getElem lt, ?_⟩
          exact p1 σ F' _ (.refl _) (go F' H' (vs.eraseIdx k.toNat) (xs.eraseIdx k.toNat) [] e (OwnL.ofDat ((dvs.mono e.ff.sm).erase _)) (by simp) List.nodup_nil (fun a m => nomatch m) (fun a m => nomatch m))
        · rw [if_neg c] at p1; exact p1.elim
      | _ => exact p1.elim
end
end PD
set_option Elab.async false
set_option linter.all false
set_option maxRecDepth 100000
set_option maxHeartbeats 1000000
/-! # min of texts -/
namespace L2
open PySem PySem.Spec PyProof.Rows
def minT : List Nat → List (List Nat) → List Nat
  | b, [] => b
  | b, y :: r => minT (if y < b then y else b) r
theorem minT_snoc (y : List Nat) : ∀ (l : List (List Nat)) (b : List Nat), minT b (l ++ [y]) = if y < minT b l then y else minT b l
  | [], b => rfl
  | z :: l, b => minT_snoc y l _
theorem argBest_min (val : Nat → List Nat) : ∀ k, val (argBest (fun i j => decide (val i < val j)) k) = minT (val 0) ((List.range' 1 k).map val)
  | 0 => rfl
  | k + 1 => by
    have ih := argBest_min val k
    rw [List.range'_concat, List.map_append, List.map_cons, List.map_nil, minT_snoc, ← ih]
    show val (if decide _ = true then _ else _) = _
    rw [Nat.one_mul, Nat.add_comm 1 k]
    by_cases h : val (k + 1) < val (argBest (fun i j => decide (val i < val j)) k)
    · rw [if_pos (decide_eq_true h), if_pos h]
    · rw [if_neg (by rw [decide_eq_false h]; exact Bool.false_ne_true), if_neg h]
section
variable {P : Program} {w : World} {A : Around} {E : Value → Shared → Prop} {s : Shared}
theorem min_txts {l : Addr} {its : Array Value} {zs : List (List Nat)} {Q : Value → Shared → Prop} (hh : A.handled = none) (hl : s.heap.IsList l its) (hv : Vals (zs.map fun z => V.str ⟨z.toArray⟩) its.toList) (hne : 0 < zs.length)
    (h : ∀ h' tk t, (∀ b o, s.heap.get? b = some o → h'.get? b = some o) → Q (.str ⟨(minT (zs.getD 0 []) zs.tail).toArray⟩ t) { s with heap := h', toks := tk }) :
    wpAny (model P w) A (call (.builtin "min") [.ref l]) Q E s := by
  have hsz : its.size = zs.length := by rw [← Array.length_toList, ← hv.length, List.length_map]
  have at_ : ∀ (i : Nat) (v : Value), its[i]? = some v → ∃ t, v = Value.str ⟨(zs.getD i []).toArray⟩ t := fun i v e => by
    have lt : i < zs.length := by rw [← hsz]; exact (Array.getElem?_eq_some_iff.mp e).1
    obtain ⟨u, hu, r⟩ := hv.get (i := i) (x := V.str ⟨(zs.getD i []).toArray⟩) (by
      rw [List.getElem?_map, List.getD_eq_getElem?_getD, List.getElem?_eq_getElem lt]; rfl)
    rw [Array.getElem?_toList, e] at hu
    cases hu
    exact r
  have cmp : CmpOf P w A.in1 .Lt (fun i v => its[i]? = some v) (fun i j => decide (zs.getD i [] < zs.getD j [])) := fun i j vi vj s' Q' E' hi hj hQ => by
    obtain ⟨ti, rfl⟩ := at_ i vi hi
    obtain ⟨tj, rfl⟩ := at_ j vj hj
    exact DT.rcLt_str _ _ _ _ _ _ _ _ _ _ hQ
  refine call_min_walk (iter_anyList hl fun s2 e st hfp ne => ?_)
  subst e
  refine ⟨_, _, _, _, _, _, _, rfl, Walks.list (A := A.in1) hh _ l ne its, st, hfp, by omega, cmp, fun v h' tk hP hk => ?_⟩
  obtain ⟨t, rfl⟩ := at_ _ v hP
  have e := argBest_min (fun i => zs.getD i []) (its.size - 1)
  have e2 : (List.range' 1 (its.size - 1)).map (fun i => zs.getD i []) = zs.tail := by
    rw [hsz]
    refine List.ext_getElem (by rw [List.length_map, List.length_range', List.length_tail]) fun i h1 h2 => ?_
    rw [List.length_map, List.length_range'] at h1
    rw [List.getElem_map, List.getElem_range', List.getElem_tail, List.getD_eq_getElem?_getD, Nat.one_mul, Nat.add_comm 1 i, List.getElem?_eq_getElem (by omega)]
    rfl
  rw [e2] at e
  rw [e]
  exact h h' tk t (old_kept hk)
end
def rMinT (K : PySem.W.Frag) : List V → Hp → VK → Prop := fun vs H Q => ∃ (a : Addr) (zs : List (List Nat)), vs = [V.ref a] ∧ SqL K H a (zs.map fun z => V.str ⟨z.toArray⟩) ∧ 0 < zs.length ∧ Q (.str ⟨(minT (zs.getD 0 []) zs.tail).toArray⟩) H
theorem cr_minT {X : Cx} (hc : X.calm = true) : CallR X (.builtin "min") (rMinT X.K) := by
  intro pins s σ H vs us Q I r h
  obtain ⟨a, zs, rfl, hs, hne, q⟩ := h
  obtain ⟨its, rv, hl, _⟩ := I.list hs
  rw [Vals.ref1 r]
  exact min_txts (I.ok.hd hc) hl.isList rv hne fun h' tk t hk => ⟨.str _, H, I.kept hk, ⟨_, rfl⟩, q⟩
end L2
namespace PD
open PySem PySem.Spec PyProof.Rows L2
def dMinT : List D → Option D
  | [.lst xs] => match strsOf xs with
    | some (z :: zs) => some (.str (minT z zs))
    | _ => none
  | _ => none
/-! keys that are told false, of a slot's own dict -/
def keyD : DKey → D
  | .i n => .int n
  | .s t => .str t
def notKeys (ks : List DKey) (vs : List D) : List DKey → Option (List D)
  | [] => some []
  | k :: r => match dgetV ks vs k with
    | some (.bl b) => (notKeys ks vs r).map fun q => if b = true then q else keyD k :: q
    | _ => none
def sKeysNot (j i : Nat) : Env → R Fl := fun ρ => match getQ ρ i with
  | some (ks, vs) => if ks.length ≤ LN then match notKeys ks vs ks with
    | some xs => .ok (.nx (ρ.set j (some (.lst xs))))
    | none => .stuck
    else .stuck
  | none => .stuck
section
variable {X : Cx} {L : LE} {J : Jn} {fl fl1 : List Sh} {W : WX} {pos : Pos} {bw bw2 : Bool}
theorem cd_minT (hK : X.K = L.K) : CallD L (rMinT X.K) bw (.d bw2) dMinT := callD_pure fun F H vs ds d s hx e => by
  unfold dMinT at e
  split at e
  · rename_i xs
    split at e
    · rename_i z zs q
      cases e
      obtain ⟨v, rfl, h⟩ := datL1 hx
      obtain ⟨a, ws, rfl, h1, h2⟩ := dat_sq h
      have e1 := strs_V h2 q
      rw [List.map_map] at e1
      exact ⟨_, fun _ => .str, fun Q k => ⟨a, z :: zs, rfl, by rw [hK]; exact e1 ▸ sm_l (cond_sm s) (SqL.of h1), Nat.succ_pos _, k⟩⟩
    · cases e
  · cases e
theorem keyD_dat {K : PySem.W.Frag} {F : Hp} (k : DKey) : Dat K F (kV k.k) (keyD k) := by
  cases k with
  | i n => exact .int
  | s t => exact .str
theorem wipe_one (σ : L2.St) (v : Nat) (x : V) : wipe ((wipe σ [v]).set v (some x)) [v] = wipe σ [v] := by
  show ((σ.set v none).set v (some x)).set v none = σ.set v none
  rw [List.set_set, List.set_set]
theorem s_keysNot (j i v : Nat) {d x y : Str} {p1 p2 p3 p4 p5 p6 p7 spos : Pos} {scope : Scope} {k : Nat} (hr : Room k X.A) (hN : X.N.Nodup) (hsi : fl[i]? = some .q := by rfl) (hnv : (v == i) = false := by rfl)
    (hd1 : X.N[i]? = some d := by rfl) (hx1 : X.N[v]? = some x := by rfl) (hy1 : X.N[j]? = some y := by rfl) (hyl : X.env.scope.names.lookup y = some .local := by rfl)
    (hvd : Vis X.env.scope d := by first | exact Or.inl rfl | exact Or.inr (Or.inl rfl) | exact Or.inr (Or.inr rfl)) (dbd : (d == ("__debug__" : Str)) = false := by decide) (cdd : (d == ("__classdict__" : Str)) = false := by decide)
    (dbx : (x == ("__debug__" : Str)) = false := by decide) (cdx : (x == ("__classdict__" : Str)) = false := by decide)
    (ok : blkC X.N X.env.scope scope [(x, v)] = true) (hxl : Loc (relabel scope X.env) x := by first | exact Or.inl rfl | exact Or.inr rfl) (hxv : Vis (relabel scope X.env) x := by first | exact Or.inl rfl | exact Or.inr (Or.inl rfl) | exact Or.inr (Or.inr rfl)) (hdv : Vis (relabel scope X.env) d := by first | exact Or.inl rfl | exact Or.inr (Or.inl rfl) | exact Or.inr (Or.inr rfl)) (hxf : (relabel scope X.env).names.lookup x = some .local := by rfl)
    (hsw : swapsWith (.ListComp (.Name x p1) [⟨.Name x p2, .Name d p3, [.UnaryOp .Not (.Subscript (.Name d p4) (.Name x p5) p6) p7], 0⟩] scope pos) (some (.Name y p1')) spos.line X.env = pure true)
    (hf' : fl.set j .s = fl1 := by rfl) (hc : X.calm = true := by rfl) (hs : ∀ z, foldedSetIterable (.Name d p3) X.env z = pure z := by intro _; rfl) (hlv : fl[v]? = some .s := by rfl) :
    PS X (.Assign [.Name y p1'] (.ListComp (.Name x p1) [⟨.Name x p2, .Name d p3, [.UnaryOp .Not (.Subscript (.Name d p4) (.Name x p5) p6) p7], 0⟩] scope pos) spos) (tS L J fl fl1 W (sKeysNot j i)) := by
  have B := blkOk_by ok
  refine (ps_lock (ps_setLc (own := [(x, v)]) hc hN hy1 hyl hsw (pi_keys (pe_var hd1 hvd dbd cdd)) B
    (fun s H C cl fp => pg_name hN hx1 hxl (.inr hxf)) (fun s H C cl fp => pts_one (pt_not (pt_val (pe_dget (hu_of hr) (pe_var hd1 hdv dbd cdd) (pe_var hx1 hxv dbx cdx) fun _ _ => rfl))))
    (fun s H C cl fp => pe_var hx1 hxv dbx cdx) hs)).imp fun D σ H ⟨F, Bb, ρ, r, p⟩ => ?_
  unfold sKeysNot at p
  cases q : getQ ρ i with
  | none => rw [q] at p; exact p.elim
  | some kv =>
    obtain ⟨ks, vs⟩ := kv
    rw [q] at p
    dsimp only at p
    by_cases hl : ks.length ≤ LN
    · rw [if_pos hl] at p
      cases qn : notKeys ks vs ks with
      | none => rw [qn] at p; exact p.elim
      | some xs =>
        rw [qn] at p
        dsimp only at p
        obtain ⟨p0, us, a1, a2, a3, a4⟩ := r.dict q hsi
        have hne : v ≠ i := by simpa using hnv
        have hvl : v < σ.length := by rw [r.ls]; exact (List.getElem?_eq_some_iff.mp hlv).1
        obtain ⟨kvs, ek⟩ : ∃ kvs, kvs = (ks.map DKey.k).zip us := ⟨_, rfl⟩
        have kl : kvs.length = ks.length := by rw [ek, List.length_zip, List.length_map]; omega
        rw [← ek] at a2
        refine ⟨p0, .dK kvs, a2, trivial, fun od => ⟨.ref p0, a1, p0, od, rfl, .inl ⟨kvs, upd_same, fun Dl hD => ?_⟩⟩⟩
        have ne : Dl ≠ p0 := fun z => by rw [z, upd_same] at hD; cases hD
        have hHD : H Dl = none := by rwa [upd_ne ne] at hD
        have hG : ∀ acc : List V, upd (upd H p0 (.frz od (.dK kvs))) Dl (.lst acc) p0 = some (.frz od (.dK kvs)) := fun acc => by rw [upd_ne ne.symm, upd_same]
        let Nx : Nat → Hp → Prop := fun n G => ∃ accD acc rest, G = upd (upd H p0 (.frz od (.dK kvs))) Dl (.lst acc) ∧ DatL L.K F acc accD ∧ notKeys ks vs (ks.drop n) = some rest ∧ xs = accD ++ rest ∧ acc.length ≤ n
        refine ⟨fun n m G => m = ks.length - n ∧ n ≤ ks.length ∧ Nx n G, ⟨ks.length, by omega, Nat.zero_le _, [], [], xs, rfl, .nil, qn, rfl, Nat.le_refl _⟩, fun n m G w => ?_⟩
        obtain ⟨hm, hn, accD, acc, rest, eG, dacc, en, ex, la⟩ := w
        subst eG
        by_cases c : n < ks.length
        · refine .inr ⟨⟨hG acc, by omega⟩, Nx (n + 1), fun G' h => ⟨ks.length - (n + 1), by omega, rfl, c, h⟩, fun z G' hy => ?_⟩
          obtain ⟨rfl, kk, vv, e1, rfl⟩ := hy
          have e2 : kk = (ks[n]).k := by
            rw [ek, List.getElem?_zip_eq_some] at e1
            have := e1.1
            rw [List.getElem?_map, List.getElem?_eq_getElem c] at this
            exact (Option.some.inj this).symm
          subst e2
          rw [List.drop_eq_getElem_cons c] at en
          unfold notKeys at en
          split at en
          · rename_i b qd
            obtain ⟨val, g1, g2⟩ := (dget_dat (f := DKey.k) (fun a b => DKey.k_inj) (k := ks[n]) (ks := ks) a4).1 _ qd
            cases g2
            rw [← ek] at g1
            have sv : ((wipe σ [v]).set v (some (kV (ks[n]).k)))[v]? = some (some (kV (ks[n]).k)) := List.getElem?_set_self (by rw [wipe_length]; exact hvl)
            have si : ((wipe σ [v]).set v (some (kV (ks[n]).k)))[i]? = some (some (.ref p0)) := by
              show ((σ.set v none).set v _)[i]? = _
              rw [List.set_set, List.getElem?_set_ne hne]
              exact a1
            cases qr : notKeys ks vs (ks.drop (n + 1)) with
            | none => rw [qr] at en; cases en
            | some rest' =>
              rw [qr] at en
              have en := Option.some.inj en
              have dg : DGet (upd (upd H p0 (.frz od (.dK kvs))) Dl (.lst acc)) p0 (kV (ks[n]).k) (some (.bl b)) := .inl ⟨kvs, _, .inr ⟨od, hG acc⟩, rfl, g1.symm⟩
              refine ⟨wipe_one σ v _, .ref p0, si, _, sv, p0, .bl b, rfl, dg, b, rfl, ?_⟩
              cases b with
              | true => exact ⟨accD, acc, rest', rfl, dacc, qr, by rw [ex, ← en]; rfl, by omega⟩
              | false =>
                refine ⟨_, sv, acc, upd_same, ?_, accD ++ [keyD ks[n]], acc ++ [kV (ks[n]).k], rest', ?_, dacc.append (.cons (keyD_dat _) .nil), qr, ?_, ?_⟩
                · exact lt_line (by omega)
                · funext a
                  by_cases z : a = Dl
                  · rw [z, upd_same, upd_same]
                  · rw [upd_ne z, upd_ne z, upd_ne z]
                · rw [ex, ← en, List.append_assoc]; rfl
                · rw [List.length_append, List.length_singleton]; omega
          · cases en
        · have e : n = ks.length := by omega
          subst e
          rw [List.drop_length] at en
          cases en
          rw [List.append_nil] at ex
          subst ex
          refine .inl ⟨⟨hG acc, by omega⟩, hG acc, ?_⟩
          have eH : upd (upd (upd H p0 (.frz od (.dK kvs))) Dl (.lst acc)) p0 (.dK kvs) = upd H Dl (.lst acc) := by
            funext a
            by_cases z : a = p0
            · rw [z, upd_same, upd_ne ne.symm, a2]
            · by_cases z2 : a = Dl
              · rw [z2, upd_ne ne, upd_same, upd_same]
              · rw [upd_ne z, upd_ne z2, upd_ne z, upd_ne z2]
          rw [eH]
          have ext := Ext.newF (T := L.T) r.bs.fh r.bs.nf hHD (o := .lst acc) rfl
          subst hf'
          exact p _ _ _ ext.ff (r.setE (i := j) ext (.d (bw := false) (.lst upd_same (dacc.mono ext.ff.sm))) rfl List.nodup_nil fun a m => nomatch m)
    · rw [if_neg hl] at p; exact p.elim
end
end PD
set_option Elab.async false
set_option linter.all false
set_option maxRecDepth 100000
set_option maxHeartbeats 2000000
/-! # an error whose __init__ says super().__init__("..") and stores a field -/
namespace L2
open PySem PySem.Spec PyProof.Rows PySem.W PySem.Calls
section
variable {X : Cx} {pins : List (Addr × Obj)} {σ : L2.St} {H : Hp} {s : Shared} {A : Around} {E : Value → Shared → Prop}
/-- the bound __init__ of the base is called -/
theorem mw_call {a C u : Addr} {us : List Value} {Q : Value → Shared → Prop} (T : OexC X.K C) (I : Inv X pins σ H s) (e : H a = some (exo a C none)) (hu : s.heap.get? u = some (kxs_mw "ValueError.__init__" a)) (hl : us.length ≤ sizeLine) (h : ∀ s', Inv X pins σ H s' → Q .none s') :
    wpAny (model X.prog X.w) A (call (.ref u) us) Q E s := by
  obtain ⟨nm, q, N, bs, bm, sn, sub, ab, col, dd, k0, k1, k2, k3, k5, hC, hbm⟩ := T.cls
  obtain ⟨t1, ho⟩ := exo_at I.hok e
  obtain ⟨hp, g, d, t, os⟩ := s
  have hC' := I.kIn _ _ hC
  refine wpAny_call (codeAny_of_tree ?_)
  change wpAny _ A.in1 (callAny (.ref u) ⟨us, []⟩) _ _ _
  simp only [callAny]
  refine wpAny_bind (wpAny_load hu ?_)
  have m1 : (Value.type "method-wrapper" == Value.type "method" || Value.type "method-wrapper" == Value.type "builtin_function_or_method" || Value.type "method-wrapper" == Value.type "method-wrapper") = true := by decide
  simp only [kxs_mw, m1, if_true]
  refine KFB.if_so (by decide) (wpAny_bind (check_bound_init F.excBase_ValueError.toExcCallFacts hC' ho rfl (wpAny_bind (wpAny_pure (wpAny_pure ?_)))))
  refine ⟨plainId_quiet F.excBase_ValueError.init.plain _, codeAny_builtin F.excBase_ValueError.initEntry ?_⟩
  refine exc_init_tree (cls := .ref C) (t0 := t1) (dv := none) (c2 := .none) (c3 := .none) (b4 := .bool false) ho hl fun h' k hx _ => ?_
  have J := I.write (t' := t) (x := a) (e := a) (o := exo a C none) (by rw [e]; exact True.intro) (.inl rfl) k ⟨_, hx⟩ (exo_ok hx)
  have eu : upd H a (exo a C none) = H := funext fun b => by
    by_cases hb : b = a
    · rw [hb, upd_same, e]
    · rw [upd_ne hb]
  rw [eu] at J
  exact h _ J
end
/-- what C.__init__(self, v) does -/
def supSp (K : Frag) (D : Addr) (fld : Str) : Sp := fun vs H Q _ => ∃ (a : Addr) (v : V), vs = [.ref a, v] ∧ H a = some (exo a D none) ∧ ∀ dx, H dx = none → dx ≠ a → Q .non (upd (upd H dx (exd dx [(fld, v)])) a (exo a D (some dx)))
section
variable {P : Program} {w : World} {K : Frag} {mg : Str → Option Value} {base : Heap} {CX : CXT} {k j : Nat} {f D cc cda : Addr} {name qual fld txt : Str} {params : Arguments} {scope : Scope} {dV kV doc pm ct oc ccl cl : Value} {an od cdd cld : Option Addr} {osl ccs csl : Array (Option Value)} {ar : Arg} {vs : Array Value} {file : Str} {tf : Tok} {p0 p1 p2 p3 p4 p5 p6 p7 p8 p9 : Pos}
def supBody (fld txt : Str) (j : Nat) (p0 p1 p2 p3 p4 p5 p6 p7 p8 p9 : Pos) : List Stmt :=
  [.Expr (.Call (.Attribute (.Call (.Name "super" p0) [] [] p1) "__init__" p2) [.Constant (.str txt) j p3] [] p4) p5, .Assign [.Attribute (.Name "self" p6) fld p7] (.Name fld p8) p9]
theorem fn_sup (lk : K.lookup f = some ⟨oc, od, .func (ksFn name qual params (supBody fld txt j p0 p1 p2 p3 p4 p5 p6 p7 p8 p9) scope dV kV doc pm an (.ref cda) ct cc), osl⟩) (hcd : codeIn K (.ref cda) qual = true)
    (hp : (params.posonlyargs ++ params.args).head? = some ar) (har : ar.arg = "self")
    (hcode : K.lookup cda = some ⟨ccl, cdd, .fields vs, ccs⟩) (hvs : vs[2]? = some (.str file tf)) (hfile : ((P.main.file : Str) == file) = true) (htop : (P.main.scope.names.lookup ("super" : Str)).isSome = false)
    (hcell : K.lookup cc = some ⟨cl, cld, .cell (some (.ref D)), csl⟩) (T : OexC K D) (hm : ks_superIn K D D "__init__" = some (some (.builtin "ValueError.__init__"))) (hB : subIn K (.ref D) (.type "ValueError") = some true) (hDD : mroIn K D (.ref D) = some true)
    (hth : nsIn K cStatics "thirdparty.any" = some none) (hno : findIn K (.ref D) fld = some none) (msup : mg "super" = none)
    (hks : scope.names.lookup ("super" : Str) = some .globalImplicit) (hkc : scope.names.lookup ("__class__" : Str) = some .free) (hka : scope.names.lookup ("self" : Str) = some .local) (hkf : scope.names.lookup fld = some .local)
    (hcl : ∀ x ∈ scope.names, x.2 ≠ .cell) (hco : scope.isCoroutine = false) (hgen : scope.isGenerator = false) (hk : scope.kind = .function) (hne : fld ≠ "self") (hdb : (fld == ("__debug__" : Str)) = false) (htx : txt.length ≤ sizeLine) (pl : Sem Bool) (hin : ∀ L, interactive (ksEnv qual scope L f (.ref cda) cc) = false)
    (hsA : ∀ L, swapsWith (.Call (.Attribute (.Call (.Name "super" p0) [] [] p1) "__init__" p2) [.Constant (.str txt) j p3] [] p4) none p5.line (ksEnv qual scope L f (.ref cda) cc) = pure false) (hsB : ∀ L, swapsWith (.Name fld p8) (some (.Attribute (.Name "self" p6) fld p7)) p9.line (ksEnv qual scope L f (.ref cda) cc) = pure false)
    (he : ∀ L, eval (.Call (.Attribute (.Call (.Name "super" p0) [] [] p1) "__init__" p2) [.Constant (.str txt) j p3] [] p4) (ksEnv qual scope L f (.ref cda) cc) = (do
      let ov ← attributeBase (.Call (.Name "super" p0) [] [] p1) "__init__" (ksEnv qual scope L f (.ref cda) cc) (eval (.Call (.Name "super" p0) [] [] p1) (ksEnv qual scope L f (.ref cda) cc))
      standAt p2.atName
      let (g, first) ← holding [ov] (getMethod ov "__init__" pl)
      callWith p4 g first (backTo p4 (starEach [.Constant (.str txt) j p3] (ksEnv qual scope L f (.ref cda) cc))) [])) :
    FnOk P w K mg base CX (k + 1) f (ksFn name qual params (supBody fld txt j p0 p1 p2 p3 p4 p5 p6 p7 p8 p9) scope dV kV doc pm an (.ref cda) ct cc) ["self", fld] (supSp K D fld) := by
  refine ⟨fun vs H Q E ⟨a, v, e, _⟩ => by rw [e]; rfl, fun A outer s H args us vs Q E hr e0 hb r hsp => ?_⟩
  obtain ⟨a, v, rfl, ea, q⟩ := hsp
  cases r with
  | @cons _ u0 _ ur ra rr =>
  cases rr with
  | @cons _ u1 _ ur rv rn =>
  cases rn
  obtain rfl : u0 = Value.ref a := ra
  have KX : K.In s.heap := e0.mod.kin.keeps fun b o e => (e0.bs b o e).1
  have lim : s.heap.NoLimit := e0.mod.nolimit.keeps fun b o e => (e0.bs b o e).1
  refine codeAny_call_function hr.depth (KX _ _ lk) rfl hco hgen rfl (codeRec_of KX hcd) (hb _ _ _ _ ?_)
  refine wpAny_newFunctionEnv hcl (fun x hx => ?_) (fun h0 hns hsb => ?_) hk
  · rcases List.mem_cons.mp hx with rfl | hx
    · exact hka
    · rcases List.mem_cons.mp hx with rfl | hx
      · exact hkf
      · cases hx
  have kp : ∀ b o, s.heap.get? b = some o → h0.get? b = some o := fun b o e => hsb.extBut b o (Nat.ne_of_lt (Heap.lt_size e)) (Heap.get?_push_of_some _ e)
  refine ⟨lim.keeps kp, ks_codeAny_funcAt ?_⟩
  -- the state, as one of a def without a cell
  let sc' : Scope := { scope with names := [("self", .local), (fld, .local)] }
  have S : FnScope ["self", fld] ["self", fld] sc' := ⟨hk, hco, hgen, by simp [hne.symm], rfl, fun x hx => by
    rcases List.mem_cons.mp hx with rfl | hx
    · exact .inl rfl
    · rw [List.mem_singleton] at hx
      subst hx
      refine .inl ?_
      show List.lookup x [("self", NameKind.local), (x, .local)] = _
      rw [List.lookup_cons, beq_eq_false_iff_ne.mpr hne, List.lookup_cons, beq_self_eq_true], fun y hy => by
    rcases List.mem_cons.mp hy with rfl | hy
    · exact fun z => nomatch z
    · rw [List.mem_singleton] at hy
      subst hy
      exact fun z => nomatch z⟩
  have kls : ∀ y, (envOfC qual sc' s.heap.objs.size f (.ref cda)).kindOf y = List.lookup y [("self", NameKind.local), (fld, .local)] := fun _ => rfl
  have ks1 : (envOfC qual sc' s.heap.objs.size f (.ref cda)).kindOf "self" = some .local := rfl
  have ks2 : (envOfC qual sc' s.heap.objs.size f (.ref cda)).kindOf fld = some .local := by
    rw [kls, List.lookup_cons, beq_eq_false_iff_ne.mpr hne, List.lookup_cons, beq_self_eq_true]
  have eqm : bindL (envOfC qual sc' s.heap.objs.size f (.ref cda)).kindOf ([("self", Value.ref a), (fld, u1)] : List (Str × Value)) (fun _ => none) = fun y => (([("self", Value.ref a), (fld, u1)] : List (Str × Value)).reverse).lookup y := by
    funext y
    show (bindL _ [("self", Value.ref a), (fld, u1)] fun _ => none) y = List.lookup y [(fld, u1), ("self", Value.ref a)]
    unfold bindL
    rw [if_pos ks1]
    unfold bindL
    rw [if_pos ks2]
    unfold bindL
    rw [List.lookup_cons, List.lookup_cons]
    show (if y = fld then some u1 else if y = Str.ofString "self" then some (Value.ref a) else none) = _
    by_cases h1 : y = fld
    · rw [if_pos h1, beq_iff_eq.mpr h1]
    · rw [if_neg h1, beq_eq_false_iff_ne.mpr h1]
      by_cases h2 : y = "self"
      · rw [if_pos h2, beq_iff_eq.mpr h2]
      · rw [if_neg h2, beq_eq_false_iff_ne.mpr h2]
        rfl
  have x : InCallC s s.heap.objs.size (bindL (envOfC qual sc' s.heap.objs.size f (.ref cda)).kindOf ([("self", Value.ref a), (fld, u1)] : List (Str × Value)) fun _ => none) (cellsFrom (s.heap.objs.size + 1) sc'.names []) (bindC (envOfC qual sc' s.heap.objs.size f (.ref cda)).kindOf ([("self", Value.ref a), (fld, u1)] : List (Str × Value)) fun _ => none) { s with heap := h0, toks := s.toks + ([("self", Value.ref a), (fld, u1)] : List (Str × Value)).length } :=
    ⟨⟨⟨_, _, rfl⟩, by rw [eqm]; exact hns, kp, Nat.le_refl _⟩, (fun n c hc => by cases hc), .nil, (fun n c hc => by cases hc)⟩
  have I : Inv (cxOf CX P w K mg base ["self", fld] qual sc' f (.ref cda) A outer s H E) [] (start ["self", fld] [.ref a, v]) H { s with heap := h0, toks := s.toks + ([("self", Value.ref a), (fld, u1)] : List (Str × Value)).length } := inv_start S hr.hd e0 rfl (.cons rfl (.cons rv .nil)) x
  generalize hs1 : ({ s with heap := h0, toks := s.toks + ([("self", Value.ref a), (fld, u1)] : List (Str × Value)).length } : Shared) = s1 at I
  have hns1 : s1.heap.Ns s.heap.objs.size (fun y => (([("self", Value.ref a), (fld, u1)] : List (Str × Value)).reverse).lookup y) := by rw [← hs1]; exact hns
  obtain ⟨hp1, g1, d1, tk1, os1⟩ := s1
  have hs2 : ({ s with heap := h0, toks := s.toks + ((["self", fld] : List Str).zip [Value.ref a, u1]).length } : Shared) = ⟨hp1, g1, d1, tk1, os1⟩ := hs1
  rw [hs2]
  refine ks_wpAt_execs_cons (ks_wpAt_Expr_any (ks_wpAt_MethodCall (pl := pl) ?_ (he _)) (hin _) (hsA _))
  have X1 : K.In hp1 := I.kIn
  obtain ⟨t1, ho⟩ := exo_at I.hok ea
  obtain ⟨nm, q', N, bs, bm, sn, sub, ab, col, dd, k0, k1, k2, k3, k5, hC, hbm⟩ := id T.cls
  have hCd := X1 _ _ hC
  have hcls : clsIn K D = some { name := nm, bases := bs, mro := .ref D :: bm, ns := N, qualname := q', hasDict := true, slotNames := sn, subclasses := sub, abstract := ab, collection := col, hasDel := false } := by unfold clsIn; rw [hC] <;> rfl
  have IA : InstAt hp1 a { cls := .ref D, dict := none, data := .fields #[.ref t1, .none, .none, .none, .bool false, .none] } D none := ⟨ho, rfl, rfl, trivial⟩
  refine ks_wpAt_super_base (attr := "__init__") (f := f) (cc := cda) hks hkc (by decide) rfl (X1 _ _ lk) rfl hp rfl (X1 _ _ hcode) rfl hvs hfile htop ?_
  obtain ⟨mb, b1, b2⟩ := e0.mod.blt
  refine ks_loadName_global hk hks (loadGlobal_builtin (e0.mod.glob.keeps I.bk) msup (b1.keeps I.bk) ((b2 _ (by decide)).trans (by decide +kernel)) ⟨rfl, ?_⟩)
  refine wpAny_loadName_free hk hkc rfl ⟨_, X1 _ _ hcell, rfl⟩ ?_
  rw [har]
  refine wpAny_loadName_local hk hka hns1 (v := .ref a) ?_ ?_
  · show List.lookup _ [(fld, u1), ("self", Value.ref a)] = _
    rw [List.lookup_cons, beq_eq_false_iff_ne.mpr hne.symm]
    rfl
  refine ks_wpAny_isType_cls hCd rfl ⟨rfl, ?_⟩
  refine ks_wpAny_call_super hCd rfl ho rfl (fun c e => by cases e) (looks_mroIn X1 hDD) (fun h2 e2 kk2 => ?_)
  have I2 : Inv (cxOf CX P w K mg base ["self", fld] qual sc' f (.ref cda) A outer s H E) [] (start ["self", fld] [.ref a, v]) H ⟨h2, g1, d1, tk1, os1⟩ := I.kept (h' := h2) (t' := tk1) kk2
  have X2 : K.In h2 := I2.kIn
  have IA2 : InstAt h2 a { cls := .ref D, dict := none, data := .fields #[.ref t1, .none, .none, .none, .bool false, .none] } D none := ⟨kk2 _ _ ho, rfl, rfl, trivial⟩
  have hm2 : alongIn K "__init__" (((Value.ref D :: bm).dropWhile (· != .ref D)).drop 1) = some (some (.builtin "ValueError.__init__")) := by
    unfold ks_superIn at hm
    rw [hcls] at hm
    exact hm
  refine kxs_getMethod kxs_ValueError e2 (looks_opaque X2 hth) (fun A Q E s k q => wpAny_bind ((looks_clsIn X2 hcls) A _ E s k (wpAny_pure q))) rfl X2 hm2 (IA2.type.andThen (looks_subIn X2 hB)) (ks_ne X2 IA2 hcls) (by decide) ?_
  have kk3 : ∀ b o, h2.get? b = some o → (h2.push (kxs_mw "ValueError.__init__" a)).get? b = some o := fun b o e => Heap.get?_push_of_some _ e
  have I3 : Inv (cxOf CX P w K mg base ["self", fld] qual sc' f (.ref cda) A outer s H E) [] (start ["self", fld] [.ref a, v]) H ⟨h2.push (kxs_mw "ValueError.__init__" a), g1, d1, tk1 + 1 + 1, os1⟩ := I2.kept (t' := tk1 + 1 + 1) kk3
  have hmw : (h2.push (kxs_mw "ValueError.__init__" a)).get? h2.objs.size = some (kxs_mw "ValueError.__init__" a) := Heap.get?_push_size _ rfl
  refine kxs_callWith (i := "ValueError.__init__") (x := a) rfl (evalArgs_plain (PyProof.Rows.args_cons (wpAny_Constant_str (PyProof.Rows.args_nil ⟨hmw, ?_⟩)) rfl))
  refine mw_call T I3 ea hmw (by show 1 ≤ sizeLine; rw [sizeLine_eq]; decide) fun s4 J => ?_
  show _root_.PySem.wpAt _ _ _ (execs _ _) _ _ s4
  obtain ⟨m4, hn4, hl4⟩ := J.loc
  obtain ⟨ua, ra4, la⟩ := hl4 0 "self" (.ref a) rfl rfl (.inl rfl)
  obtain ⟨uv, rv4, lv⟩ := hl4 1 fld v rfl rfl (.inl ks2)
  obtain rfl : ua = Value.ref a := ra4
  have ma : m4 "self" = some (.ref a) := by
    rcases la with ⟨_, e⟩ | ⟨_, c, e, _⟩
    · exact e
    · cases e
  have mv : m4 fld = some uv := by
    rcases lv with ⟨_, e⟩ | ⟨_, c, e, _⟩
    · exact e
    · cases e
  refine ks_wpAt_execs_cons (ks_wpAt_Assign_Attr (wpAt_of_wpAny (wpAny_Name (wpAny_loadName_local hk hkf hn4 mv ?_) hdb)) (hsB _))
  refine wpAny_Name (wpAny_loadName_local hk hka hn4 ma ?_) (by decide)
  refine ost_new T J ea hno rv4 fun dx s5 hdx hdn J5 => ?_
  show _root_.PySem.wpAt _ _ _ (execs [] _) _ _ s5
  rw [execs_nil]
  exact wpAt_of_wpAny (wpAny_pure ⟨.non, _, J5.os, J5.bare, J5.base, J5.hok, rfl, q dx hdx hdn⟩)
end
end L2
set_option Elab.async false
set_option linter.all false
set_option maxRecDepth 100000
set_option maxHeartbeats 2000000
/-! # errors with a field: raised, caught, read -/
namespace PD
open PySem PySem.Spec PyProof.Rows L2
/-- what is said of the class by a look at the frozen part -/
def oexcB (K : PySem.W.Frag) (C : Addr) : Bool := match K.lookup C with
  | some ⟨.type "type", _, .cls cd, sl⟩ => (match cd.mro, sl.toList with
    | .ref C' :: bm, [_, _, _, _, some (.builtin n), _] => C' == C && n == "ValueError.__new__" && !cd.hasDel && cd.hasDict && PySem.HandSPX.refsVE bm
    | _, _ => false)
  | _ => false
theorem oexc_mk {K : PySem.W.Frag} {C : Addr} (q : oexcB K C = true) (sa : PySem.W.findIn K (.ref C) "__setattr__" = some (some (.builtin "object.__setattr__"))) (exC : PySem.W.subIn K (.ref C) (.type "BaseException") = some true) (tyC : PySem.W.typeIn K (.ref C) = some (.type "type")) (kC : PySem.W.keepIn K (.ref C) = true) : OexC K C := by
  refine ⟨?_, sa, exC, tyC, kC⟩
  unfold oexcB at q
  split at q
  · rename_i dd cd sl ho
    split at q
    · rename_i C' bm k0 k1 k2 k3 n k5 hm hs
      simp only [Bool.and_eq_true, beq_iff_eq, Bool.not_eq_true'] at q
      obtain ⟨⟨⟨⟨rfl, rfl⟩, hdel⟩, hdc⟩, hok⟩ := q
      obtain ⟨nm, bs, mro, ns, qn, hd, sn, sub, ab, col, del⟩ := cd
      dsimp only at hm hdel hdc
      subst hm hdel hdc
      have hsl : sl = #[k0, k1, k2, k3, some (.builtin "ValueError.__new__"), k5] := by
        obtain ⟨l⟩ := sl
        simp only at hs
        rw [hs]
      subst hsl
      exact ⟨nm, qn, ns, bs, bm, sn, sub, ab, col, dd, k0, k1, k2, k3, k5, ho, hok⟩
    · cases q
  · cases q
/-- an own class of errors whose __init__ keeps one field -/
structure XcF (P : Program) (w : World) (K : PySem.W.Frag) (mg : Str → Option Value) (base : Heap) (L : LE) (k : Nat) (c fld : Str) : Prop where
  g : mg c = some (.ref (L.ca c))
  T : OexC K (L.ca c)
  ex : ∃ fI fd, PySem.W.findIn K (.ref (L.ca c)) "__init__" = some (some (.ref fI)) ∧ PySem.W.typeIn K (.ref fI) = some (.type "function") ∧ FnOk P w K mg base (L2.CX P w) k fI fd ["self", fld] (supSp K (L.ca c) fld) ∧ Binds K fd ["self", fld] []
theorem xcF_mk {P : Program} {w : World} {K : PySem.W.Frag} {mg : Str → Option Value} {base : Heap} {ca : Str → Addr} {TT : List Addr} {k : Nat} {c fld : Str} {x fI : Addr} {fd : FuncData} (e : ca c = x) (g : mg c = some (.ref x)) (T : OexC K x) (h1 : PySem.W.findIn K (.ref x) "__init__" = some (some (.ref fI))) (h2 : PySem.W.typeIn K (.ref fI) = some (.type "function"))
    (F : FnOk P w K mg base (L2.CX P w) k fI fd ["self", fld] (supSp K x fld)) (b : Binds K fd ["self", fld] []) : XcF P w K mg base ⟨K, ca, TT⟩ k c fld := by
  subst e
  exact ⟨g, T, _, _, h1, h2, F, b⟩
def sRaiseF (c fld : Str) (f : Env → R D) : Env → R Fl := fun ρ => liftE (f ρ) ρ fun d => if isAtom d then .ok (.ex c [(fld, d)] ρ) else .stuck
theorem dat_atomF {K : PySem.W.Frag} {F F' : Hp} {v : V} {d : D} (h : Dat K F v d) (a : isAtom d = true) : Dat K F' v d := by
  cases h with
  | non => exact .non
  | bl => exact .bl
  | int => exact .int
  | str => exact .str
  | _ => cases a
section
variable {X : Cx} {L : LE} {fl fl' : List Sh} {W : WX} {pos : Pos} {J : Jn}
theorem s_raiseF {c fld : Str} {k j : Nat} {e : Expr} {p pos' : Pos} {f : Env → R D} (q : XcF X.prog X.w X.K X.mg X.base L k c fld) (hr : Room j X.A) (tk : Takes X W) (he : PE X e (tD L fl .s W f)) (hk : k + 1 ≤ j := by first | decide | omega) (hc : X.calm = true := by rfl) (hg : Gl X c := by rfl) (hdb : (c == ("__debug__" : Str)) = false := by decide)
    (hse : starEach [e] X.env = (false, eval e X.env) :: starEach [] X.env := by rfl) (hpl : (backTo pos' (starEach [] X.env)).any (·.1) = false := by rfl) :
    PS X (.Raise (some (.Call (.Name c p) [e] [] pos')) none pos) (tS L J fl fl' W (sRaiseF c fld f)) := by
  obtain ⟨fI, fd, iC, tI, F1, hb⟩ := q.ex
  refine (ps_raise hc tk (pmk_oex q.T iC tI F1 (hr.mono hk) hb .nil (fun _ _ _ _ _ _ _ ⟨_, _, _, _, _, _, _, _, _, _, _, _, z⟩ => z.elim) hg q.g (pa_cons he pa_nil hse) hdb hse hpl)).imp fun D σ H ⟨F, B, ρ, r, p⟩ => ⟨F, B, ρ, r, ?_⟩
  refine PostS.bindE (sh := .s) r p fun d v F1 H1 S hd e1 r1 o nd fr p1 => ?_
  refine ⟨by show 1 ≤ 1000; omega, fun a ha => ⟨a, v, rfl, upd_same, fun dx hdx hne => ?_⟩⟩
  have hdx1 : H1 dx = none := by rw [upd_ne hne] at hdx; exact hdx
  refine ⟨rfl, dx, [(fld, v)], upd_same, by rw [upd_ne hne]; exact upd_same, hdx1, ?_⟩
  have eh : upd (del (upd (upd (upd H1 a (exo a (L.ca c) none)) dx (exd dx [(fld, v)])) a (exo a (L.ca c) (some dx))) a) dx (HO.xd [(fld, v)]) = upd H1 dx (.xd [(fld, v)]) := by
    funext b
    by_cases h1 : b = dx
    · rw [h1, upd_same, upd_same]
    · rw [upd_ne h1, upd_ne h1]
      by_cases h2 : b = a
      · rw [h2, del_same, ha]
      · rw [del_ne h2, upd_ne h2, upd_ne h1, upd_ne h2]
  rw [eh]
  by_cases at_ : isAtom d = true
  · rw [if_pos at_] at p1
    have eE : Ext L.T F1 H1 (upd F1 dx (.xd [(fld, v)])) (upd H1 dx (.xd [(fld, v)])) := Ext.newF r1.bs.fh r1.bs.nf hdx1 rfl
    cases o with
    | d dd =>
      exact p1 _ _ fl σ _ _ eE.ff (r1.ext eE) ⟨rfl, dx, [(fld, v)], rfl, upd_same, fun pr hp => by
        rw [List.mem_singleton] at hp
        subst hp
        exact ⟨v, by simp [List.lookup], at_, dat_atomF (show Dat L.K F1 v d from dd) at_⟩⟩
  · rw [if_neg at_] at p1; exact p1.elim

/-! ### caught -/
def EoOk (L : LE) (d : Option Addr) (eo : Option (Addr × List (Str × V))) (fs : List (Str × D)) : Prop := match fs with
  | [] => d = none ∧ eo = none
  | _ => ∃ dx ws, d = some dx ∧ eo = some (dx, ws) ∧ ∀ p ∈ fs, ∃ v, ws.lookup p.1 = some v ∧ isAtom p.2 = true ∧ ∀ F, Dat L.K F v p.2
theorem eoOk_of {L : LE} {c : Str} {fs : List (Str × D)} {cls : Value} {d : Option Addr} {F H : Hp} (e : ErrOk L c fs cls d F H) : ∃ eo, EoOk L d eo fs ∧ ∀ dx ws, eo = some (dx, ws) → F dx = some (.xd ws) := by
  cases fs with
  | nil => exact ⟨none, ⟨e.2, rfl⟩, fun _ _ z => nomatch z⟩
  | cons p fs =>
    obtain ⟨_, dx, ws, h1, h2, h3⟩ := e
    refine ⟨some (dx, ws), ⟨dx, ws, h1, rfl, fun p hp => ?_⟩, fun dx' ws' z => by cases z; exact h2⟩
    obtain ⟨v, a1, a2, a3⟩ := h3 p hp
    exact ⟨v, a1, a2, fun F => dat_atomF a3 a2⟩
theorem EoOk.dict {L : LE} {d : Option Addr} {eo : Option (Addr × List (Str × V))} {fs : List (Str × D)} (h : EoOk L d eo fs) : (d = none ∧ eo = none) ∨ ∃ dx ws, d = some dx ∧ eo = some (dx, ws) := by
  cases fs with
  | nil => exact .inl h
  | cons p fs =>
    obtain ⟨dx, ws, h1, h2, _⟩ := h
    exact .inr ⟨dx, ws, h1, h2⟩
theorem EoOk.look {L : LE} {d : Option Addr} {eo : Option (Addr × List (Str × V))} {fs : List (Str × D)} (h : EoOk L d eo fs) {f : Str} {y : D} (l : fs.lookup f = some y) : ∃ dx ws v, d = some dx ∧ eo = some (dx, ws) ∧ ws.lookup f = some v ∧ ∀ F, Dat L.K F v y := by
  cases fs with
  | nil => cases l
  | cons p fs =>
    obtain ⟨dx, ws, h1, h2, h3⟩ := h
    have key : ∀ l : List (Str × D), l.lookup f = some y → (f, y) ∈ l := by
      intro l
      induction l with
      | nil => intro h; cases h
      | cons q l ih =>
        intro h
        obtain ⟨g, z⟩ := q
        rw [List.lookup_cons] at h
        cases e : f == g with
        | true =>
          rw [e] at h
          cases h
          rw [beq_iff_eq] at e
          subst e
          exact List.mem_cons_self
        | false =>
          rw [e] at h
          exact List.mem_cons_of_mem _ (ih h)
    obtain ⟨v, a1, _, a3⟩ := h3 _ (key _ l)
    exact ⟨dx, ws, v, h1, h2, a1, a3⟩
/-- a clause whose suite may read the fields -/
structure Cl3 where
  tbl : Str → Option Bool
  io : Option Nat
  g : List (Str × D) → Env → R Fl
def goN3 : List Cl3 → Str → List (Str × D) → Env → R Fl
  | [], c, fs, ρ => .ok (.ex c fs ρ)
  | k :: r, c, fs, ρ => match k.tbl c with
    | some true => endN k.io (k.g fs (clrI k.io ρ))
    | some false => goN3 r c fs ρ
    | none => .stuck
def sTryF (cl : List Cl3) (f : Env → R Fl) : Env → R Fl := fun ρ => match f ρ with
  | .ok (.ex c fs ρ') => if ρ'.length = ρ.length then goN3 cl c fs ρ' else .stuck
  | r => r
def xfl3 (fl : List Sh) (io : Option Nat) (a : Addr) (eo : Option (Addr × List (Str × V))) : List Sh := match io with
  | some i => (List.replicate fl.length .s).set i (.x (.ref a) eo)
  | none => List.replicate fl.length .s
inductive Cls3 (X : Cx) (L : LE) (J : Jn) (fl fl' : List Sh) : List ExceptHandler → List Cl3 → List Cl1 → Prop
  | nil : Cls3 X L J fl fl' [] [] []
  | cons {x : Str} {no : Option Str} {io : Option Nat} {tbl : Str → Option Bool} {g : List (Str × D) → Env → R Fl} {b0 : Stmt} {suite : List Stmt} {np p2 : Pos} {hs : List ExceptHandler} {cl : List Cl3} {l : List Cl1} {flE : Addr → Option (Addr × List (Str × V)) → List Sh}
      (hg : Gl X x) (hd : (x == ("__debug__" : Str)) = false) (hm : X.mg x = some (.ref (L.ca x))) (ht : ∀ c b, tbl c = some b → PySem.W.exmOne X.K (.ref (L.ca c)) (.ref (L.ca x)) = some b ∧ (b = true → c = x)) (hio : slotOk X no io)
      (hfl : ∀ a eo, (match io with | some i => (flE a eo).set i .s | none => flE a eo) = fl')
      (hsu : ∀ (a : Addr) (oe : Obj) (pn : List (Addr × Obj)) (d : Option Addr) (eo : Option (Addr × List (Str × V))) (fs : List (Str × D)), Zc (.ref (L.ca x)) d oe → (∃ vs, oe.data = .fields vs) → EoOk L d eo fs → PSs (X.suite a ((a, oe) :: pn)) (b0 :: suite) (tS L J (xfl3 fl io a eo) (flE a eo) W0 (g fs)))
      (r : Cls3 X L J fl fl' hs cl l) :
      Cls3 X L J fl fl' (.ExceptHandler (some (.Name x np)) no (b0 :: suite) p2 :: hs) (⟨tbl, io, g⟩ :: cl)
        ((.ref (L.ca x), io, fun a k d D σ H => ∃ eo fs, (k = .ref (L.ca x) ∧ EoOk L d eo fs) ∧ tS L J (xfl3 fl io a eo) (flE a eo) W0 (g fs) D σ H) :: l)
theorem Cls3.to1 {hs : List ExceptHandler} {cl : List Cl3} {l : List Cl1} (h : Cls3 X L J fl fl' hs cl l) : Cls1 X hs l := by
  induction h with
  | nil => exact .nil
  | @cons x no io tbl g b0 suite np p2 hs cl l flE hg hd hm ht hio hfl hsu _ ih =>
    refine .cons ⟨hg, hd, .inl hm⟩ hio (fun a oe k d pn hz hv => ?_) ih
    refine ⟨fun pins s D σ H I h => ?_⟩
    obtain ⟨eo, fs, ⟨rfl, he⟩, h⟩ := h
    exact (hsu a oe pn d eo fs hz hv he).run pins s D σ H I h
theorem Cls3.run {hs : List ExceptHandler} {cl : List Cl3} {l : List Cl1} (h : Cls3 X L J fl fl' hs cl l) {D : Ends} {F B F' H' : Hp} {c : Str} {fs : List (Str × PD.D)} {ρ' : Env} {σ' : L2.St} {d : Option Addr} {fl0 : List Sh}
    (r : Rep L fl0 F' B σ' H' ρ') (hl : fl0.length = fl.length) (s : Same F F') (er : ErrOk L c fs (.ref (L.ca c)) d F' H') (p : PostS L J fl' F B W D (goN3 cl c fs ρ')) : wN X.K W D l (.ref (L.ca c)) d σ' H' := by
  induction h with
  | nil => exact p (.ref (L.ca c)) d fl0 σ' F' H' s r er
  | @cons x no io tbl g b0 suite np p2 hs cl l flE hg hd hm ht hio hfl hsu _ ih =>
    unfold goN3 at p
    dsimp only at p
    cases qt : tbl c with
    | none => rw [qt] at p; exact p.elim
    | some b =>
      obtain ⟨t1, t2⟩ := ht c b qt
      rw [qt] at p
      cases b with
      | false => exact ⟨false, t1, fun z => (nomatch z), fun _ => ih p⟩
      | true =>
        refine ⟨true, t1, fun _ a ha => ?_, fun z => (nomatch z)⟩
        have ex := t2 rfl
        subst ex
        dsimp only at p
        obtain ⟨eo, heo, hF⟩ := eoOk_of er
        refine ⟨eo, fs, ⟨rfl, heo⟩, ?_⟩
        obtain ⟨F2, s2, r2⟩ := r.frzAll
        rw [hl] at r2
        cases io with
        | none =>
          refine ⟨F2, B, _, r2, ?_⟩
          have hf : flE a eo = fl' := hfl a eo
          rw [hf]
          have p : PostS L J fl' F B W D (endN none (g fs ρ')) := p
          show PostS L J fl' F2 B W0 D (g fs ρ')
          cases qg : g fs ρ' with
          | ok z =>
            rw [qg] at p
            cases z with
            | rt d => exact PostS.weak (r := .ok (.rt d)) p (s.trans s2)
            | nx ρ2 => exact PostS.weak (r := .ok (.nx ρ2)) p (s.trans s2)
            | _ => exact p.elim
          | _ => rw [qg] at p; exact p.elim
        | some i =>
          have r3 := r2.setX i (.ref a) eo (fun dx ws z => s2 _ _ (hF dx ws z))
          refine ⟨F2, B, _, r3, ?_⟩
          have hf : (flE a eo).set i .s = fl' := hfl a eo
          have p : PostS L J fl' F B W D (endN (some i) (g fs (ρ'.set i none))) := p
          show PostS L J (flE a eo) F2 B W0 _ (g fs (ρ'.set i none))
          cases qg : g fs (ρ'.set i none) with
          | ok z =>
            rw [qg] at p
            cases z with
            | rt d => exact PostS.weak (r := .ok (.rt d)) p (s.trans s2)
            | nx ρ2 =>
              have p := PostS.weak (r := .ok (.nx (ρ2.set i none))) p (s.trans s2)
              exact fun σ3 F3 H3 s3 r4 => p _ F3 H3 s3 (r4.clr i hf.symm)
            | _ => exact p.elim
          | _ => rw [qg] at p; exact p.elim
theorem s_tryF {body : List Stmt} {h0 : ExceptHandler} {hs : List ExceptHandler} {cl : List Cl3} {l : List Cl1} {f : Env → R Fl} (hN : X.N.Nodup) (tk : Takes X W)
    (hb : ∀ (W2 : WX) (pn : List (Addr × Obj)) (xe : Value → Shared → Prop), Takes (X.tr pn xe) W2 → PassesOwn (model X.prog X.w) X.A X.env xe → PSs (X.tr pn xe) body (tS L J fl fl' W2 f))
    (hc : Cls3 X L J fl fl' (h0 :: hs) cl l) (hs1 : X.stack = X.env :: X.outer := by rfl) (hf1 : X.env.frame = some X.env.locals := by rfl) :
    PS X (.Try body (h0 :: hs) [] [] pos) (tS L J fl fl' W (sTryF cl f)) := by
  refine (ps_tryN hs1 hf1 hN tk hb hc.to1).imp fun D σ H ⟨F, B, ρ, r, p⟩ => ⟨F, B, ρ, r, ?_⟩
  unfold sTryF at p
  cases q : f ρ with
  | err c fs => rw [q] at p; exact p
  | stuck => rw [q] at p; exact p
  | ok z =>
    rw [q] at p
    cases z with
    | nx ρ' => exact p
    | rt d => exact p
    | bk ρ' => exact p
    | ct ρ' => exact p
    | ex c fs ρ' =>
      dsimp only at p
      intro cls d fl0 σ' F' H' s r' er
      by_cases hlr : ρ'.length = ρ.length
      · rw [if_pos hlr] at p
        have ec := er.1
        subst ec
        exact hc.run r' (by rw [← r'.lr, hlr]; exact r.lr) s er p
      · rw [if_neg hlr] at p; exact p.elim

/-! ### read -/
def mXF (fs : List (Str × D)) (fld : Str) : Env → R D := fun _ => match fs.lookup fld with
  | some d => .ok d
  | none => .stuck
structure XfL (K : PySem.W.Frag) (L : LE) (c fld : Str) : Prop where
  x : XfC K (L.ca c)
  n : PySem.W.findIn K (.ref (L.ca c)) fld = some none
theorem xfL_mk {K : PySem.W.Frag} {ca : Str → Addr} {T : List Addr} {c fld : Str} {x : Addr} (e : ca c = x) (h : XfC K x) (n : PySem.W.findIn K (.ref x) fld = some none) : XfL K ⟨K, ca, T⟩ c fld := by
  subst e
  exact ⟨h, n⟩
theorem e_xf (i : Nat) {a : Addr} {oe : Obj} {pn : List (Addr × Obj)} {d : Option Addr} {eo : Option (Addr × List (Str × V))} {fs : List (Str × D)} {c n fld : Str} {p : Pos} {bw : Bool} (xf : XfL X.K L c fld) (hz : Zc (.ref (L.ca c)) d oe) (hv : ∃ vs, oe.data = .fields vs) (he : EoOk L d eo fs)
    (hfl : fl[i]? = some (.x (.ref a) eo) := by rfl) (hN : X.N[i]? = some n := by rfl) (hvi : Vis X.env.scope n := by first | exact Or.inl rfl | exact Or.inr (Or.inl rfl) | exact Or.inr (Or.inr rfl)) (hd : (n == ("__debug__" : Str)) = false := by decide) (hcd : (n == ("__classdict__" : Str)) = false := by decide)
    (hb : attributeBase (.Name n p) fld X.env (eval (.Name n p) X.env) = eval (.Name n p) X.env := by rfl) :
    PE (X.suite a ((a, oe) :: pn)) (.Attribute (.Name n p) fld pos) (tD L fl (.d bw) W (mXF fs fld)) :=
  (pe_xf (X := X) xf.x xf.n hz hv (pv (X := X.suite a ((a, oe) :: pn)) i hN hvi hd hcd) (hb := hb)).imp fun σ H Q ⟨F, B, ρ, r, p⟩ => by
    refine ⟨.ref a, (r.px i _ _ hfl).1, rfl, rfl, ?_⟩
    unfold mXF at p
    cases l : fs.lookup fld with
    | none => rw [l] at p; exact p.elim
    | some y =>
      rw [l] at p
      obtain ⟨dx, ws, v, h1, h2, h3, h4⟩ := he.look l
      have hF := (r.px i _ _ hfl).2 dx ws h2
      exact ⟨dx, ws, v, h1, r.bs.fh _ _ hF, h3, postE_ok (d := y) p r.refl (h4 _)⟩

/-! ### isinstance of it -/
def rIsF (K : PySem.W.Frag) (D a : Addr) (d : Option Addr) : List V → Hp → VK → Prop := fun xs H Q => (∀ dx, d = some dx → ∃ ws, H dx = some (.xd ws)) ∧ rIsE K D a xs H Q
theorem call_isF {a D : Addr} {oe : Obj} {d : Option Addr} {pn : List (Addr × Obj)} (C : ExcC X.K D) (hz : Zc (.ref D) d oe) (hf : ∃ vs, oe.data = .fields vs) : CallR (X.suite a ((a, oe) :: pn)) (.builtin "isinstance") (rIsF X.K D a d) := by
  intro pins s σ H xs us Q I r h
  obtain ⟨hdx, c, cv, b, rfl, hcv, e, q⟩ := h
  cases r with
  | cons rx rr =>
    cases rr with
    | cons rt rr =>
      cases rr
      cases rx
      have ec := hcv _ rt
      subst ec
      obtain ⟨hget, _⟩ := I.pin (a, oe) (List.mem_append.mpr (.inl List.mem_cons_self))
      obtain ⟨vs, hv⟩ := hf
      have hcl : (PySem.W.clsIn X.K D).isSome = true := by
        have z := C.hd
        unfold PySem.W.hasDictIn at z
        cases q : PySem.W.clsIn X.K D with
        | none => rw [q] at z; cases z
        | some _ => rfl
      have J : ∃ od, PySem.W.InstAt s.heap a oe D od := by
        obtain ⟨oc, od, oda, osl⟩ := oe
        obtain ⟨h1, h2⟩ := hz
        dsimp only at h1 h2 hv
        subst h1 h2 hv
        cases od with
        | none => exact ⟨none, hget, rfl, rfl, trivial⟩
        | some dx =>
          obtain ⟨ws, hw⟩ := hdx dx rfl
          have hx : ObjOk X.prog X.w H s.heap dx (.xd ws) := I.hok dx _ hw
          obtain ⟨mA, hns, _⟩ := hx
          obtain ⟨o, _, _, ho, _⟩ := hns
          exact ⟨some o, hget, rfl, rfl, ho⟩
      obtain ⟨od, J⟩ := J
      exact PySem.W.kia_one (PySem.W.kitx_exc hcl C.hg C.hk C.hs C.ha C.hn C.ht C.hm) I.kIn J e (fun z => nomatch z) fun tk => ⟨.bl b, H, I.kept (t' := tk) fun _ _ z => z, rfl, q⟩
theorem isF_dx {F B H : Hp} {σ : L2.St} {ρ : Env} {i : Nat} {a : Addr} {d : Option Addr} {eo : Option (Addr × List (Str × V))} {fs : List (Str × D)} (r : Rep L fl F B σ H ρ) (hfl : fl[i]? = some (.x (.ref a) eo)) (he : EoOk L d eo fs) : ∀ dx, d = some dx → ∃ ws, H dx = some (.xd ws) := by
  intro dx hd
  rcases he.dict with ⟨h1, _⟩ | ⟨dx', ws, h1, h2⟩
  · rw [h1] at hd; cases hd
  · rw [h1] at hd
    cases hd
    exact ⟨ws, r.bs.fh _ _ ((r.px i _ _ hfl).2 dx ws h2)⟩
theorem e_isF (i : Nat) {a : Addr} {oe : Obj} {d : Option Addr} {eo : Option (Addr × List (Str × V))} {fs : List (Str × D)} {pn : List (Addr × Obj)} {c T n : Str} {b : Bool} {p p2 pn' : Pos} {bw : Bool} (xe : XE X.K L c) (xk : XK X.K X.mg L c T b) (hz : Zc (.ref (L.ca c)) d oe) (hv : ∃ vs, oe.data = .fields vs) (heo : EoOk L d eo fs) (hm : X.mg "isinstance" = none)
    (hfl : fl[i]? = some (.x (.ref a) eo) := by rfl) (hN : X.N[i]? = some n := by rfl) (hvi : Vis X.env.scope n := by first | exact Or.inl rfl | exact Or.inr (Or.inl rfl) | exact Or.inr (Or.inr rfl)) (hd : (n == ("__debug__" : Str)) = false := by decide) (hcd : (n == ("__classdict__" : Str)) = false := by decide)
    (hg : Gl X "isinstance" := by rfl) (hgT : Gl X T := by rfl) (hdb : (T == ("__debug__" : Str)) = false := by decide)
    (hse : starEach [.Name n pn', .Name T p2] X.env = (false, eval (.Name n pn') X.env) :: starEach [.Name T p2] X.env := by rfl) (hpl : (backTo pos (starEach [.Name T p2] X.env)).any (·.1) = false := by rfl) :
    PE (X.suite a ((a, oe) :: pn)) (.Call (.Name "isinstance" p) [.Name n pn', .Name T p2] [] pos) (tD L fl (.d bw) W (mC (.bl b))) :=
  (pe_callB (X := X.suite a ((a, oe) :: pn)) (call_isF xe.e hz hv) hg hm boot_isinstance (pa_cons (pv i hN hvi hd hcd) (pa_cons (pe_glob (v := .ref (L.ca T)) hgT xk.g rfl hdb) pa_nil) hse) (he := hse) (hpl := hpl)).imp fun σ H Q ⟨F, B, ρ, r, p⟩ =>
    ⟨.ref a, (r.px i _ _ hfl).1, isF_dx r hfl heo, .ref (L.ca T), .ref (L.ca T), b, rfl, fun u h => h, xk.k, postE_ok (d := .bl b) p r.refl .bl⟩
theorem e_isFb (i : Nat) {a : Addr} {oe : Obj} {d : Option Addr} {eo : Option (Addr × List (Str × V))} {fs : List (Str × D)} {pn : List (Addr × Obj)} {c TS n : Str} {T : String} {b : Bool} {p p2 pn' : Pos} {bw : Bool} (xe : XE X.K L c) (hT : X.mg TS = none) (hvT : bootBuiltins TS = some (.type T)) (xk : PySem.W.kitOne X.K (.ref (L.ca c)) (.type T) = some b) (hz : Zc (.ref (L.ca c)) d oe) (hv : ∃ vs, oe.data = .fields vs) (heo : EoOk L d eo fs) (hm : X.mg "isinstance" = none)
    (hfl : fl[i]? = some (.x (.ref a) eo) := by rfl) (hN : X.N[i]? = some n := by rfl) (hvi : Vis X.env.scope n := by first | exact Or.inl rfl | exact Or.inr (Or.inl rfl) | exact Or.inr (Or.inr rfl)) (hd : (n == ("__debug__" : Str)) = false := by decide) (hcd : (n == ("__classdict__" : Str)) = false := by decide)
    (hg : Gl X "isinstance" := by rfl) (hgT : Gl X TS := by rfl) (hn : TS ≠ "__name__" := by decide) (hdb : (TS == ("__debug__" : Str)) = false := by decide)
    (hse : starEach [.Name n pn', .Name TS p2] X.env = (false, eval (.Name n pn') X.env) :: starEach [.Name TS p2] X.env := by rfl) (hpl : (backTo pos (starEach [.Name TS p2] X.env)).any (·.1) = false := by rfl) :
    PE (X.suite a ((a, oe) :: pn)) (.Call (.Name "isinstance" p) [.Name n pn', .Name TS p2] [] pos) (tD L fl (.d bw) W (mC (.bl b))) :=
  (pe_callB (X := X.suite a ((a, oe) :: pn)) (call_isF xe.e hz hv) hg hm boot_isinstance (pa_cons (pv i hN hvi hd hcd) (pa_cons (pe_bltn (v := .ty T) hgT hT hvT rfl hn hdb) pa_nil) hse) (he := hse) (hpl := hpl)).imp fun σ H Q ⟨F, B, ρ, r, p⟩ =>
    ⟨.ref a, (r.px i _ _ hfl).1, isF_dx r hfl heo, .ty T, .type T, b, rfl, fun u h => h, xk, postE_ok (d := .bl b) p r.refl .bl⟩
end
end PD
set_option Elab.async false
set_option linter.all false
set_option maxRecDepth 100000
set_option maxHeartbeats 2000000
/-! # raise C(f"..{N}..") of a constant number -/
namespace PD
open PySem PySem.Spec PyProof.Rows L2
section
variable {X : Cx} {L : LE} {fl fl' : List Sh} {W : WX} {pos : Pos} {J : Jn}
theorem s_raiseFs {c m1 m2 x : Str} {i : Int} {j1 j2 : Nat} {p p1 p2 p3 p4 p5 pos' : Pos} (q : Xcl X.K X.mg L c) (hm : GInt X.mg x i) (tk : Takes X W) (hz : i.natAbs.log2 < 1920) (h1 : (Str.empty ++ m1).length ≤ sizeLine) (h2 : (Str.empty ++ m1 ++ (toString i : Str)).length ≤ sizeLine) (h3 : (Str.empty ++ m1 ++ (toString i : Str) ++ m2).length ≤ sizeLine)
    (hgx : Gl X x := by rfl) (hdx : (x == ("__debug__" : Str)) = false := by decide) (hc : X.calm = true := by rfl) (hg : Gl X c := by rfl) (hdb : (c == ("__debug__" : Str)) = false := by decide)
    (hs : starEach [.JoinedStr [.Constant (.str m1) j1 p1, .FormattedValue (.Name x p2) (-1) none p3, .Constant (.str m2) j2 p4] p5] X.env = (false, eval (.JoinedStr [.Constant (.str m1) j1 p1, .FormattedValue (.Name x p2) (-1) none p3, .Constant (.str m2) j2 p4] p5) X.env) :: starEach [] X.env := by rfl) :
    PS X (.Raise (some (.Call (.Name c p) [.JoinedStr [.Constant (.str m1) j1 p1, .FormattedValue (.Name x p2) (-1) none p3, .Constant (.str m2) j2 p4] p5] [] pos')) none pos) (tS L J fl fl' W (sRaise c)) := by
  obtain ⟨t, hm⟩ := hm
  refine (ps_raise hc tk (SkE.pmk_own1 PySem.F.excBase_ValueError q.x q.g q.k (raises_own q.b q.t) hg (pe_joined (PJ.cons pe_str (PJ.cons (pe_fmt (pe_glob (v := .int i) hgx hm ⟨t, rfl⟩ hdx)) (PJ.cons pe_str PJ.nil)))) hs hdb)).imp fun D σ H ⟨F, B, ρ, r, p⟩ => ?_
  exact ⟨_, rfl, h1, .inr ⟨i, rfl, hz, _, rfl, h2, _, rfl, h3, p _ _ fl σ F H (.refl _) r ⟨rfl, rfl⟩⟩⟩
end
end PD
set_option linter.all false
set_option maxRecDepth 100000
namespace K09
open PD PM PN

def z7109b8bd : List Nat := [32, 33, 34, 35, 36, 38, 39, 40, 41, 42, 43, 44, 45, 46, 47, 48, 49, 50, 51, 52, 53, 54, 55, 56, 57, 58, 59, 60, 61, 62, 63, 64, 65, 66, 67, 68, 69, 70, 71, 72, 73, 74, 75, 76, 77, 78, 79, 80, 81, 82, 83, 84, 85, 86, 87, 88, 89, 90, 91, 92, 93, 94, 95, 96]
def zb9801bfe : List Nat := [97, 98, 99, 100, 101, 102, 103, 104, 105, 106, 107, 108, 109, 110, 111, 112, 113, 114, 115, 116, 117, 118, 119, 120, 121, 122, 123, 124, 125, 126, 10, 9]
def zbf713652 : List Nat := [66, 97, 100, 80, 114, 101, 115, 115]
def z046afc1d : List Nat := [84, 111, 111, 76, 111, 110, 103]
def za336b5d4 : List Nat := [116, 111, 108, 100]
def i1_law_padded : Env → R Fl := (sIf (mB (m2 dGt (m2 dIx (mV 1) (mC (.int 0))) (mC (.int 0)))) (sRet (mV 0)) sNx)
def c1_law_padded : Env → R D := (mLc (iOf gSq (mV 0)) [5] (gSet 5) mYes (mCall 1 m_law_many (mCons (mV 5) mNil)))
def c2_law_padded : Env → R D := (mLc (iArgs gR1 (mCons (m2 dSub (m2 dAdd (mC (.int 126)) (m2 dIx (mV 1) (mC (.int 1)))) (mV 2)) mNil)) [4] (gSet 4) mYes (mN dTup (mCons (mC (.str z8e13ffc9)) (mCons (mCall 1 m_law_letter (mCons (m2 dIx (mV 1) (mC (.int 3))) mNil)) mNil))))
def i2_law_padded : Env → R Fl := (sIf (mB (m2 dEq (m2 dIx (mV 1) (mC (.int 2))) (mC (.int 0)))) (sRet (m2 dAdd (mV 3) (mV 0))) sNx)
def b_law_padded : Env → R Fl := (sSeq i1_law_padded (sSeq (sSet 2 (mN dSumL (mCons c1_law_padded mNil))) (sSeq (sSet 3 c2_law_padded) (sSeq i2_law_padded (sRet (m2 dAdd (mV 0) (mV 3)))))))
def m_law_padded : List D → R D := mFn 6 false b_law_padded
def i1_law_signed : Env → R Fl := (sIf (mB (m2 dLt (mV 0) (mC (.int 0)))) (sRet (m1 dNeg (mV 2))) sNx)
def b_law_signed : Env → R Fl := (sSeq (sSet 2 (m2 dMod (mN dAbs (mCons (mV 0) mNil)) (mV 1))) (sSeq i1_law_signed (sRet (mV 2))))
def m_law_signed : List D → R D := mFn 3 false b_law_signed
def b_law_sign : Env → R Fl := (sSeq (sSet 1 (mC (.str z7109b8bd))) (sSeq (sSet 1 (m2 dAdd (mV 1) (mC (.str zb9801bfe)))) (sRet (m2 dIx (mV 1) (m2 dMod (mN dInt1 (mCons (mV 0) mNil)) (mC (.int 96)))))))
def m_law_sign : List D → R D := mFn 2 false b_law_sign
def b_law_odd : Env → R Fl := (sSeq (sSet 4 (mSl dSl (m2 dAdd (mCall 1 m_law_sign (mCons (m2 dIx (mV 2) (mC (.int 2))) mNil)) (mCall 1 m_law_sign (mCons (m2 dIx (mV 2) (mC (.int 3))) mNil))) mNo (mSo (m2 dIx (mV 2) (mC (.int 4)))))) (sSeq (sSet 5 (mCall 2 m_law_signed (mCons (mCall 2 m_law_cell (mCons (mV 3) (mCons (mC (.int 3)) mNil))) (mCons (m2 dPow (mC (.int 10)) (mC (.int 60))) mNil)))) (sSeq (sSet 6 (mCall 2 m_law_signed (mCons (mCall 2 m_law_cell (mCons (mV 3) (mCons (mC (.int 4)) mNil))) (mCons (mC (.int 1001)) mNil)))) (sSeq (sSet 7 (mN dLst (mCons (mN dTup (mCons (mC (.str z8e13ffc9)) (mCons (mV 4) mNil))) (mCons (mN dTup (mCons (mC (.str z8e13ffc9)) (mCons (mV 4) mNil))) (mCons (mN dTup (mCons (mC (.str z8e13ffc9)) (mCons (m2 dAdd (mC (.str [97])) (mV 4)) mNil))) (mCons (mN dTup (mCons (mC (.str z8e13ffc9)) (mCons (mCall 1 m_law_letter (mCons (m2 dIx (mV 2) (mC (.int 2))) mNil)) mNil))) (mCons (mN dTup (mCons (mC (.str z8e13ffc9)) (mCons (mC (.str [65])) mNil))) mNil))))))) (sSeq (sSet 7 (m2 dAdd (mV 7) (mN dLst (mCons (mN dTup (mCons (mC (.str z12cba3ee)) (mCons (mV 5) (mCons (mV 0) mNil)))) (mCons (mN dTup (mCons (mC (.str z12cba3ee)) (mCons (mV 5) (mCons (mV 6) mNil)))) (mCons (mN dTup (mCons (mC (.str z12cba3ee)) (mCons (mC (.int 0)) (mCons (mV 6) mNil)))) (mCons (mN dTup (mCons (mC (.str z12cba3ee)) (mCons (m1 dNeg (mC (.int 1))) (mCons (mV 0) mNil)))) mNil))))))) (sSeq (sSet 7 (m2 dAdd (mV 7) (mN dLst (mCons (mN dTup (mCons (mC (.str z12cba3ee)) (mCons (mC (.int 0)) (mCons (mC (.int 0)) mNil)))) (mCons (mN dTup (mCons (mC (.str z12cba3ee)) (mCons (m2 dSub (mV 1) (mV 0)) (mCons (mV 0) mNil)))) (mCons (mN dTup (mCons (mC (.str z12cba3ee)) (mCons (m2 dAdd (m2 dSub (mV 1) (mV 0)) (mC (.int 1))) (mCons (mV 0) mNil)))) mNil)))))) (sSeq (sSet 7 (m2 dAdd (mV 7) (mN dLst (mCons (mN dTup (mCons (mC (.str z12cba3ee)) (mCons (mC (.int 0)) (mCons (m2 dSub (m2 dAdd (mV 0) (mC (.int 127))) (mV 1)) mNil)))) (mCons (mN dTup (mCons (mC (.str z12cba3ee)) (mCons (mC (.int 0)) (mCons (m2 dSub (m2 dAdd (mV 0) (mC (.int 128))) (mV 1)) mNil)))) (mCons (mN dTup (mCons (mC (.str z12cba3ee)) (mCons (mC (.int 0)) (mCons (m2 dSub (m2 dAdd (mV 0) (mC (.int 129))) (mV 1)) mNil)))) mNil)))))) (sSeq (sSet 7 (m2 dAdd (mV 7) (mN dLst (mCons (mN dTup (mCons (mC (.str z12cba3ee)) (mCons (mC (.int 1)) (mCons (m2 dSub (m2 dAdd (mV 0) (mC (.int 128))) (mV 1)) mNil)))) (mCons (mN dTup (mCons (mC (.str z12cba3ee)) (mCons (mC (.int 0)) (mCons (m2 dPow (mC (.int 10)) (mC (.int 30))) mNil)))) (mCons (mN dTup (mCons (mC (.str z12cba3ee)) (mCons (m2 dPow (mC (.int 10)) (mC (.int 30))) (mCons (mV 0) mNil)))) mNil)))))) (sRet (m2 dIx (mV 7) (m2 dMod (mN dInt1 (mCons (m2 dIx (mV 2) (mC (.int 1))) mNil)) (mC (.int 18)))))))))))))
def m_law_odd : List D → R D := mFn 8 false b_law_odd
def i1_law_twin : Env → R Fl := (sIf (mAnd (mB (m2 dEq (m2 dIx (mV 1) (mC (.int 4))) (mC (.int 0)))) (mB (m2 dLt (m2 dIx (mV 1) (mC (.int 5))) (mC (.int 4))))) (sRet (mN dLst mNil)) sNx)
def c1_law_twin : Env → R D := (mLc (iOf gSq (mV 0)) [8] (gSet 8) mYes (mCall 1 m_law_many (mCons (mV 8) mNil)))
def l1_law_twin : Env → R Fl := (sSeq (sSet 6 (mSl dSl (mV 1) (mSo (m2 dAdd (mC (.int 6)) (m2 dMul (mC (.int 5)) (mV 5)))) (mSo (m2 dAdd (mC (.int 11)) (m2 dMul (mC (.int 5)) (mV 5)))))) (sSeq (sSet 7 (m2 dMod (mN dInt1 (mCons (m2 dIx (mV 6) (mC (.int 0))) mNil)) (mN dLen (mCons (mV 0) mNil)))) (sSetIx 3 (mCall 4 m_law_odd (mCons (mCall 1 m_law_many (mCons (m2 dIx (mV 0) (mV 7)) mNil)) (mCons (mV 4) (mCons (mV 6) (mCons (mV 2) mNil))))) (mV 7))))
def b_law_twin : Env → R Fl := (sSeq (sSet 3 (mN dListOf (mCons (mV 0) mNil))) (sSeq i1_law_twin (sSeq (sSet 4 (mN dSumL (mCons c1_law_twin mNil))) (sSeq (sFor (iArgs gR1 (mCons (m2 dIx (mN dLst (mCons (mC (.int 0)) (mCons (mC (.int 1)) (mCons (mC (.int 1)) (mCons (mC (.int 2)) mNil))))) (m2 dIx (mV 1) (mC (.int 4)))) mNil)) (gSet 5) l1_law_twin) (sRet (mV 3))))))
def m_law_twin : List D → R D := mFn 9 false b_law_twin
def i1_law_due : Env → R Fl := (sIf (mB (m2 dEq (mN dLen (mCons (mV 0) mNil)) (mC (.int 0)))) (sRet (mN dTup (mCons (mC (.str zbf713652)) (mCons (mC (.int 0)) mNil)))) sNx)
def i2_law_due : Env → R Fl := (sIf (mAnd (mB (m2 dEq (m2 dIx (mV 3) (mC (.int 0))) (mC (.str z8e13ffc9)))) (mOr (mB (m2 dNe (mN dLen (mCons (m2 dIx (mV 3) (mC (.int 1))) mNil)) (mC (.int 1)))) (mB (m2 dNotIn (m2 dIx (mV 3) (mC (.int 1))) (mC (.str zc3fcd3d7)))))) (sRet (mN dTup (mCons (mC (.str zbf713652)) (mCons (mV 1) mNil)))) sNx)
def i3_law_due : Env → R Fl := (sIf (mAnd (mB (m2 dEq (m2 dIx (mV 3) (mC (.int 0))) (mC (.str z12cba3ee)))) (mOr (mB (m2 dLt (m2 dIx (mV 3) (mC (.int 1))) (mC (.int 0)))) (mB (m2 dLt (m2 dIx (mV 3) (mC (.int 2))) (mC (.int 1)))))) (sRet (mN dTup (mCons (mC (.str zbf713652)) (mCons (mV 1) mNil)))) sNx)
def l1_law_due : Env → R Fl := (sSeq (sSet 3 (m2 dIx (mV 0) (mV 1))) (sSeq i2_law_due i3_law_due))
def c1_law_due : Env → R D := (mLc (iOf gSq (mV 0)) [3] (gSet 3) mYes (mCall 1 m_law_many (mCons (mV 3) mNil)))
def i4_law_due : Env → R Fl := (sIf (mB (m2 dGt (mV 2) (mC (.int 128)))) (sRet (mN dTup (mCons (mC (.str z046afc1d)) (mCons (mC (.int 0)) mNil)))) sNx)
def i5_law_due : Env → R Fl := (sIf (mAnd (mB (m2 dEq (m2 dIx (m2 dIx (mV 0) (mV 1)) (mC (.int 0))) (mC (.str z12cba3ee)))) (mB (m2 dGt (m2 dAdd (m2 dIx (m2 dIx (mV 0) (mV 1)) (mC (.int 1))) (m2 dIx (m2 dIx (mV 0) (mV 1)) (mC (.int 2)))) (mV 2)))) (sRet (mN dTup (mCons (mC (.str zbf713652)) (mCons (mV 1) mNil)))) sNx)
def l2_law_due : Env → R Fl := i5_law_due
def b_law_due : Env → R Fl := (sSeq i1_law_due (sSeq (sFor (iArgs gR1 (mCons (mN dLen (mCons (mV 0) mNil)) mNil)) (gSet 1) l1_law_due) (sSeq (sSet 2 (mN dSumL (mCons c1_law_due mNil))) (sSeq i4_law_due (sSeq (sFor (iArgs gR1 (mCons (mN dLen (mCons (mV 0) mNil)) mNil)) (gSet 1) l2_law_due) (sRet (mN dTup (mCons (mC (.str za336b5d4)) (mCons (mV 2) mNil)))))))))
def m_law_due : List D → R D := mFn 4 false b_law_due
def i1_check_phrases : Env → R Fl := (sIf (mB (m2 dEq (mN dLen (mCons (mV 0) mNil)) (mC (.int 0)))) (sRaiseF "BadPress" "index" (mC (.int 0))) sNx)
def i2_check_phrases : Env → R Fl := (sIf (mNot (mTru (mCall 1 m_is_valid_phrase (mCons (mV 3) mNil)))) (sRaiseF "BadPress" "index" (mV 2)) sNx)
def l1_check_phrases : Env → R Fl := i2_check_phrases
def i3_check_phrases : Env → R Fl := (sIf (mB (m2 dGt (mV 1) (mC (.int 128)))) (sRaise "TooLong") sNx)
def i4_check_phrases : Env → R Fl := (sIf (mAnd (mB (m2 dEq (m2 dIx (mV 3) (mC (.int 0))) (mC (.str z12cba3ee)))) (mB (m2 dGt (m2 dAdd (m2 dIx (mV 3) (mC (.int 1))) (m2 dIx (mV 3) (mC (.int 2)))) (mV 1)))) (sRaiseF "BadPress" "index" (mV 2)) sNx)
def l2_check_phrases : Env → R Fl := i4_check_phrases
def b_check_phrases : Env → R Fl := (sSeq i1_check_phrases (sSeq (sFor (iOf (gEn 0) (mV 0)) (gTup (gsCons (gSet 2) (gsCons (gSet 3) gsNil))) l1_check_phrases) (sSeq (sSet 1 (mCall 1 m_total_length (mCons (mV 0) mNil))) (sSeq i3_check_phrases (sFor (iOf (gEn 0) (mV 0)) (gTup (gsCons (gSet 2) (gsCons (gSet 3) gsNil))) l2_check_phrases)))))
def m_check_phrases : List D → R D := mFn 4 true b_check_phrases
def b_Copies_init : Env → R Fl := (sSeq (sDrop (mCall 1 m_check_phrases (mCons (mV 1) mNil))) (sFldI 0 "phrases" (mN dTupOf (mCons (mV 1) mNil))))
def m_Copies_init : List D → R (List D) := mInit "Copies" ["phrases"] 2 b_Copies_init
def e1_law_try : List (PySem.Str × D) → Env → R Fl := (fun fs => (sSeq (sSet 2 (mAndV (mC (.bl true)) (mC (.bl true)))) (sRet (mN dTup (mCons (mC (.str z046afc1d)) (mCons (mC (.int 0)) (mCons (mAndV (mV 2) (mAndV (m1 dNot (mC (.bl false))) (m1 dNot (mC (.bl false))))) mNil)))))))
def e2_law_try : List (PySem.Str × D) → Env → R Fl := (fun fs => (sSeq (sSet 2 (mAndV (mC (.bl true)) (mC (.bl true)))) (sRet (mN dTup (mCons (mC (.str zbf713652)) (mCons (mXF fs "index") (mCons (mAndV (mV 2) (mAndV (m1 dNot (mC (.bl false))) (m1 dNot (mC (.bl false))))) mNil)))))))
def b_law_try : Env → R Fl := (sTryF [⟨tblL "BadPress" ["TooLong"], (some 1), e2_law_try⟩, ⟨tblL "TooLong" ["BadPress"], (some 1), e1_law_try⟩] (sRet (mN dTup (mCons (mC (.str za336b5d4)) (mCons (mMake "Copies" ["phrases"] 1 m_Copies_init (mCons (mV 0) mNil)) (mCons (mC (.bl true)) mNil))))))
def m_law_try : List D → R D := mFn 3 false b_law_try
def i1_law_tells : Env → R Fl := (sIf (mNot (mB (mCall 2 (m_law_same 8) (mCons (m1 (dFld ["Copies"] "phrases") (mV 0)) (mCons (mN dTupOf (mCons (mV 1) mNil)) mNil))))) (sRet (mC (.bl false))) sNx)
def b_law_tells : Env → R Fl := (sSeq i1_law_tells (sRet (mAndV (mCall 2 (m_law_same 8) (mCons (mMeth0 [("Copies", m_Copies_size)] "size" (mV 0)) (mCons (mN dLen (mCons (mV 1) mNil)) mNil))) (mCall 2 (m_law_same 8) (mCons (mMeth0 [("Copies", m_Copies_length)] "length" (mV 0)) (mCons (mV 2) mNil))))))
def m_law_tells : List D → R D := mFn 3 false b_law_tells
def i1_law_holds : Env → R Fl := (sIf (mNot (mB (mCallL 2 (m_law_same 8) (mCons (mV 2) (mCons (mV 0) mNil))))) (sRet (mC (.bl false))) sNx)
def i2_law_holds : Env → R Fl := (sIf (mB (m2 dNe (m2 dIx (mV 1) (mC (.int 0))) (mC (.str za336b5d4)))) (sRet (mCall 2 (m_law_same 8) (mCons (mV 3) (mCons (mN dTup (mCons (m2 dIx (mV 1) (mC (.int 0))) (mCons (m2 dIx (mV 1) (mC (.int 1))) (mCons (mC (.bl true)) mNil)))) mNil)))) sNx)
def i3_law_holds : Env → R Fl := (sIf (mOr (mB (m2 dNe (m2 dIx (mV 3) (mC (.int 0))) (mC (.str za336b5d4)))) (mNot (mB (mCall 3 m_law_tells (mCons (m2 dIx (mV 3) (mC (.int 1))) (mCons (mV 0) (mCons (m2 dIx (mV 1) (mC (.int 1))) mNil))))))) (sRet (mC (.bl false))) sNx)
def b_law_holds : Env → R Fl := (sSeq (sSet 1 (mCall 1 m_law_due (mCons (mV 0) mNil))) (sSeq (sSet 2 (mN dListOf (mCons (mV 0) mNil))) (sSeq (sSet 3 (mCallL 1 m_law_try (mCons (mV 2) mNil))) (sSeq i1_law_holds (sSeq i2_law_holds (sSeq i3_law_holds (sSeq (sSetIx 2 (mN dTup (mCons (mC (.str z12cba3ee)) (mCons (mC (.int 0)) (mCons (mC (.int 3)) mNil)))) (mC (.int 0))) (sSeq (sApp 2 (mN dTup (mCons (mC (.str z8e13ffc9)) (mCons (mC (.str [122])) mNil)))) (sRet (mCall 3 m_law_tells (mCons (m2 dIx (mV 3) (mC (.int 1))) (mCons (mV 0) (mCons (m2 dIx (mV 1) (mC (.int 1))) mNil)))))))))))))
def m_law_holds : List D → R D := mFn 4 false b_law_holds
def i1_law : Env → R Fl := (sIf (mOr (mNot (mTru (mCall 1 m_law_holds (mCons (mV 2) mNil)))) (mNot (mTru (mCall 1 m_law_holds (mCons (mV 3) mNil))))) (sRet (mC (.bl false))) sNx)
def b_law : Env → R Fl := (sSeq (sSet 1 (mCall 2 m_law_draws (mCons (mCall 2 m_law_cell (mCons (mV 0) (mCons (mC (.int 0)) mNil))) (mCons (m2 dAdd (mN dLst (mCons (mC (.int 4)) (mCons (mC (.int 5)) (mCons (mC (.int 2)) (mCons (mC (.int 26)) (mCons (mC (.int 4)) (mCons (mC (.int 16)) mNil))))))) (m2 dMul (mN dLst (mCons (mC (.int 130)) (mCons (mC (.int 18)) (mCons (mC (.int 96)) (mCons (mC (.int 96)) (mCons (mC (.int 3)) mNil)))))) (mC (.int 2)))) mNil)))) (sSeq (sSet 2 (mCall 2 m_law_padded (mCons (mCall 2 m_law_press (mCons (mCall 2 m_law_cell (mCons (mV 0) (mCons (mC (.int 1)) mNil))) (mCons (mC (.int 128)) mNil))) (mCons (mV 1) mNil)))) (sSeq (sSet 3 (mCall 3 m_law_twin (mCons (mV 2) (mCons (mV 1) (mCons (mV 0) mNil))))) (sSeq i1_law (sRet (mCall 1 m_law_holds (mCons (mV 2) mNil)))))))
def m_law : List D → R D := mFn 4 false b_law
end K09
set_option Elab.async false
set_option linter.all false
set_option maxRecDepth 100000
set_option maxHeartbeats 4000000
namespace K09
open PySem PySem.Spec PyProof.Rows L2 PD PM PN
def topS (i : Nat) : Stmt := PySem.Challenge.pw_pressroots_k09_copies_form.main.body.getD i (.Pass ⟨0, 0, 0, 0⟩)
abbrev st_law_draws : Stmt := topS 39
abbrev st_law_many : Stmt := topS 46
abbrev st_law_letter : Stmt := topS 40
abbrev st_law_padded : Stmt := topS 49
abbrev st_law_signed : Stmt := topS 47
abbrev st_law_cell : Stmt := topS 38
abbrev st_law_sign : Stmt := topS 45
abbrev st_law_odd : Stmt := topS 48
abbrev st_law_twin : Stmt := topS 50
abbrev st_law_due : Stmt := topS 51
abbrev st_phrase_length : Stmt := topS 20
abbrev st_total_length : Stmt := topS 21
abbrev st_is_letter : Stmt := topS 13
abbrev st_is_valid_phrase : Stmt := topS 18
abbrev st_check_phrases : Stmt := topS 19
abbrev st_Copies_init : Stmt := inClass (topS 36) 0
abbrev st_law_try : Stmt := topS 52
abbrev st_law_is_int : Stmt := topS 43
abbrev st_law_same : Stmt := topS 44
abbrev st_Copies_size : Stmt := inClass (topS 36) 6
abbrev st_Copies_length : Stmt := inClass (topS 36) 5
abbrev st_law_tells : Stmt := topS 53
abbrev st_law_holds : Stmt := topS 54
abbrev st_law_size : Stmt := topS 41
abbrev st_law_press : Stmt := topS 42
abbrev st_law : Stmt := topS 55
abbrev stx_BadPress : Stmt := inClass (topS 8) 0
structure Nb (mg : Str → Option Value) : Prop where
  ValueError : mg "ValueError" = none
  abs : mg "abs" = none
  bool : mg "bool" = none
  cLETTERS : GStr mg "LETTERS" zc3fcd3d7
  cMOST : GInt mg "MOST" 128
  enumerate : mg "enumerate" = none
  int : mg "int" = none
  isinstance : mg "isinstance" = none
  len : mg "len" = none
  list : mg "list" = none
  min : mg "min" = none
  range : mg "range" = none
  str : mg "str" = none
  sum : mg "sum" = none
  tuple : mg "tuple" = none
section
variable {P : Program} {w : World} {K : PySem.W.Frag} {mg : Str → Option Value} {base : Heap} {ca : Str → Addr} {T : List Addr}
theorem okx_BadPress {f D cc cda : Addr} {kV doc pm ct oc ccl cl : Value} {an od cdd cld : Option Addr} {osl ccs csl : Array (Option Value)} {vs : Array Value} {file : Str} {tf : Tok} (lk : K.lookup f = some ⟨oc, od, .func (PySem.W.ksFn "__init__" "BadPress.__init__" (defArgs stx_BadPress) (defBody stx_BadPress) (defScope stx_BadPress) .none kV doc pm an (.ref cda) ct cc), osl⟩) (hcd : PySem.W.codeIn K (.ref cda) "BadPress.__init__" = true)
    (hcode : K.lookup cda = some ⟨ccl, cdd, .fields vs, ccs⟩) (hvs : vs[2]? = some (.str file tf)) (hfile : ((P.main.file : Str) == file) = true) (htop : (P.main.scope.names.lookup ("super" : Str)).isSome = false) (hcell : K.lookup cc = some ⟨cl, cld, .cell (some (.ref D)), csl⟩) (T0 : OexC K D) (hm : PySem.W.ks_superIn K D D "__init__" = some (some (.builtin "ValueError.__init__"))) (hB : PySem.W.subIn K (.ref D) (.type "ValueError") = some true) (hDD : PySem.W.mroIn K D (.ref D) = some true)
    (hth : PySem.W.nsIn K cStatics "thirdparty.any" = some none) (hno : PySem.W.findIn K (.ref D) "index" = some none) (msup : mg "super" = none) : FnOk P w K mg base (L2.CX P w) 1 f (PySem.W.ksFn "__init__" "BadPress.__init__" (defArgs stx_BadPress) (defBody stx_BadPress) (defScope stx_BadPress) .none kV doc pm an (.ref cda) ct cc) ["self", "index"] (supSp K D "index") :=
  fn_sup (fld := "index") (k := 0) lk hcd rfl rfl hcode hvs hfile htop hcell T0 hm hB hDD hth hno msup rfl rfl rfl rfl (by decide +kernel) rfl rfl rfl (by decide) (by decide) (Nat.le_of_ble_eq_true rfl) _ (fun _ => rfl) (fun _ => rfl) (fun _ => rfl) (fun _ => rfl)
theorem sc_law_draws : FnScope ["cell", "sizes", "number", "rest", "draws", "k", "seed"] ["cell", "sizes"] (defScope st_law_draws) := ⟨rfl, rfl, rfl, by decide +kernel, rfl, by decide +kernel, by decide +kernel⟩
theorem ok_law_draws {f : Addr} {fd : FuncData} (F : Fun K "_law_draws" "_law_draws" st_law_draws f fd) (nb : Nb mg) :
    FnOk P w K mg base (L2.CX P w) 1 f fd ["cell", "sizes"] (spD ⟨K, ca, T⟩ .s 2 m_law_draws) := by
  refine fnD F sc_law_draws rfl (fl := [.s, .s, .s, .s, .l .s, .s, .s]) (fl' := [.s, .s, .s, .s, .s, .s, .s]) (rest := [.s, .s, (.l .s), .s, .s]) false rfl rfl (fun h => nomatch h) fun cdv A outer s H E hr => ?_
  exact (s_cons (fl1 := [.s, .s, .s, .s, .l .s, .s, .s]) (s_set 2 sc_law_draws.nd (e_callB call_abs (cd_abs (bw := true)) nb.abs boot_abs' (a_cons (e_varS 0) a_nil))) (s_cons (fl1 := [.s, .s, .s, .s, .l .s, .s, .s]) (s_set 3 sc_law_draws.nd (e_varS 2)) (s_cons (fl1 := [.s, .s, .s, .s, .l .s, .s, .s]) (s_if (t_cmp or_lt (od_cmp (bw := true)) (e_varS 2) (e_op2 op_pow (od_pow (bw := true)) e_int e_int)) (s_one (s_set 3 sc_law_draws.nd e_int)) s_nil) (s_cons (fl1 := [.s, .s, .s, .s, .l .s, .s, .s]) (s_set 4 sc_law_draws.nd (e_lst a_nil)) (s_cons (fl1 := [.s, .s, .s, .s, .l .s, .s, .s]) (s_for (passes_of rfl) (i_range1 nb.range (a_cons (e_callB call_len (cd_len (bw := true) rfl) nb.len PySem.boot_len (a_cons (e_varS 1) a_nil)) a_nil)) (g_name 5 sc_law_draws.nd) (s_one (s_if (t_cmp or_gt (od_cmp (bw := true)) (e_varS 3) e_int) (s_cons (fl1 := [.s, .s, .s, .s, .l .s, .s, .s]) (s_append 4 (e_op2 op_mod (od_mod (bw := true)) (e_callT call_int1 (cd_int (bw := true)) nb.int boot_int (a_cons (e_varS 3) a_nil)) (e_ix (e_varS 1) (e_varS 5)))) (s_one (s_set 3 sc_law_draws.nd (e_op2 op_fdivW (od_div (bw := true)) (e_varS 3) (e_ix (e_varS 1) (e_varS 5)))))) (s_cons (fl1 := [.s, .s, .s, .s, .l .s, .s, .s]) (s_set 6 sc_law_draws.nd (e_op2 op_mod (od_mod (bw := true)) (e_callT call_int1 (cd_int (bw := true)) nb.int boot_int (a_cons (e_op2 or_add od_add (e_op2 or_mul od_mul (e_varS 2) e_int) (e_op2 or_mul od_mul e_int (e_op2 or_add od_add (e_varS 5) e_int))) a_nil)) e_int)) (s_cons (fl1 := [.s, .s, .s, .s, .l .s, .s, .s]) (s_set 6 sc_law_draws.nd (e_op2 op_mod (od_mod (bw := true)) (e_callT call_int1 (cd_int (bw := true)) nb.int boot_int (a_cons (e_op2 or_add od_add (e_op2 or_mul od_mul (e_varS 6) (e_varS 6)) (e_op2 or_mul od_mul e_int (e_op2 or_add od_add (e_varS 5) e_int))) a_nil)) e_int)) (s_cons (fl1 := [.s, .s, .s, .s, .l .s, .s, .s]) (s_set 6 sc_law_draws.nd (e_op2 op_mod (od_mod (bw := true)) (e_callT call_int1 (cd_int (bw := true)) nb.int boot_int (a_cons (e_op2 or_add od_add (e_op2 or_mul od_mul (e_varS 6) (e_varS 6)) e_int) a_nil)) e_int)) (s_one (s_append 4 (e_op2 op_mod (od_mod (bw := true)) (e_callT call_int1 (cd_int (bw := true)) nb.int boot_int (a_cons (e_op2 op_fdivW (od_div (bw := true)) (e_varS 6) e_int) a_nil)) (e_ix (e_varS 1) (e_varS 5))))))))))) (ss_frz 4 (s_one (s_ret (e_varS 4)))))))))
theorem sc_law_many : FnScope ["phrase"] ["phrase"] (defScope st_law_many) := ⟨rfl, rfl, rfl, by decide +kernel, rfl, by decide +kernel, by decide +kernel⟩
theorem ok_law_many {f : Addr} {fd : FuncData} (F : Fun K "_law_many" "_law_many" st_law_many f fd)  :
    FnOk P w K mg base (L2.CX P w) 1 f fd ["phrase"] (spD ⟨K, ca, T⟩ .s 1 m_law_many) := by
  refine fnD F sc_law_many rfl (fl := [.s]) (fl' := [.s]) (rest := []) false rfl rfl (fun h => nomatch h) fun cdv A outer s H E hr => ?_
  exact (s_cons (fl1 := [.s]) (s_if (t_cmp (or_eq hr) (od_eq (bw := true) rfl) (e_ix (e_varS 0) e_int) (e_str z8e13ffc9)) (s_one (s_ret e_int)) s_nil) (s_one (s_ret (e_ix (e_varS 0) e_int))))
theorem sc_law_letter : FnScope ["number"] ["number"] (defScope st_law_letter) := ⟨rfl, rfl, rfl, by decide +kernel, rfl, by decide +kernel, by decide +kernel⟩
theorem ok_law_letter {f : Addr} {fd : FuncData} (F : Fun K "_law_letter" "_law_letter" st_law_letter f fd) (nb : Nb mg) :
    FnOk P w K mg base (L2.CX P w) 1 f fd ["number"] (spD ⟨K, ca, T⟩ .s 1 m_law_letter) := by
  refine fnD F sc_law_letter rfl (fl := [.s]) (fl' := [.s]) (rest := []) false rfl rfl (fun h => nomatch h) fun cdv A outer s H E hr => ?_
  exact (s_one (s_ret (e_ix (e_str zc3fcd3d7) (e_op2 op_mod (od_mod (bw := true)) (e_callT call_int1 (cd_int (bw := true)) nb.int boot_int (a_cons (e_varS 0) a_nil)) e_int))))
theorem sc_law_padded : FnScope ["phrases", "told", "size", "puts", "k", "phrase"] ["phrases", "told"] (defScope st_law_padded) := ⟨rfl, rfl, rfl, by decide +kernel, rfl, by decide +kernel, by decide +kernel⟩
theorem ok_law_padded {f : Addr} {fd : FuncData} (F : Fun K "_law_padded" "_law_padded" st_law_padded f fd) (nb : Nb mg) (c_law_many : Cal P w K mg base ⟨K, ca, T⟩ "_law_many" 1 .s 1 m_law_many) (c_law_letter : Cal P w K mg base ⟨K, ca, T⟩ "_law_letter" 1 .s 1 m_law_letter) :
    FnOk P w K mg base (L2.CX P w) 2 f fd ["phrases", "told"] (spD ⟨K, ca, T⟩ .s 2 m_law_padded) := by
  refine fnD F sc_law_padded rfl (fl := [.s, .s, .s, .s, .s, .s]) (fl' := [.s, .s, .s, .s, .s, .s]) (rest := [.s, .s, .s, .s]) false rfl rfl (fun h => nomatch h) fun cdv A outer s H E hr => ?_
  exact (s_cons (fl1 := [.s, .s, .s, .s, .s, .s]) (s_if (t_cmp or_gt (od_cmp (bw := true)) (e_ix (e_varS 1) e_int) e_int) (s_one (s_ret (e_varS 0))) s_nil) (s_cons (fl1 := [.s, .s, .s, .s, .s, .s]) (s_set 2 sc_law_padded.nd (e_callB (cr_sum rfl) (cd_sum (bw := true) rfl) nb.sum boot_sum' (a_cons (e_frz (e_lc [("phrase", 5)] sc_law_padded.nd (i_seq (e_varS 0) gSq_ok) (by show blkC ["phrases", "told", "size", "puts", "k", "phrase"] (defScope st_law_padded) _ _ = true; decide +kernel) (fun _ _ _ _ _ => by exact (g_name 5 sc_law_padded.nd)) (fun _ _ _ _ _ => by exact ts_nil) (fun _ _ _ _ _ => by exact (e_call c_law_many hr takes0 (a_cons (e_varS 5) a_nil))))) a_nil))) (s_cons (fl1 := [.s, .s, .s, .s, .s, .s]) (s_setLcS 3 [("k", 4)] sc_law_padded.nd (i_range1 nb.range (a_cons (e_op2 op_sub (od_sub (bw := true)) (e_op2 or_add od_add e_int (e_ix (e_varS 1) e_int)) (e_varS 2)) a_nil)) (by show blkC ["phrases", "told", "size", "puts", "k", "phrase"] (defScope st_law_padded) _ _ = true; decide +kernel) (fun _ _ _ _ _ => by exact (g_name 4 sc_law_padded.nd)) (fun _ _ _ _ _ => by exact ts_nil) (fun _ _ _ _ _ => by exact (e_tup (a_cons (e_str z8e13ffc9) (a_cons (e_call c_law_letter hr takes0 (a_cons (e_ix (e_varS 1) e_int) a_nil)) a_nil)))) (sw_true rfl rfl rfl (by decide +kernel))) (s_cons (fl1 := [.s, .s, .s, .s, .s, .s]) (s_if (t_cmp (or_eq hr) (od_eq (bw := true) rfl) (e_ix (e_varS 1) e_int) e_int) (s_one (s_ret (e_op2 or_add od_add (e_varS 3) (e_varS 0)))) s_nil) (s_one (s_ret (e_op2 or_add od_add (e_varS 0) (e_varS 3))))))))
theorem sc_law_signed : FnScope ["cell", "bound", "number"] ["cell", "bound"] (defScope st_law_signed) := ⟨rfl, rfl, rfl, by decide +kernel, rfl, by decide +kernel, by decide +kernel⟩
theorem ok_law_signed {f : Addr} {fd : FuncData} (F : Fun K "_law_signed" "_law_signed" st_law_signed f fd) (nb : Nb mg) :
    FnOk P w K mg base (L2.CX P w) 1 f fd ["cell", "bound"] (spD ⟨K, ca, T⟩ .s 2 m_law_signed) := by
  refine fnD F sc_law_signed rfl (fl := [.s, .s, .s]) (fl' := [.s, .s, .s]) (rest := [.s]) false rfl rfl (fun h => nomatch h) fun cdv A outer s H E hr => ?_
  exact (s_cons (fl1 := [.s, .s, .s]) (s_set 2 sc_law_signed.nd (e_op2 op_mod (od_mod (bw := true)) (e_callB call_abs (cd_abs (bw := true)) nb.abs boot_abs' (a_cons (e_varS 0) a_nil)) (e_varS 1))) (s_cons (fl1 := [.s, .s, .s]) (s_if (t_cmp or_lt (od_cmp (bw := true)) (e_varS 0) e_int) (s_one (s_ret (e_neg (e_varS 2)))) s_nil) (s_one (s_ret (e_varS 2)))))
theorem sc_law_cell : FnScope ["script", "k"] ["script", "k"] (defScope st_law_cell) := ⟨rfl, rfl, rfl, by decide +kernel, rfl, by decide +kernel, by decide +kernel⟩
theorem ok_law_cell {f : Addr} {fd : FuncData} (F : Fun K "_law_cell" "_law_cell" st_law_cell f fd) (nb : Nb mg) :
    FnOk P w K mg base (L2.CX P w) 1 f fd ["script", "k"] (spD ⟨K, ca, T⟩ .s 2 m_law_cell) := by
  refine fnD F sc_law_cell rfl (fl := [.s, .s]) (fl' := [.s, .s]) (rest := []) false rfl rfl (fun h => nomatch h) fun cdv A outer s H E hr => ?_
  exact (s_cons (fl1 := [.s, .s]) (s_if (t_cmp or_lt (od_cmp (bw := true)) (e_varS 1) (e_callB call_len (cd_len (bw := true) rfl) nb.len PySem.boot_len (a_cons (e_varS 0) a_nil))) (s_one (s_ret (e_ix (e_varS 0) (e_varS 1)))) s_nil) (s_one (s_ret e_int)))
theorem sc_law_sign : FnScope ["number", "signs"] ["number"] (defScope st_law_sign) := ⟨rfl, rfl, rfl, by decide +kernel, rfl, by decide +kernel, by decide +kernel⟩
theorem ok_law_sign {f : Addr} {fd : FuncData} (F : Fun K "_law_sign" "_law_sign" st_law_sign f fd) (nb : Nb mg) :
    FnOk P w K mg base (L2.CX P w) 1 f fd ["number"] (spD ⟨K, ca, T⟩ .s 1 m_law_sign) := by
  refine fnD F sc_law_sign rfl (fl := [.s, .s]) (fl' := [.s, .s]) (rest := [.s]) false rfl rfl (fun h => nomatch h) fun cdv A outer s H E hr => ?_
  exact (s_cons (fl1 := [.s, .s]) (s_set 1 sc_law_sign.nd (e_str z7109b8bd)) (s_cons (fl1 := [.s, .s]) (s_set 1 sc_law_sign.nd (e_op2 or_add od_add (e_varS 1) (e_str zb9801bfe))) (s_one (s_ret (e_ix (e_varS 1) (e_op2 op_mod (od_mod (bw := true)) (e_callT call_int1 (cd_int (bw := true)) nb.int boot_int (a_cons (e_varS 0) a_nil)) e_int))))))
theorem sc_law_odd : FnScope ["many", "size", "one", "script", "word", "start", "length", "rows"] ["many", "size", "one", "script"] (defScope st_law_odd) := ⟨rfl, rfl, rfl, by decide +kernel, rfl, by decide +kernel, by decide +kernel⟩
theorem ok_law_odd {f : Addr} {fd : FuncData} (F : Fun K "_law_odd" "_law_odd" st_law_odd f fd) (nb : Nb mg) (c_law_letter : Cal P w K mg base ⟨K, ca, T⟩ "_law_letter" 1 .s 1 m_law_letter) (c_law_signed : Cal P w K mg base ⟨K, ca, T⟩ "_law_signed" 1 .s 2 m_law_signed) (c_law_cell : Cal P w K mg base ⟨K, ca, T⟩ "_law_cell" 1 .s 2 m_law_cell) (c_law_sign : Cal P w K mg base ⟨K, ca, T⟩ "_law_sign" 1 .s 1 m_law_sign) :
    FnOk P w K mg base (L2.CX P w) 2 f fd ["many", "size", "one", "script"] (spD ⟨K, ca, T⟩ .s 4 m_law_odd) := by
  refine fnD F sc_law_odd rfl (fl := [.s, .s, .s, .s, .s, .s, .s, .s]) (fl' := [.s, .s, .s, .s, .s, .s, .s, .s]) (rest := [.s, .s, .s, .s]) false rfl rfl (fun h => nomatch h) fun cdv A outer s H E hr => ?_
  exact (s_cons (fl1 := [.s, .s, .s, .s, .s, .s, .s, .s]) (s_set 4 sc_law_odd.nd (e_sl (e_op2 or_add od_add (e_call c_law_sign hr (takes_of rfl rfl rfl rfl) (a_cons (e_ix (e_varS 2) e_int) a_nil)) (e_call c_law_sign hr (takes_of rfl rfl rfl rfl) (a_cons (e_ix (e_varS 2) e_int) a_nil))) o_none (o_some (e_ix (e_varS 2) e_int)))) (s_cons (fl1 := [.s, .s, .s, .s, .s, .s, .s, .s]) (s_set 5 sc_law_odd.nd (e_call c_law_signed hr (takes_of rfl rfl rfl rfl) (a_cons (e_call c_law_cell hr (takes_of rfl rfl rfl rfl) (a_cons (e_varS 3) (a_cons e_int a_nil))) (a_cons (e_op2 op_pow (od_pow (bw := true)) e_int e_int) a_nil)))) (s_cons (fl1 := [.s, .s, .s, .s, .s, .s, .s, .s]) (s_set 6 sc_law_odd.nd (e_call c_law_signed hr (takes_of rfl rfl rfl rfl) (a_cons (e_call c_law_cell hr (takes_of rfl rfl rfl rfl) (a_cons (e_varS 3) (a_cons e_int a_nil))) (a_cons e_int a_nil)))) (s_cons (fl1 := [.s, .s, .s, .s, .s, .s, .s, .s]) (s_set 7 sc_law_odd.nd (e_frz (e_lst (a_cons (e_tup (a_cons (e_str z8e13ffc9) (a_cons (e_varS 4) a_nil))) (a_cons (e_tup (a_cons (e_str z8e13ffc9) (a_cons (e_varS 4) a_nil))) (a_cons (e_tup (a_cons (e_str z8e13ffc9) (a_cons (e_op2 or_add od_add (e_str [97]) (e_varS 4)) a_nil))) (a_cons (e_tup (a_cons (e_str z8e13ffc9) (a_cons (e_call c_law_letter hr (takes_of rfl rfl rfl rfl) (a_cons (e_ix (e_varS 2) e_int) a_nil)) a_nil))) (a_cons (e_tup (a_cons (e_str z8e13ffc9) (a_cons (e_str [65]) a_nil))) a_nil)))))))) (s_cons (fl1 := [.s, .s, .s, .s, .s, .s, .s, .s]) (s_set 7 sc_law_odd.nd (e_op2 or_add od_add (e_varS 7) (e_frz (e_lst (a_cons (e_tup (a_cons (e_str z12cba3ee) (a_cons (e_varS 5) (a_cons (e_varS 0) a_nil)))) (a_cons (e_tup (a_cons (e_str z12cba3ee) (a_cons (e_varS 5) (a_cons (e_varS 6) a_nil)))) (a_cons (e_tup (a_cons (e_str z12cba3ee) (a_cons e_int (a_cons (e_varS 6) a_nil)))) (a_cons (e_tup (a_cons (e_str z12cba3ee) (a_cons (e_neg e_int) (a_cons (e_varS 0) a_nil)))) a_nil)))))))) (s_cons (fl1 := [.s, .s, .s, .s, .s, .s, .s, .s]) (s_set 7 sc_law_odd.nd (e_op2 or_add od_add (e_varS 7) (e_frz (e_lst (a_cons (e_tup (a_cons (e_str z12cba3ee) (a_cons e_int (a_cons e_int a_nil)))) (a_cons (e_tup (a_cons (e_str z12cba3ee) (a_cons (e_op2 op_sub (od_sub (bw := true)) (e_varS 1) (e_varS 0)) (a_cons (e_varS 0) a_nil)))) (a_cons (e_tup (a_cons (e_str z12cba3ee) (a_cons (e_op2 or_add od_add (e_op2 op_sub (od_sub (bw := true)) (e_varS 1) (e_varS 0)) e_int) (a_cons (e_varS 0) a_nil)))) a_nil))))))) (s_cons (fl1 := [.s, .s, .s, .s, .s, .s, .s, .s]) (s_set 7 sc_law_odd.nd (e_op2 or_add od_add (e_varS 7) (e_frz (e_lst (a_cons (e_tup (a_cons (e_str z12cba3ee) (a_cons e_int (a_cons (e_op2 op_sub (od_sub (bw := true)) (e_op2 or_add od_add (e_varS 0) e_int) (e_varS 1)) a_nil)))) (a_cons (e_tup (a_cons (e_str z12cba3ee) (a_cons e_int (a_cons (e_op2 op_sub (od_sub (bw := true)) (e_op2 or_add od_add (e_varS 0) e_int) (e_varS 1)) a_nil)))) (a_cons (e_tup (a_cons (e_str z12cba3ee) (a_cons e_int (a_cons (e_op2 op_sub (od_sub (bw := true)) (e_op2 or_add od_add (e_varS 0) e_int) (e_varS 1)) a_nil)))) a_nil))))))) (s_cons (fl1 := [.s, .s, .s, .s, .s, .s, .s, .s]) (s_set 7 sc_law_odd.nd (e_op2 or_add od_add (e_varS 7) (e_frz (e_lst (a_cons (e_tup (a_cons (e_str z12cba3ee) (a_cons e_int (a_cons (e_op2 op_sub (od_sub (bw := true)) (e_op2 or_add od_add (e_varS 0) e_int) (e_varS 1)) a_nil)))) (a_cons (e_tup (a_cons (e_str z12cba3ee) (a_cons e_int (a_cons (e_op2 op_pow (od_pow (bw := true)) e_int e_int) a_nil)))) (a_cons (e_tup (a_cons (e_str z12cba3ee) (a_cons (e_op2 op_pow (od_pow (bw := true)) e_int e_int) (a_cons (e_varS 0) a_nil)))) a_nil))))))) (s_one (s_ret (e_ix (e_varS 7) (e_op2 op_mod (od_mod (bw := true)) (e_callT call_int1 (cd_int (bw := true)) nb.int boot_int (a_cons (e_ix (e_varS 2) e_int) a_nil)) e_int))))))))))))
theorem sc_law_twin : FnScope ["phrases", "told", "script", "twin", "size", "k", "one", "place", "phrase"] ["phrases", "told", "script"] (defScope st_law_twin) := ⟨rfl, rfl, rfl, by decide +kernel, rfl, by decide +kernel, by decide +kernel⟩
theorem ok_law_twin {f : Addr} {fd : FuncData} (F : Fun K "_law_twin" "_law_twin" st_law_twin f fd) (nb : Nb mg) (c_law_many : Cal P w K mg base ⟨K, ca, T⟩ "_law_many" 1 .s 1 m_law_many) (c_law_odd : Cal P w K mg base ⟨K, ca, T⟩ "_law_odd" 2 .s 4 m_law_odd) :
    FnOk P w K mg base (L2.CX P w) 3 f fd ["phrases", "told", "script"] (spD ⟨K, ca, T⟩ .s 3 m_law_twin) := by
  refine fnD F sc_law_twin rfl (fl := [.s, .s, .s, .l .s, .s, .s, .s, .s, .s]) (fl' := [.s, .s, .s, .s, .s, .s, .s, .s, .s]) (rest := [(.l .s), .s, .s, .s, .s, .s]) false rfl rfl (fun h => nomatch h) fun cdv A outer s H E hr => ?_
  exact (s_cons (fl1 := [.s, .s, .s, .l .s, .s, .s, .s, .s, .s]) (s_set 3 sc_law_twin.nd (e_callT call_list_of (cd_list rfl) nb.list boot_list (a_cons (e_varS 0) a_nil))) (s_cons (fl1 := [.s, .s, .s, .l .s, .s, .s, .s, .s, .s]) (s_if (PW.pt (t_and2 (t_cmp (or_eq hr) (od_eq (bw := true) rfl) (e_ix (e_varS 1) e_int) e_int) (t_and1 (t_cmp or_lt (od_cmp (bw := true)) (e_ix (e_varS 1) e_int) e_int)))) (s_one (s_ret (e_frz (e_lst a_nil)))) s_nil) (s_cons (fl1 := [.s, .s, .s, .l .s, .s, .s, .s, .s, .s]) (s_set 4 sc_law_twin.nd (e_callB (cr_sum rfl) (cd_sum (bw := true) rfl) nb.sum boot_sum' (a_cons (e_frz (e_lc [("phrase", 8)] sc_law_twin.nd (i_seq (e_varS 0) gSq_ok) (by show blkC ["phrases", "told", "script", "twin", "size", "k", "one", "place", "phrase"] (defScope st_law_twin) _ _ = true; decide +kernel) (fun _ _ _ _ _ => by exact (g_name 8 sc_law_twin.nd)) (fun _ _ _ _ _ => by exact ts_nil) (fun _ _ _ _ _ => by exact (e_call c_law_many hr takes0 (a_cons (e_varS 8) a_nil))))) a_nil))) (s_cons (fl1 := [.s, .s, .s, .l .s, .s, .s, .s, .s, .s]) (s_for (passes_of rfl) (i_range1 nb.range (a_cons (e_ix (e_frz (e_lst (a_cons e_int (a_cons e_int (a_cons e_int (a_cons e_int a_nil)))))) (e_ix (e_varS 1) e_int)) a_nil)) (g_name 5 sc_law_twin.nd) (s_cons (fl1 := [.s, .s, .s, .l .s, .s, .s, .s, .s, .s]) (s_set 6 sc_law_twin.nd (e_sl (e_varS 1) (o_some (e_op2 or_add od_add e_int (e_op2 or_mul od_mul e_int (e_varS 5)))) (o_some (e_op2 or_add od_add e_int (e_op2 or_mul od_mul e_int (e_varS 5)))))) (s_cons (fl1 := [.s, .s, .s, .l .s, .s, .s, .s, .s, .s]) (s_set 7 sc_law_twin.nd (e_op2 op_mod (od_mod (bw := true)) (e_callT call_int1 (cd_int (bw := true)) nb.int boot_int (a_cons (e_ix (e_varS 6) e_int) a_nil)) (e_callB call_len (cd_len (bw := true) rfl) nb.len PySem.boot_len (a_cons (e_varS 0) a_nil)))) (s_one (s_setix 3 (e_call c_law_odd hr (takes_of rfl rfl rfl rfl) (a_cons (e_call c_law_many hr (takes_of rfl rfl rfl rfl) (a_cons (e_ix (e_varS 0) (e_varS 7)) a_nil)) (a_cons (e_varS 4) (a_cons (e_varS 6) (a_cons (e_varS 2) a_nil))))) (e_varS 7)))))) (ss_frz 3 (s_one (s_ret (e_varS 3))))))))
theorem sc_law_due : FnScope ["phrases", "k", "size", "phrase"] ["phrases"] (defScope st_law_due) := ⟨rfl, rfl, rfl, by decide +kernel, rfl, by decide +kernel, by decide +kernel⟩
theorem ok_law_due {f : Addr} {fd : FuncData} (F : Fun K "_law_due" "_law_due" st_law_due f fd) (nb : Nb mg) (c_law_many : Cal P w K mg base ⟨K, ca, T⟩ "_law_many" 1 .s 1 m_law_many) :
    FnOk P w K mg base (L2.CX P w) 2 f fd ["phrases"] (spD ⟨K, ca, T⟩ .s 1 m_law_due) := by
  refine fnD F sc_law_due rfl (fl := [.s, .s, .s, .s]) (fl' := [.s, .s, .s, .s]) (rest := [.s, .s, .s]) false rfl rfl (fun h => nomatch h) fun cdv A outer s H E hr => ?_
  exact (s_cons (fl1 := [.s, .s, .s, .s]) (s_if (t_cmp (or_eq hr) (od_eq (bw := true) rfl) (e_callB call_len (cd_len (bw := true) rfl) nb.len PySem.boot_len (a_cons (e_varS 0) a_nil)) e_int) (s_one (s_ret (e_tup (a_cons (e_str zbf713652) (a_cons e_int a_nil))))) s_nil) (s_cons (fl1 := [.s, .s, .s, .s]) (s_for (passes_of rfl) (i_range1 nb.range (a_cons (e_callB call_len (cd_len (bw := true) rfl) nb.len PySem.boot_len (a_cons (e_varS 0) a_nil)) a_nil)) (g_name 1 sc_law_due.nd) (s_cons (fl1 := [.s, .s, .s, .s]) (s_set 3 sc_law_due.nd (e_ix (e_varS 0) (e_varS 1))) (s_cons (fl1 := [.s, .s, .s, .s]) (s_if (PW.pt (t_and2 (t_cmp (or_eq hr) (od_eq (bw := true) rfl) (e_ix (e_varS 3) e_int) (e_str z8e13ffc9)) (t_and1 (PW.pt (t_or2 (t_cmp (or_ne hr) (od_ne (bw := true) rfl) (e_callB call_len (cd_len (bw := true) rfl) nb.len PySem.boot_len (a_cons (e_ix (e_varS 3) e_int) a_nil)) e_int) (t_or1 (t_cmp (or_notIn rfl) (od_notIn (bw := true)) (e_ix (e_varS 3) e_int) (e_str zc3fcd3d7)))))))) (s_one (s_ret (e_tup (a_cons (e_str zbf713652) (a_cons (e_varS 1) a_nil))))) s_nil) (s_one (s_if (PW.pt (t_and2 (t_cmp (or_eq hr) (od_eq (bw := true) rfl) (e_ix (e_varS 3) e_int) (e_str z12cba3ee)) (t_and1 (PW.pt (t_or2 (t_cmp or_lt (od_cmp (bw := true)) (e_ix (e_varS 3) e_int) e_int) (t_or1 (t_cmp or_lt (od_cmp (bw := true)) (e_ix (e_varS 3) e_int) e_int))))))) (s_one (s_ret (e_tup (a_cons (e_str zbf713652) (a_cons (e_varS 1) a_nil))))) s_nil))))) (s_cons (fl1 := [.s, .s, .s, .s]) (s_set 2 sc_law_due.nd (e_callB (cr_sum rfl) (cd_sum (bw := true) rfl) nb.sum boot_sum' (a_cons (e_frz (e_lc [("phrase", 3)] sc_law_due.nd (i_seq (e_varS 0) gSq_ok) (by show blkC ["phrases", "k", "size", "phrase"] (defScope st_law_due) _ _ = true; decide +kernel) (fun _ _ _ _ _ => by exact (g_name 3 sc_law_due.nd)) (fun _ _ _ _ _ => by exact ts_nil) (fun _ _ _ _ _ => by exact (e_call c_law_many hr takes0 (a_cons (e_varS 3) a_nil))))) a_nil))) (s_cons (fl1 := [.s, .s, .s, .s]) (s_if (t_cmp or_gt (od_cmp (bw := true)) (e_varS 2) e_int) (s_one (s_ret (e_tup (a_cons (e_str z046afc1d) (a_cons e_int a_nil))))) s_nil) (s_cons (fl1 := [.s, .s, .s, .s]) (s_for (passes_of rfl) (i_range1 nb.range (a_cons (e_callB call_len (cd_len (bw := true) rfl) nb.len PySem.boot_len (a_cons (e_varS 0) a_nil)) a_nil)) (g_name 1 sc_law_due.nd) (s_one (s_if (PW.pt (t_and2 (t_cmp (or_eq hr) (od_eq (bw := true) rfl) (e_ix (e_ix (e_varS 0) (e_varS 1)) e_int) (e_str z12cba3ee)) (t_and1 (t_cmp or_gt (od_cmp (bw := true)) (e_op2 or_add od_add (e_ix (e_ix (e_varS 0) (e_varS 1)) e_int) (e_ix (e_ix (e_varS 0) (e_varS 1)) e_int)) (e_varS 2))))) (s_one (s_ret (e_tup (a_cons (e_str zbf713652) (a_cons (e_varS 1) a_nil))))) s_nil))) (s_one (s_ret (e_tup (a_cons (e_str za336b5d4) (a_cons (e_varS 2) a_nil))))))))))
theorem sc_phrase_length : FnScope ["phrase"] ["phrase"] (defScope st_phrase_length) := ⟨rfl, rfl, rfl, by decide +kernel, rfl, by decide +kernel, by decide +kernel⟩
theorem ok_phrase_length {f : Addr} {fd : FuncData} (F : Fun K "phrase_length" "phrase_length" st_phrase_length f fd)  :
    FnOk P w K mg base (L2.CX P w) 1 f fd ["phrase"] (spD ⟨K, ca, T⟩ .s 1 m_phrase_length) := by
  refine fnD F sc_phrase_length rfl (fl := [.s]) (fl' := [.s]) (rest := []) false rfl rfl (fun h => nomatch h) fun cdv A outer s H E hr => ?_
  exact (s_cons (fl1 := [.s]) (s_if (t_cmp (or_eq hr) (od_eq (bw := true) rfl) (e_ix (e_varS 0) e_int) (e_str z8e13ffc9)) (s_one (s_ret e_int)) s_nil) (s_one (s_ret (e_ix (e_varS 0) e_int))))
theorem sc_total_length : FnScope ["phrases", "phrase"] ["phrases"] (defScope st_total_length) := ⟨rfl, rfl, rfl, by decide +kernel, rfl, by decide +kernel, by decide +kernel⟩
theorem ok_total_length {f : Addr} {fd : FuncData} (F : Fun K "total_length" "total_length" st_total_length f fd) (nb : Nb mg) (c_phrase_length : Cal P w K mg base ⟨K, ca, T⟩ "phrase_length" 1 .s 1 m_phrase_length) :
    FnOk P w K mg base (L2.CX P w) 2 f fd ["phrases"] (spD ⟨K, ca, T⟩ .s 1 m_total_length) := by
  refine fnD F sc_total_length rfl (fl := [.s, .s]) (fl' := [.s, .s]) (rest := [.s]) false rfl rfl (fun h => nomatch h) fun cdv A outer s H E hr => ?_
  exact (s_one (s_ret (e_callB (cr_sum rfl) (cd_sum (bw := true) rfl) nb.sum boot_sum' (a_cons (e_frz (e_lc [("phrase", 1)] sc_total_length.nd (i_seq (e_varS 0) gSq_ok) (by show blkC ["phrases", "phrase"] (defScope st_total_length) _ _ = true; decide +kernel) (fun _ _ _ _ _ => by exact (g_name 1 sc_total_length.nd)) (fun _ _ _ _ _ => by exact ts_nil) (fun _ _ _ _ _ => by exact (e_call c_phrase_length hr takes0 (a_cons (e_varS 1) a_nil))))) a_nil))))
theorem sc_is_letter : FnScope ["sign"] ["sign"] (defScope st_is_letter) := ⟨rfl, rfl, rfl, by decide +kernel, rfl, by decide +kernel, by decide +kernel⟩
theorem ok_is_letter {f : Addr} {fd : FuncData} (F : Fun K "is_letter" "is_letter" st_is_letter f fd) (nb : Nb mg) :
    FnOk P w K mg base (L2.CX P w) 1 f fd ["sign"] (spD ⟨K, ca, T⟩ .s 1 m_is_letter) := by
  refine fnD F sc_is_letter rfl (fl := [.s]) (fl' := [.s]) (rest := []) false rfl rfl (fun h => nomatch h) fun cdv A outer s H E hr => ?_
  exact (s_one (s_ret (e_and (e_cmp (or_eq hr) (od_eq (bw := true) rfl) (e_callB call_len (cd_len (bw := true) rfl) nb.len PySem.boot_len (a_cons (e_varS 0) a_nil)) e_int) (e_one (e_cmp (or_in rfl) (od_in (bw := true)) (e_varS 0) (e_gs nb.cLETTERS))))))
theorem sc_is_valid_phrase : FnScope ["phrase"] ["phrase"] (defScope st_is_valid_phrase) := ⟨rfl, rfl, rfl, by decide +kernel, rfl, by decide +kernel, by decide +kernel⟩
theorem ok_is_valid_phrase {f : Addr} {fd : FuncData} (F : Fun K "is_valid_phrase" "is_valid_phrase" st_is_valid_phrase f fd) (c_is_letter : Cal P w K mg base ⟨K, ca, T⟩ "is_letter" 1 .s 1 m_is_letter) :
    FnOk P w K mg base (L2.CX P w) 2 f fd ["phrase"] (spD ⟨K, ca, T⟩ .s 1 m_is_valid_phrase) := by
  refine fnD F sc_is_valid_phrase rfl (fl := [.s]) (fl' := [.s]) (rest := []) false rfl rfl (fun h => nomatch h) fun cdv A outer s H E hr => ?_
  exact (s_cons (fl1 := [.s]) (s_if (t_cmp (or_eq hr) (od_eq (bw := true) rfl) (e_ix (e_varS 0) e_int) (e_str z8e13ffc9)) (s_one (s_ret (e_call c_is_letter hr (takes_of rfl rfl rfl rfl) (a_cons (e_ix (e_varS 0) e_int) a_nil)))) s_nil) (s_one (s_ret (e_and (e_cmp or_ge (od_cmp (bw := true)) (e_ix (e_varS 0) e_int) e_int) (e_one (e_cmp or_ge (od_cmp (bw := true)) (e_ix (e_varS 0) e_int) e_int))))))
theorem sc_check_phrases : FnScope ["phrases", "length", "index", "phrase"] ["phrases"] (defScope st_check_phrases) := ⟨rfl, rfl, rfl, by decide +kernel, rfl, by decide +kernel, by decide +kernel⟩
theorem ok_check_phrases {f : Addr} {fd : FuncData} (F : Fun K "check_phrases" "check_phrases" st_check_phrases f fd) (nb : Nb mg) (xcTooLong : Xcl K mg ⟨K, ca, T⟩ "TooLong") (xrBadPress : XcF P w K mg base ⟨K, ca, T⟩ 1 "BadPress" "index") (c_total_length : Cal P w K mg base ⟨K, ca, T⟩ "total_length" 2 .s 1 m_total_length) (c_is_valid_phrase : Cal P w K mg base ⟨K, ca, T⟩ "is_valid_phrase" 2 .s 1 m_is_valid_phrase) :
    FnOk P w K mg base (L2.CX P w) 3 f fd ["phrases"] (spD ⟨K, ca, T⟩ .s 1 m_check_phrases) := by
  refine fnD F sc_check_phrases rfl (fl := [.s, .s, .s, .s]) (fl' := [.s, .s, .s, .s]) (rest := [.s, .s, .s]) true rfl rfl (fun _ => rfl) fun cdv A outer s H E hr => ?_
  exact (s_cons (fl1 := [.s, .s, .s, .s]) (s_if (t_cmp (or_eq hr) (od_eq (bw := true) rfl) (e_callB call_len (cd_len (bw := true) rfl) nb.len PySem.boot_len (a_cons (e_varS 0) a_nil)) e_int) (s_one (s_raiseF xrBadPress hr (takes_of rfl rfl rfl rfl) e_int)) s_nil) (s_cons (fl1 := [.s, .s, .s, .s]) (s_for (passes_of rfl) (i_enum0 nb.enumerate (e_varS 0)) (g_tup 2 (gs_lenS (gs_lenS gs_len0)) (gs_cons (g_name 2 sc_check_phrases.nd) (gs_cons (g_name 3 sc_check_phrases.nd) gs_nil))) (s_one (s_if (t_not (t_tru (e_toB (e_call c_is_valid_phrase hr (takes_of rfl rfl rfl rfl) (a_cons (e_varS 3) a_nil))))) (s_one (s_raiseF xrBadPress hr (takes_of rfl rfl rfl rfl) (e_varS 2))) s_nil))) (s_cons (fl1 := [.s, .s, .s, .s]) (s_set 1 sc_check_phrases.nd (e_call c_total_length hr (takes_of rfl rfl rfl rfl) (a_cons (e_varS 0) a_nil))) (s_cons (fl1 := [.s, .s, .s, .s]) (s_if (t_cmp or_gt (od_cmp (bw := true)) (e_varS 1) (e_gi nb.cMOST)) (s_one (s_raiseFs xcTooLong nb.cMOST (takes_of rfl rfl rfl rfl) (by decide +kernel) (Nat.le_of_ble_eq_true rfl) (Nat.le_of_ble_eq_true rfl) (Nat.le_of_ble_eq_true rfl))) s_nil) (s_one (s_for (passes_of rfl) (i_enum0 nb.enumerate (e_varS 0)) (g_tup 2 (gs_lenS (gs_lenS gs_len0)) (gs_cons (g_name 2 sc_check_phrases.nd) (gs_cons (g_name 3 sc_check_phrases.nd) gs_nil))) (s_one (s_if (PW.pt (t_and2 (t_cmp (or_eq hr) (od_eq (bw := true) rfl) (e_ix (e_varS 3) e_int) (e_str z12cba3ee)) (t_and1 (t_cmp or_gt (od_cmp (bw := true)) (e_op2 or_add od_add (e_ix (e_varS 3) e_int) (e_ix (e_varS 3) e_int)) (e_varS 1))))) (s_one (s_raiseF xrBadPress hr (takes_of rfl rfl rfl rfl) (e_varS 2))) s_nil))))))))
theorem sc_Copies_init : FnScope ["self", "phrases"] ["self", "phrases"] (defScope st_Copies_init) := ⟨rfl, rfl, rfl, by decide +kernel, rfl, by decide +kernel, by decide +kernel⟩
theorem ok_Copies_init {f : Addr} {fd : FuncData} (F : Fun K "__init__" "Copies.__init__" st_Copies_init f fd) (nb : Nb mg) (fd_Copies_phrases : FldC K "Copies" "phrases") (c_check_phrases : Cal P w K mg base ⟨K, ca, T⟩ "check_phrases" 3 .s 1 m_check_phrases) :
    FnOk P w K mg base (L2.CX P w) 4 f fd ["self", "phrases"] (spI ⟨K, ca, T⟩ "Copies" ["phrases"] 1 m_Copies_init) := by
  refine fnI (fl := [.s]) (fl' := [.s]) (rest := []) F sc_Copies_init rfl rfl rfl rfl fun y C dx hcn cdv A outer s H E hr => ?_
  exact (s_cons (fl1 := [.i y C dx, .s]) (s_expr (e_call c_check_phrases hr (takes_of rfl rfl rfl rfl) (a_cons (e_varS 1) a_nil))) (s_one (s_fldI 0 fd_Copies_phrases hcn (e_callT call_tuple_of (cd_tup rfl) nb.tuple boot_tuple (a_cons (e_varS 1) a_nil)))))
theorem sc_law_try : FnScope ["passed", "e", "kin"] ["passed"] (defScope st_law_try) := ⟨rfl, rfl, rfl, by decide +kernel, rfl, by decide +kernel, by decide +kernel⟩
theorem ok_law_try {f : Addr} {fd : FuncData} (F : Fun K "_law_try" "_law_try" st_law_try f fd) (nb : Nb mg) (kbBadPress_ValueError : PySem.W.kitOne K (.ref (ca "BadPress")) (.type "ValueError") = some true) (kbTooLong_ValueError : PySem.W.kitOne K (.ref (ca "TooLong")) (.type "ValueError") = some true) (xhBadPress : XH K mg ⟨K, ca, T⟩ "BadPress") (xhTooLong : XH K mg ⟨K, ca, T⟩ "TooLong") (xkBadPress_BadLine : XK K mg ⟨K, ca, T⟩ "BadPress" "BadLine" false) (xkBadPress_PressError : XK K mg ⟨K, ca, T⟩ "BadPress" "PressError" true) (xkBadPress_TooLong : XK K mg ⟨K, ca, T⟩ "BadPress" "TooLong" false) (xkTooLong_BadPress : XK K mg ⟨K, ca, T⟩ "TooLong" "BadPress" false) (xkTooLong_PressError : XK K mg ⟨K, ca, T⟩ "TooLong" "PressError" true) (xkTooLong_TooShort : XK K mg ⟨K, ca, T⟩ "TooLong" "TooShort" false) (xlBadPress_index : XfL K ⟨K, ca, T⟩ "BadPress" "index") (xnBadPress_TooLong : PySem.W.exmOne K (.ref (ca "BadPress")) (.ref (ca "TooLong")) = some false) (xnTooLong_BadPress : PySem.W.exmOne K (.ref (ca "TooLong")) (.ref (ca "BadPress")) = some false) (mk_Copies : MkC P w K mg base ⟨K, ca, T⟩ "Copies" 4 ["phrases"] 1 m_Copies_init) :
    FnOk P w K mg base (L2.CX P w) 6 f fd ["passed"] (spD ⟨K, ca, T⟩ .s 1 m_law_try) := by
  refine fnD F sc_law_try rfl (fl := [.s, .s, .s]) (fl' := [.s, .s, .s]) (rest := [.s, .s]) false rfl rfl (fun h => nomatch h) fun cdv A outer s H E hr => ?_
  exact (s_one (s_tryF sc_law_try.nd (takes_of rfl rfl rfl rfl) (fun W2 pn xe tkB hpo => by exact (s_one (s_ret (e_tup (a_cons (e_str za336b5d4) (a_cons (e_make mk_Copies hr tkB (a_cons (e_varS 0) a_nil)) (a_cons e_bl a_nil))))))) (Cls3.cons (flE := fun a eo => [.s, .x (.ref a) eo, .s]) rfl (by decide) xhBadPress.m (tblL_ok xhBadPress.x (nl_cons xnTooLong_BadPress nl_nil)) ⟨rfl, rfl⟩ (fun _ _ => rfl) (fun a oe pn d eo fs hz hv heo => by exact (s_cons (fl1 := [.s, .x (.ref a) eo, .s]) (s_set 2 sc_law_try.nd (e_and (e_isF 1 xhBadPress.e xkBadPress_PressError hz hv heo nb.isinstance) (e_one (e_isFb 1 xhBadPress.e nb.ValueError boot_ValueError kbBadPress_ValueError hz hv heo nb.isinstance)))) (s_one (s_ret (e_tup (a_cons (e_str zbf713652) (a_cons (e_xf 1 xlBadPress_index hz hv heo) (a_cons (e_and (e_varS 2) (e_and (e_not (e_isF 1 xhBadPress.e xkBadPress_BadLine hz hv heo nb.isinstance)) (e_one (e_not (e_isF 1 xhBadPress.e xkBadPress_TooLong hz hv heo nb.isinstance))))) a_nil)))))))) (Cls3.cons (flE := fun a eo => [.s, .x (.ref a) eo, .s]) rfl (by decide) xhTooLong.m (tblL_ok xhTooLong.x (nl_cons xnBadPress_TooLong nl_nil)) ⟨rfl, rfl⟩ (fun _ _ => rfl) (fun a oe pn d eo fs hz hv heo => by exact (s_cons (fl1 := [.s, .x (.ref a) eo, .s]) (s_set 2 sc_law_try.nd (e_and (e_isF 1 xhTooLong.e xkTooLong_PressError hz hv heo nb.isinstance) (e_one (e_isFb 1 xhTooLong.e nb.ValueError boot_ValueError kbTooLong_ValueError hz hv heo nb.isinstance)))) (s_one (s_ret (e_tup (a_cons (e_str z046afc1d) (a_cons e_int (a_cons (e_and (e_varS 2) (e_and (e_not (e_isF 1 xhTooLong.e xkTooLong_BadPress hz hv heo nb.isinstance)) (e_one (e_not (e_isF 1 xhTooLong.e xkTooLong_TooShort hz hv heo nb.isinstance))))) a_nil)))))))) Cls3.nil))))
theorem sc_law_is_int : FnScope ["x"] ["x"] (defScope st_law_is_int) := ⟨rfl, rfl, rfl, by decide +kernel, rfl, by decide +kernel, by decide +kernel⟩
theorem ok_law_is_int {f : Addr} {fd : FuncData} (F : Fun K "_law_is_int" "_law_is_int" st_law_is_int f fd) (nb : Nb mg) :
    FnOk P w K mg base (L2.CX P w) 1 f fd ["x"] (spD ⟨K, ca, T⟩ .s 1 m_law_is_int) := by
  refine fnD F sc_law_is_int rfl (fl := [.s]) (fl' := [.s]) (rest := []) false rfl rfl (fun h => nomatch h) fun cdv A outer s H E hr => ?_
  exact (s_one (s_ret (e_and (e_isi kit_int nb.isinstance nb.int boot_int (e_varS 0)) (e_one (e_not (e_isi kit_bool nb.isinstance nb.bool boot_bool (e_varS 0)))))))
theorem sc_law_same : FnScope ["got", "due", "k"] ["got", "due"] (defScope st_law_same) := ⟨rfl, rfl, rfl, by decide +kernel, rfl, by decide +kernel, by decide +kernel⟩
theorem ok_law_same {f : Addr} {fd : FuncData} (F : Fun K "_law_same" "_law_same" st_law_same f fd) (b : Binds K fd ["got", "due"] []) (hm : mg "_law_same" = some (.ref f)) (nb : Nb mg) (c_law_is_int : Cal P w K mg base ⟨K, ca, T⟩ "_law_is_int" 1 .s 1 m_law_is_int) : ∀ n : Nat,
    FnOk P w K mg base (L2.CX P w) (n + 2) f fd ["got", "due"] (spD ⟨K, ca, T⟩ .s 2 (m_law_same n))
  | 0 => fn_stuck F sc_law_same rfl
  | n + 1 => by
    have crec : Cal P w K mg base ⟨K, ca, T⟩ "_law_same" (n + 2) .s 2 (m_law_same n) := cal_of (ok_law_same F b hm nb c_law_is_int n) F b hm
    refine fnD (k := n + 2) F sc_law_same rfl (b := b_law_same (m_law_same n)) (fl := [.s, .s, .s]) (fl' := [.s, .s, .s]) (rest := [.s]) false rfl rfl (fun h => nomatch h) fun cdv A outer s H E hr => ?_
    exact (s_cons (fl1 := [.s, .s, .s]) (s_if (t_cmp op_isN (od_isN (bw := true)) (e_varS 1) e_non) (s_one (s_ret (e_cmp op_isN (od_isN (bw := true)) (e_varS 0) e_non))) s_nil) (s_cons (fl1 := [.s, .s, .s]) (s_if (t_val (e_isi kit_bool nb.isinstance nb.bool boot_bool (e_varS 1))) (s_one (s_ret (e_and (e_isi kit_bool nb.isinstance nb.bool boot_bool (e_varS 0)) (e_one (e_cmp (or_eq hr) (od_eq (bw := true) rfl) (e_varS 0) (e_varS 1)))))) s_nil) (s_cons (fl1 := [.s, .s, .s]) (s_if (t_val (e_isi kit_int nb.isinstance nb.int boot_int (e_varS 1))) (s_one (s_ret (e_and (e_call c_law_is_int hr (takes_of rfl rfl rfl rfl) (a_cons (e_varS 0) a_nil)) (e_one (e_cmp (or_eq hr) (od_eq (bw := true) rfl) (e_varS 0) (e_varS 1)))))) s_nil) (s_cons (fl1 := [.s, .s, .s]) (s_if (t_val (e_isi kit_str nb.isinstance nb.str boot_str (e_varS 1))) (s_one (s_ret (e_and (e_isi kit_str nb.isinstance nb.str boot_str (e_varS 0)) (e_one (e_cmp (or_eq hr) (od_eq (bw := true) rfl) (e_varS 0) (e_varS 1)))))) s_nil) (s_cons (fl1 := [.s, .s, .s]) (s_if (PW.pt (t_and2 (t_val (e_isi kit_list nb.isinstance nb.list boot_list (e_varS 1))) (t_and1 (t_not (t_val (e_isi kit_list nb.isinstance nb.list boot_list (e_varS 0))))))) (s_one (s_ret e_bl)) s_nil) (s_cons (fl1 := [.s, .s, .s]) (s_if (PW.pt (t_and2 (t_val (e_isi kit_tuple nb.isinstance nb.tuple boot_tuple (e_varS 1))) (t_and1 (t_not (t_val (e_isi kit_tuple nb.isinstance nb.tuple boot_tuple (e_varS 0))))))) (s_one (s_ret e_bl)) s_nil) (s_cons (fl1 := [.s, .s, .s]) (s_if (t_cmp (or_ne hr) (od_ne (bw := true) rfl) (e_callB call_len (cd_len (bw := true) rfl) nb.len PySem.boot_len (a_cons (e_varS 0) a_nil)) (e_callB call_len (cd_len (bw := true) rfl) nb.len PySem.boot_len (a_cons (e_varS 1) a_nil))) (s_one (s_ret e_bl)) s_nil) (s_cons (fl1 := [.s, .s, .s]) (s_for (passes_of rfl) (i_range1 nb.range (a_cons (e_callB call_len (cd_len (bw := true) rfl) nb.len PySem.boot_len (a_cons (e_varS 1) a_nil)) a_nil)) (g_name 2 sc_law_same.nd) (s_one (s_if (t_not (t_val (e_call crec hr (takes_of rfl rfl rfl rfl) (a_cons (e_ix (e_varS 0) (e_varS 2)) (a_cons (e_ix (e_varS 1) (e_varS 2)) a_nil))))) (s_one (s_ret e_bl)) s_nil))) (s_one (s_ret e_bl))))))))))
theorem sc_Copies_size : FnScope ["self"] ["self"] (defScope st_Copies_size) := ⟨rfl, rfl, rfl, by decide +kernel, rfl, by decide +kernel, by decide +kernel⟩
theorem ok_Copies_size {f : Addr} {fd : FuncData} (F : Fun K "size" "Copies.size" st_Copies_size f fd) (nb : Nb mg) (fd_Copies_phrases : FldC K "Copies" "phrases") :
    FnOk P w K mg base (L2.CX P w) 1 f fd ["self"] (spD ⟨K, ca, T⟩ .s 1 m_Copies_size) := by
  refine fnD F sc_Copies_size rfl (fl := [.s]) (fl' := [.s]) (rest := []) false rfl rfl (fun h => nomatch h) fun cdv A outer s H E hr => ?_
  exact (s_one (s_ret (e_callB call_len (cd_len (bw := true) rfl) nb.len PySem.boot_len (a_cons (e_fld (fld_cons fd_Copies_phrases fld_nil) (e_varS 0)) a_nil))))
theorem sc_Copies_length : FnScope ["self"] ["self"] (defScope st_Copies_length) := ⟨rfl, rfl, rfl, by decide +kernel, rfl, by decide +kernel, by decide +kernel⟩
theorem ok_Copies_length {f : Addr} {fd : FuncData} (F : Fun K "length" "Copies.length" st_Copies_length f fd) (fd_Copies_phrases : FldC K "Copies" "phrases") (c_total_length : Cal P w K mg base ⟨K, ca, T⟩ "total_length" 2 .s 1 m_total_length) :
    FnOk P w K mg base (L2.CX P w) 3 f fd ["self"] (spD ⟨K, ca, T⟩ .s 1 m_Copies_length) := by
  refine fnD F sc_Copies_length rfl (fl := [.s]) (fl' := [.s]) (rest := []) false rfl rfl (fun h => nomatch h) fun cdv A outer s H E hr => ?_
  exact (s_one (s_ret (e_call c_total_length hr (takes_of rfl rfl rfl rfl) (a_cons (e_fld (fld_cons fd_Copies_phrases fld_nil) (e_varS 0)) a_nil))))
theorem sc_law_tells : FnScope ["press", "phrases", "size"] ["press", "phrases", "size"] (defScope st_law_tells) := ⟨rfl, rfl, rfl, by decide +kernel, rfl, by decide +kernel, by decide +kernel⟩
theorem ok_law_tells {f : Addr} {fd : FuncData} (F : Fun K "_law_tells" "_law_tells" st_law_tells f fd) (nb : Nb mg) (fd_Copies_phrases : FldC K "Copies" "phrases") (c_law_same : Cal P w K mg base ⟨K, ca, T⟩ "_law_same" 10 .s 2 (m_law_same 8)) (c_Copies_size : MCal P w K mg base ⟨K, ca, T⟩ "Copies" "size" 1 .s 0 m_Copies_size) (c_Copies_length : MCal P w K mg base ⟨K, ca, T⟩ "Copies" "length" 3 .s 0 m_Copies_length) :
    FnOk P w K mg base (L2.CX P w) 11 f fd ["press", "phrases", "size"] (spD ⟨K, ca, T⟩ .s 3 m_law_tells) := by
  refine fnD F sc_law_tells rfl (fl := [.s, .s, .s]) (fl' := [.s, .s, .s]) (rest := []) false rfl rfl (fun h => nomatch h) fun cdv A outer s H E hr => ?_
  exact (s_cons (fl1 := [.s, .s, .s]) (s_if (t_not (t_val (e_call c_law_same hr (takes_of rfl rfl rfl rfl) (a_cons (e_fld (fld_cons fd_Copies_phrases fld_nil) (e_varS 0)) (a_cons (e_callT call_tuple_of (cd_tup rfl) nb.tuple boot_tuple (a_cons (e_varS 1) a_nil)) a_nil))))) (s_one (s_ret e_bl)) s_nil) (s_one (s_ret (e_and (e_call c_law_same hr (takes_of rfl rfl rfl rfl) (a_cons (e_meth0 (k := 1) (rs := .s) (tab_cons c_Copies_size tab_nil) hr (takes_of rfl rfl rfl rfl) (e_varS 0)) (a_cons (e_callB call_len (cd_len (bw := true) rfl) nb.len PySem.boot_len (a_cons (e_varS 1) a_nil)) a_nil))) (e_one (e_call c_law_same hr (takes_of rfl rfl rfl rfl) (a_cons (e_meth0 (k := 3) (rs := .s) (tab_cons c_Copies_length tab_nil) hr (takes_of rfl rfl rfl rfl) (e_varS 0)) (a_cons (e_varS 2) a_nil))))))))
theorem sc_law_holds : FnScope ["phrases", "due", "passed", "got"] ["phrases"] (defScope st_law_holds) := ⟨rfl, rfl, rfl, by decide +kernel, rfl, by decide +kernel, by decide +kernel⟩
theorem ok_law_holds {f : Addr} {fd : FuncData} (F : Fun K "_law_holds" "_law_holds" st_law_holds f fd) (nb : Nb mg) (c_law_due : Cal P w K mg base ⟨K, ca, T⟩ "_law_due" 2 .s 1 m_law_due) (c_law_try : Cal P w K mg base ⟨K, ca, T⟩ "_law_try" 6 .s 1 m_law_try) (c_law_same : Cal P w K mg base ⟨K, ca, T⟩ "_law_same" 10 .s 2 (m_law_same 8)) (c_law_tells : Cal P w K mg base ⟨K, ca, T⟩ "_law_tells" 11 .s 3 m_law_tells) :
    FnOk P w K mg base (L2.CX P w) 12 f fd ["phrases"] (spD ⟨K, ca, T⟩ .s 1 m_law_holds) := by
  refine fnD F sc_law_holds rfl (fl := [.s, .s, .l .s, .s]) (fl' := [.s, .s, .l .s, .s]) (rest := [.s, (.l .s), .s]) false rfl rfl (fun h => nomatch h) fun cdv A outer s H E hr => ?_
  exact (s_cons (fl1 := [.s, .s, .l .s, .s]) (s_set 1 sc_law_holds.nd (e_call c_law_due hr (takes_of rfl rfl rfl rfl) (a_cons (e_varS 0) a_nil))) (s_cons (fl1 := [.s, .s, .l .s, .s]) (s_set 2 sc_law_holds.nd (e_callT call_list_of (cd_list rfl) nb.list boot_list (a_cons (e_varS 0) a_nil))) (s_cons (fl1 := [.s, .s, .l .s, .s]) (s_set 3 sc_law_holds.nd (e_callL c_law_try hr (takes_of rfl rfl rfl rfl) (al_cons (l_own 2) al_nil))) (s_cons (fl1 := [.s, .s, .l .s, .s]) (s_if (t_not (t_val (e_callL c_law_same hr (takes_of rfl rfl rfl rfl) (al_cons (l_own 2) (al_cons (l_s (e_varS 0)) al_nil))))) (s_one (s_ret e_bl)) s_nil) (s_cons (fl1 := [.s, .s, .l .s, .s]) (s_if (t_cmp (or_ne hr) (od_ne (bw := true) rfl) (e_ix (e_varS 1) e_int) (e_str za336b5d4)) (s_one (s_ret (e_call c_law_same hr (takes_of rfl rfl rfl rfl) (a_cons (e_varS 3) (a_cons (e_tup (a_cons (e_ix (e_varS 1) e_int) (a_cons (e_ix (e_varS 1) e_int) (a_cons e_bl a_nil)))) a_nil))))) s_nil) (s_cons (fl1 := [.s, .s, .l .s, .s]) (s_if (PW.pt (t_or2 (t_cmp (or_ne hr) (od_ne (bw := true) rfl) (e_ix (e_varS 3) e_int) (e_str za336b5d4)) (t_or1 (t_not (t_val (e_call c_law_tells hr (takes_of rfl rfl rfl rfl) (a_cons (e_ix (e_varS 3) e_int) (a_cons (e_varS 0) (a_cons (e_ix (e_varS 1) e_int) a_nil))))))))) (s_one (s_ret e_bl)) s_nil) (s_cons (fl1 := [.s, .s, .l .s, .s]) (s_setix 2 (e_tup (a_cons (e_str z12cba3ee) (a_cons e_int (a_cons e_int a_nil)))) e_int) (s_cons (fl1 := [.s, .s, .l .s, .s]) (s_append 2 (e_tup (a_cons (e_str z8e13ffc9) (a_cons (e_str [122]) a_nil)))) (s_one (s_ret (e_call c_law_tells hr (takes_of rfl rfl rfl rfl) (a_cons (e_ix (e_varS 3) e_int) (a_cons (e_varS 0) (a_cons (e_ix (e_varS 1) e_int) a_nil))))))))))))))
theorem sc_law_size : FnScope ["mode", "number", "most"] ["mode", "number", "most"] (defScope st_law_size) := ⟨rfl, rfl, rfl, by decide +kernel, rfl, by decide +kernel, by decide +kernel⟩
theorem ok_law_size {f : Addr} {fd : FuncData} (F : Fun K "_law_size" "_law_size" st_law_size f fd) (nb : Nb mg) :
    FnOk P w K mg base (L2.CX P w) 1 f fd ["mode", "number", "most"] (spD ⟨K, ca, T⟩ .s 3 m_law_size) := by
  refine fnD F sc_law_size rfl (fl := [.s, .s, .s]) (fl' := [.s, .s, .s]) (rest := []) false rfl rfl (fun h => nomatch h) fun cdv A outer s H E hr => ?_
  exact (s_cons (fl1 := [.s, .s, .s]) (s_if (t_cmp or_lt (od_cmp (bw := true)) (e_varS 0) e_int) (s_one (s_ret (e_op2 or_add od_add e_int (e_op2 op_mod (od_mod (bw := true)) (e_callT call_int1 (cd_int (bw := true)) nb.int boot_int (a_cons (e_varS 1) a_nil)) (e_callB (call_min2 rfl) (cd_min (bw := true)) nb.min boot_min' (a_cons e_int (a_cons (e_varS 2) a_nil))))))) s_nil) (s_cons (fl1 := [.s, .s, .s]) (s_if (t_cmp or_lt (od_cmp (bw := true)) (e_varS 0) e_int) (s_one (s_ret (e_op2 or_add od_add e_int (e_op2 op_mod (od_mod (bw := true)) (e_callT call_int1 (cd_int (bw := true)) nb.int boot_int (a_cons (e_varS 1) a_nil)) (e_callB (call_min2 rfl) (cd_min (bw := true)) nb.min boot_min' (a_cons e_int (a_cons (e_varS 2) a_nil))))))) s_nil) (s_one (s_ret (e_op2 or_add od_add e_int (e_op2 op_mod (od_mod (bw := true)) (e_callT call_int1 (cd_int (bw := true)) nb.int boot_int (a_cons (e_varS 1) a_nil)) (e_varS 2)))))))
theorem sc_law_press : FnScope ["cell", "most", "head", "told", "size", "reach", "many_letters", "parts", "phrases", "place", "k", "many", "start"] ["cell", "most"] (defScope st_law_press) := ⟨rfl, rfl, rfl, by decide +kernel, rfl, by decide +kernel, by decide +kernel⟩
theorem ok_law_press {f : Addr} {fd : FuncData} (F : Fun K "_law_press" "_law_press" st_law_press f fd) (nb : Nb mg) (c_law_draws : Cal P w K mg base ⟨K, ca, T⟩ "_law_draws" 1 .s 2 m_law_draws) (c_law_letter : Cal P w K mg base ⟨K, ca, T⟩ "_law_letter" 1 .s 1 m_law_letter) (c_law_size : Cal P w K mg base ⟨K, ca, T⟩ "_law_size" 1 .s 3 m_law_size) :
    FnOk P w K mg base (L2.CX P w) 2 f fd ["cell", "most"] (spD ⟨K, ca, T⟩ .s 2 m_law_press) := by
  refine fnD F sc_law_press rfl (fl := [.s, .s, .s, .s, .s, .s, .s, .s, .l .s, .s, .s, .s, .s]) (fl' := [.s, .s, .s, .s, .s, .s, .s, .s, .s, .s, .s, .s, .s]) (rest := [.s, .s, .s, .s, .s, .s, (.l .s), .s, .s, .s, .s]) false rfl rfl (fun h => nomatch h) fun cdv A outer s H E hr => ?_
  exact (s_cons (fl1 := [.s, .s, .s, .s, .s, .s, .s, .s, .l .s, .s, .s, .s, .s]) (s_set 2 sc_law_press.nd (e_frz (e_lst (a_cons e_int (a_cons (e_varS 1) (a_cons e_int (a_cons e_int a_nil))))))) (s_cons (fl1 := [.s, .s, .s, .s, .s, .s, .s, .s, .l .s, .s, .s, .s, .s]) (s_set 3 sc_law_press.nd (e_call c_law_draws hr (takes_of rfl rfl rfl rfl) (a_cons (e_varS 0) (a_cons (e_varS 2) a_nil)))) (s_cons (fl1 := [.s, .s, .s, .s, .s, .s, .s, .s, .l .s, .s, .s, .s, .s]) (s_set 4 sc_law_press.nd (e_call c_law_size hr (takes_of rfl rfl rfl rfl) (a_cons (e_ix (e_varS 3) e_int) (a_cons (e_ix (e_varS 3) e_int) (a_cons (e_varS 1) a_nil))))) (s_cons (fl1 := [.s, .s, .s, .s, .s, .s, .s, .s, .l .s, .s, .s, .s, .s]) (s_set 5 sc_law_press.nd (e_ix (e_frz (e_lst (a_cons e_int (a_cons e_int (a_cons (e_varS 1) a_nil))))) (e_ix (e_varS 3) e_int))) (s_cons (fl1 := [.s, .s, .s, .s, .s, .s, .s, .s, .l .s, .s, .s, .s, .s]) (s_set 6 sc_law_press.nd (e_ix (e_frz (e_lst (a_cons e_int (a_cons e_int a_nil)))) (e_ix (e_varS 3) e_int))) (s_cons (fl1 := [.s, .s, .s, .s, .s, .s, .s, .s, .l .s, .s, .s, .s, .s]) (s_set 7 sc_law_press.nd (e_sl (e_call c_law_draws hr (takes_of rfl rfl rfl rfl) (a_cons (e_varS 0) (a_cons (e_op2 or_add od_add (e_varS 2) (e_op2 or_mul od_mul (e_frz (e_lst (a_cons e_int (a_cons e_int (a_cons (e_varS 1) (a_cons (e_varS 1) a_nil)))))) (e_varS 4))) a_nil))) (o_some e_int) o_none)) (s_cons (fl1 := [.s, .s, .s, .s, .s, .s, .s, .s, .l .s, .s, .s, .s, .s]) (s_set 8 sc_law_press.nd (e_lst a_nil)) (s_cons (fl1 := [.s, .s, .s, .s, .s, .s, .s, .s, .l .s, .s, .s, .s, .s]) (s_set 9 sc_law_press.nd e_int) (s_cons (fl1 := [.s, .s, .s, .s, .s, .s, .s, .s, .l .s, .s, .s, .s, .s]) (s_for (passes_of rfl) (i_range1 nb.range (a_cons (e_varS 4) a_nil)) (g_name 10 sc_law_press.nd) (s_one (s_if (PW.pt (t_and2 (t_cmp or_lt (od_cmp (bw := true)) (e_varS 9) (e_varS 4)) (t_and1 (t_cmp or_lt (od_cmp (bw := true)) (e_ix (e_varS 7) (e_op2 or_mul od_mul e_int (e_varS 10))) e_int)))) (s_cons (fl1 := [.s, .s, .s, .s, .s, .s, .s, .s, .l .s, .s, .s, .s, .s]) (s_append 8 (e_tup (a_cons (e_str z8e13ffc9) (a_cons (e_call c_law_letter hr (takes_of rfl rfl rfl rfl) (a_cons (e_op2 op_mod (od_mod (bw := true)) (e_callT call_int1 (cd_int (bw := true)) nb.int boot_int (a_cons (e_ix (e_varS 7) (e_op2 or_add od_add (e_op2 or_mul od_mul e_int (e_varS 10)) e_int)) a_nil)) (e_varS 6)) a_nil)) a_nil)))) (s_one (s_set 9 sc_law_press.nd (e_op2 or_add od_add (e_varS 9) e_int)))) (s_one (s_if (t_cmp or_lt (od_cmp (bw := true)) (e_varS 9) (e_varS 4)) (s_cons (fl1 := [.s, .s, .s, .s, .s, .s, .s, .s, .l .s, .s, .s, .s, .s]) (s_set 11 sc_law_press.nd (e_op2 or_add od_add e_int (e_op2 op_mod (od_mod (bw := true)) (e_callT call_int1 (cd_int (bw := true)) nb.int boot_int (a_cons (e_ix (e_varS 7) (e_op2 or_add od_add (e_op2 or_mul od_mul e_int (e_varS 10)) e_int)) a_nil)) (e_callB (call_min2 rfl) (cd_min (bw := true)) nb.min boot_min' (a_cons (e_varS 5) (a_cons (e_op2 op_sub (od_sub (bw := true)) (e_varS 4) (e_varS 9)) a_nil)))))) (s_cons (fl1 := [.s, .s, .s, .s, .s, .s, .s, .s, .l .s, .s, .s, .s, .s]) (s_set 12 sc_law_press.nd (e_op2 op_mod (od_mod (bw := true)) (e_callT call_int1 (cd_int (bw := true)) nb.int boot_int (a_cons (e_ix (e_varS 7) (e_op2 or_add od_add (e_op2 or_mul od_mul e_int (e_varS 10)) e_int)) a_nil)) (e_op2 or_add od_add (e_op2 op_sub (od_sub (bw := true)) (e_varS 4) (e_varS 11)) e_int))) (s_cons (fl1 := [.s, .s, .s, .s, .s, .s, .s, .s, .l .s, .s, .s, .s, .s]) (s_if (PW.pt (t_and2 (t_cmp (or_eq hr) (od_eq (bw := true) rfl) (e_ix (e_varS 7) (e_op2 or_mul od_mul e_int (e_varS 10))) e_int) (t_and1 (t_cmp or_gt (od_cmp (bw := true)) (e_varS 9) e_int)))) (s_one (s_set 12 sc_law_press.nd (e_op2 op_mod (od_mod (bw := true)) (e_callT call_int1 (cd_int (bw := true)) nb.int boot_int (a_cons (e_ix (e_varS 7) (e_op2 or_add od_add (e_op2 or_mul od_mul e_int (e_varS 10)) e_int)) a_nil)) (e_varS 9)))) s_nil) (s_cons (fl1 := [.s, .s, .s, .s, .s, .s, .s, .s, .l .s, .s, .s, .s, .s]) (s_append 8 (e_tup (a_cons (e_str z12cba3ee) (a_cons (e_varS 12) (a_cons (e_varS 11) a_nil))))) (s_one (s_set 9 sc_law_press.nd (e_op2 or_add od_add (e_varS 9) (e_varS 11)))))))) s_nil))))) (ss_frz 8 (s_one (s_ret (e_varS 8)))))))))))))
theorem sc_law : FnScope ["script", "told", "phrases", "twin"] ["script"] (defScope st_law) := ⟨rfl, rfl, rfl, by decide +kernel, rfl, by decide +kernel, by decide +kernel⟩
theorem ok_law {f : Addr} {fd : FuncData} (F : Fun K "law" "law" st_law f fd) (c_law_draws : Cal P w K mg base ⟨K, ca, T⟩ "_law_draws" 1 .s 2 m_law_draws) (c_law_padded : Cal P w K mg base ⟨K, ca, T⟩ "_law_padded" 2 .s 2 m_law_padded) (c_law_cell : Cal P w K mg base ⟨K, ca, T⟩ "_law_cell" 1 .s 2 m_law_cell) (c_law_twin : Cal P w K mg base ⟨K, ca, T⟩ "_law_twin" 3 .s 3 m_law_twin) (c_law_holds : Cal P w K mg base ⟨K, ca, T⟩ "_law_holds" 12 .s 1 m_law_holds) (c_law_press : Cal P w K mg base ⟨K, ca, T⟩ "_law_press" 2 .s 2 m_law_press) :
    FnOk P w K mg base (L2.CX P w) 13 f fd ["script"] (spD ⟨K, ca, T⟩ .s 1 m_law) := by
  refine fnD F sc_law rfl (fl := [.s, .s, .s, .s]) (fl' := [.s, .s, .s, .s]) (rest := [.s, .s, .s]) false rfl rfl (fun h => nomatch h) fun cdv A outer s H E hr => ?_
  exact (s_cons (fl1 := [.s, .s, .s, .s]) (s_set 1 sc_law.nd (e_call c_law_draws hr (takes_of rfl rfl rfl rfl) (a_cons (e_call c_law_cell hr (takes_of rfl rfl rfl rfl) (a_cons (e_varS 0) (a_cons e_int a_nil))) (a_cons (e_op2 or_add od_add (e_frz (e_lst (a_cons e_int (a_cons e_int (a_cons e_int (a_cons e_int (a_cons e_int (a_cons e_int a_nil)))))))) (e_op2 or_mul od_mul (e_frz (e_lst (a_cons e_int (a_cons e_int (a_cons e_int (a_cons e_int (a_cons e_int a_nil))))))) e_int)) a_nil)))) (s_cons (fl1 := [.s, .s, .s, .s]) (s_set 2 sc_law.nd (e_call c_law_padded hr (takes_of rfl rfl rfl rfl) (a_cons (e_call c_law_press hr (takes_of rfl rfl rfl rfl) (a_cons (e_call c_law_cell hr (takes_of rfl rfl rfl rfl) (a_cons (e_varS 0) (a_cons e_int a_nil))) (a_cons e_int a_nil))) (a_cons (e_varS 1) a_nil)))) (s_cons (fl1 := [.s, .s, .s, .s]) (s_set 3 sc_law.nd (e_call c_law_twin hr (takes_of rfl rfl rfl rfl) (a_cons (e_varS 2) (a_cons (e_varS 1) (a_cons (e_varS 0) a_nil))))) (s_cons (fl1 := [.s, .s, .s, .s]) (s_if (PW.pt (t_or2 (t_not (t_tru (e_toB (e_call c_law_holds hr (takes_of rfl rfl rfl rfl) (a_cons (e_varS 2) a_nil))))) (t_or1 (t_not (t_tru (e_toB (e_call c_law_holds hr (takes_of rfl rfl rfl rfl) (a_cons (e_varS 3) a_nil)))))))) (s_one (s_ret e_bl)) s_nil) (s_one (s_ret (e_call c_law_holds hr (takes_of rfl rfl rfl rfl) (a_cons (e_varS 2) a_nil))))))))
end
theorem at_law {l : PySem.W.OpenLaw} {w : World} {K : PySem.W.Frag} {h : Heap} {mg : Str → Option Value} {fa f0 f1 f2 f3 f4 f5 f6 f7 f8 f9 f10 f11 f12 f13 f14 f15 f16 f17 f18 f19 f20 f21 f22 f23 f24 f25 x0 x1 x2 x3 x4 x5 : Addr} {od0 an0 od1 an1 od2 an2 od3 an3 od4 an4 od5 an5 od6 an6 od7 an7 od8 an8 od9 an9 od10 an10 od11 an11 od12 an12 od13 an13 od14 an14 od15 an15 od16 an16 od17 an17 od18 an18 od19 an19 od20 an20 od21 an21 od22 an22 od23 an23 od24 an24 od25 an25 : Option Addr} {sl0 sl1 sl2 sl3 sl4 sl5 sl6 sl7 sl8 sl9 sl10 sl11 sl12 sl13 sl14 sl15 sl16 sl17 sl18 sl19 sl20 sl21 sl22 sl23 sl24 sl25 : Array (Option Value)} {oc0 kV0 dc0 pm0 ct0 cd0 oc1 kV1 dc1 pm1 ct1 cd1 oc2 kV2 dc2 pm2 ct2 cd2 oc3 kV3 dc3 pm3 ct3 cd3 oc4 kV4 dc4 pm4 ct4 cd4 oc5 kV5 dc5 pm5 ct5 cd5 oc6 kV6 dc6 pm6 ct6 cd6 oc7 kV7 dc7 pm7 ct7 cd7 oc8 kV8 dc8 pm8 ct8 cd8 oc9 kV9 dc9 pm9 ct9 cd9 oc10 kV10 dc10 pm10 ct10 cd10 oc11 kV11 dc11 pm11 ct11 cd11 oc12 kV12 dc12 pm12 ct12 cd12 oc13 kV13 dc13 pm13 ct13 cd13 oc14 kV14 dc14 pm14 ct14 cd14 oc15 kV15 dc15 pm15 ct15 cd15 oc16 kV16 dc16 pm16 ct16 cd16 oc17 kV17 dc17 pm17 ct17 cd17 oc18 kV18 dc18 pm18 ct18 cd18 oc19 kV19 dc19 pm19 ct19 cd19 oc20 kV20 dc20 pm20 ct20 cd20 oc21 kV21 dc21 pm21 ct21 cd21 oc22 kV22 dc22 pm22 ct22 cd22 oc23 kV23 dc23 pm23 ct23 cd23 oc24 kV24 dc24 pm24 ct24 cd24 oc25 kV25 dc25 pm25 ct25 cd25 : Value} {xf1 xcd1 xcc1 : Addr} {xoc1 xkV1 xdc1 xpm1 xct1 xccl1 xcl1 : Value} {xod1 xan1 xcdd1 xcld1 : Option Addr} {xsl1 xccs1 xcsl1 : Array (Option Value)} {xvs1 : Array Value} {xfile1 : Str} {xtf1 : Tok} {tcLETTERS : Tok} {ycLETTERS : Str} {tcMOST : Tok} (X : K.In h) (G : h.Ns mainGlobals mg) (hfa : mg "law" = some (.ref fa)) 
    (xa0 : PySem.W.nsIn K mainGlobals "BadLine" = some (some (.ref x0)))
    (xa1 : PySem.W.nsIn K mainGlobals "BadPress" = some (some (.ref x1)))
    (xa2 : PySem.W.nsIn K mainGlobals "Copies" = some (some (.ref x2)))
    (xa3 : PySem.W.nsIn K mainGlobals "PressError" = some (some (.ref x3)))
    (xa4 : PySem.W.nsIn K mainGlobals "TooLong" = some (some (.ref x4)))
    (xa5 : PySem.W.nsIn K mainGlobals "TooShort" = some (some (.ref x5)))
    (a0 : PySem.W.nsIn K mainGlobals "_law_draws" = some (some (.ref f0)))
    (l0 : K.lookup f0 = some ⟨oc0, od0, .func (PySem.W.fnOf "_law_draws" "_law_draws" (defArgs st_law_draws) (defBody st_law_draws) (defScope st_law_draws) .none kV0 dc0 pm0 an0 cd0 ct0), sl0⟩)
    (d0 : PySem.W.codeIn K cd0 "_law_draws" = true)
    (k0 : PySem.W.keepIn K (.ref f0) = true)
    (a1 : PySem.W.nsIn K mainGlobals "_law_many" = some (some (.ref f1)))
    (l1 : K.lookup f1 = some ⟨oc1, od1, .func (PySem.W.fnOf "_law_many" "_law_many" (defArgs st_law_many) (defBody st_law_many) (defScope st_law_many) .none kV1 dc1 pm1 an1 cd1 ct1), sl1⟩)
    (d1 : PySem.W.codeIn K cd1 "_law_many" = true)
    (k1 : PySem.W.keepIn K (.ref f1) = true)
    (a2 : PySem.W.nsIn K mainGlobals "_law_letter" = some (some (.ref f2)))
    (l2 : K.lookup f2 = some ⟨oc2, od2, .func (PySem.W.fnOf "_law_letter" "_law_letter" (defArgs st_law_letter) (defBody st_law_letter) (defScope st_law_letter) .none kV2 dc2 pm2 an2 cd2 ct2), sl2⟩)
    (d2 : PySem.W.codeIn K cd2 "_law_letter" = true)
    (k2 : PySem.W.keepIn K (.ref f2) = true)
    (a3 : PySem.W.nsIn K mainGlobals "_law_padded" = some (some (.ref f3)))
    (l3 : K.lookup f3 = some ⟨oc3, od3, .func (PySem.W.fnOf "_law_padded" "_law_padded" (defArgs st_law_padded) (defBody st_law_padded) (defScope st_law_padded) .none kV3 dc3 pm3 an3 cd3 ct3), sl3⟩)
    (d3 : PySem.W.codeIn K cd3 "_law_padded" = true)
    (k3 : PySem.W.keepIn K (.ref f3) = true)
    (a4 : PySem.W.nsIn K mainGlobals "_law_signed" = some (some (.ref f4)))
    (l4 : K.lookup f4 = some ⟨oc4, od4, .func (PySem.W.fnOf "_law_signed" "_law_signed" (defArgs st_law_signed) (defBody st_law_signed) (defScope st_law_signed) .none kV4 dc4 pm4 an4 cd4 ct4), sl4⟩)
    (d4 : PySem.W.codeIn K cd4 "_law_signed" = true)
    (k4 : PySem.W.keepIn K (.ref f4) = true)
    (a5 : PySem.W.nsIn K mainGlobals "_law_cell" = some (some (.ref f5)))
    (l5 : K.lookup f5 = some ⟨oc5, od5, .func (PySem.W.fnOf "_law_cell" "_law_cell" (defArgs st_law_cell) (defBody st_law_cell) (defScope st_law_cell) .none kV5 dc5 pm5 an5 cd5 ct5), sl5⟩)
    (d5 : PySem.W.codeIn K cd5 "_law_cell" = true)
    (k5 : PySem.W.keepIn K (.ref f5) = true)
    (a6 : PySem.W.nsIn K mainGlobals "_law_sign" = some (some (.ref f6)))
    (l6 : K.lookup f6 = some ⟨oc6, od6, .func (PySem.W.fnOf "_law_sign" "_law_sign" (defArgs st_law_sign) (defBody st_law_sign) (defScope st_law_sign) .none kV6 dc6 pm6 an6 cd6 ct6), sl6⟩)
    (d6 : PySem.W.codeIn K cd6 "_law_sign" = true)
    (k6 : PySem.W.keepIn K (.ref f6) = true)
    (a7 : PySem.W.nsIn K mainGlobals "_law_odd" = some (some (.ref f7)))
    (l7 : K.lookup f7 = some ⟨oc7, od7, .func (PySem.W.fnOf "_law_odd" "_law_odd" (defArgs st_law_odd) (defBody st_law_odd) (defScope st_law_odd) .none kV7 dc7 pm7 an7 cd7 ct7), sl7⟩)
    (d7 : PySem.W.codeIn K cd7 "_law_odd" = true)
    (k7 : PySem.W.keepIn K (.ref f7) = true)
    (a8 : PySem.W.nsIn K mainGlobals "_law_twin" = some (some (.ref f8)))
    (l8 : K.lookup f8 = some ⟨oc8, od8, .func (PySem.W.fnOf "_law_twin" "_law_twin" (defArgs st_law_twin) (defBody st_law_twin) (defScope st_law_twin) .none kV8 dc8 pm8 an8 cd8 ct8), sl8⟩)
    (d8 : PySem.W.codeIn K cd8 "_law_twin" = true)
    (k8 : PySem.W.keepIn K (.ref f8) = true)
    (a9 : PySem.W.nsIn K mainGlobals "_law_due" = some (some (.ref f9)))
    (l9 : K.lookup f9 = some ⟨oc9, od9, .func (PySem.W.fnOf "_law_due" "_law_due" (defArgs st_law_due) (defBody st_law_due) (defScope st_law_due) .none kV9 dc9 pm9 an9 cd9 ct9), sl9⟩)
    (d9 : PySem.W.codeIn K cd9 "_law_due" = true)
    (k9 : PySem.W.keepIn K (.ref f9) = true)
    (a10 : PySem.W.nsIn K mainGlobals "phrase_length" = some (some (.ref f10)))
    (l10 : K.lookup f10 = some ⟨oc10, od10, .func (PySem.W.fnOf "phrase_length" "phrase_length" (defArgs st_phrase_length) (defBody st_phrase_length) (defScope st_phrase_length) .none kV10 dc10 pm10 an10 cd10 ct10), sl10⟩)
    (d10 : PySem.W.codeIn K cd10 "phrase_length" = true)
    (k10 : PySem.W.keepIn K (.ref f10) = true)
    (a11 : PySem.W.nsIn K mainGlobals "total_length" = some (some (.ref f11)))
    (l11 : K.lookup f11 = some ⟨oc11, od11, .func (PySem.W.fnOf "total_length" "total_length" (defArgs st_total_length) (defBody st_total_length) (defScope st_total_length) .none kV11 dc11 pm11 an11 cd11 ct11), sl11⟩)
    (d11 : PySem.W.codeIn K cd11 "total_length" = true)
    (k11 : PySem.W.keepIn K (.ref f11) = true)
    (a12 : PySem.W.nsIn K mainGlobals "is_letter" = some (some (.ref f12)))
    (l12 : K.lookup f12 = some ⟨oc12, od12, .func (PySem.W.fnOf "is_letter" "is_letter" (defArgs st_is_letter) (defBody st_is_letter) (defScope st_is_letter) .none kV12 dc12 pm12 an12 cd12 ct12), sl12⟩)
    (d12 : PySem.W.codeIn K cd12 "is_letter" = true)
    (k12 : PySem.W.keepIn K (.ref f12) = true)
    (a13 : PySem.W.nsIn K mainGlobals "is_valid_phrase" = some (some (.ref f13)))
    (l13 : K.lookup f13 = some ⟨oc13, od13, .func (PySem.W.fnOf "is_valid_phrase" "is_valid_phrase" (defArgs st_is_valid_phrase) (defBody st_is_valid_phrase) (defScope st_is_valid_phrase) .none kV13 dc13 pm13 an13 cd13 ct13), sl13⟩)
    (d13 : PySem.W.codeIn K cd13 "is_valid_phrase" = true)
    (k13 : PySem.W.keepIn K (.ref f13) = true)
    (a14 : PySem.W.nsIn K mainGlobals "check_phrases" = some (some (.ref f14)))
    (l14 : K.lookup f14 = some ⟨oc14, od14, .func (PySem.W.fnOf "check_phrases" "check_phrases" (defArgs st_check_phrases) (defBody st_check_phrases) (defScope st_check_phrases) .none kV14 dc14 pm14 an14 cd14 ct14), sl14⟩)
    (d14 : PySem.W.codeIn K cd14 "check_phrases" = true)
    (k14 : PySem.W.keepIn K (.ref f14) = true)
    (a15 : PySem.W.findIn K (.ref x2) "__init__" = some (some (.ref f15)))
    (j15 : PySem.W.isFn K (.ref f15) = true)
    (l15 : K.lookup f15 = some ⟨oc15, od15, .func (PySem.W.fnOf "__init__" "Copies.__init__" (defArgs st_Copies_init) (defBody st_Copies_init) (defScope st_Copies_init) .none kV15 dc15 pm15 an15 cd15 ct15), sl15⟩)
    (d15 : PySem.W.codeIn K cd15 "Copies.__init__" = true)
    (k15 : PySem.W.keepIn K (.ref f15) = true)
    (a16 : PySem.W.nsIn K mainGlobals "_law_try" = some (some (.ref f16)))
    (l16 : K.lookup f16 = some ⟨oc16, od16, .func (PySem.W.fnOf "_law_try" "_law_try" (defArgs st_law_try) (defBody st_law_try) (defScope st_law_try) .none kV16 dc16 pm16 an16 cd16 ct16), sl16⟩)
    (d16 : PySem.W.codeIn K cd16 "_law_try" = true)
    (k16 : PySem.W.keepIn K (.ref f16) = true)
    (a17 : PySem.W.nsIn K mainGlobals "_law_is_int" = some (some (.ref f17)))
    (l17 : K.lookup f17 = some ⟨oc17, od17, .func (PySem.W.fnOf "_law_is_int" "_law_is_int" (defArgs st_law_is_int) (defBody st_law_is_int) (defScope st_law_is_int) .none kV17 dc17 pm17 an17 cd17 ct17), sl17⟩)
    (d17 : PySem.W.codeIn K cd17 "_law_is_int" = true)
    (k17 : PySem.W.keepIn K (.ref f17) = true)
    (a18 : PySem.W.nsIn K mainGlobals "_law_same" = some (some (.ref f18)))
    (l18 : K.lookup f18 = some ⟨oc18, od18, .func (PySem.W.fnOf "_law_same" "_law_same" (defArgs st_law_same) (defBody st_law_same) (defScope st_law_same) .none kV18 dc18 pm18 an18 cd18 ct18), sl18⟩)
    (d18 : PySem.W.codeIn K cd18 "_law_same" = true)
    (k18 : PySem.W.keepIn K (.ref f18) = true)
    (a19 : PySem.W.findIn K (.ref x2) "size" = some (some (.ref f19)))
    (j19 : PySem.W.isFn K (.ref f19) = true)
    (l19 : K.lookup f19 = some ⟨oc19, od19, .func (PySem.W.fnOf "size" "Copies.size" (defArgs st_Copies_size) (defBody st_Copies_size) (defScope st_Copies_size) .none kV19 dc19 pm19 an19 cd19 ct19), sl19⟩)
    (d19 : PySem.W.codeIn K cd19 "Copies.size" = true)
    (k19 : PySem.W.keepIn K (.ref f19) = true)
    (a20 : PySem.W.findIn K (.ref x2) "length" = some (some (.ref f20)))
    (j20 : PySem.W.isFn K (.ref f20) = true)
    (l20 : K.lookup f20 = some ⟨oc20, od20, .func (PySem.W.fnOf "length" "Copies.length" (defArgs st_Copies_length) (defBody st_Copies_length) (defScope st_Copies_length) .none kV20 dc20 pm20 an20 cd20 ct20), sl20⟩)
    (d20 : PySem.W.codeIn K cd20 "Copies.length" = true)
    (k20 : PySem.W.keepIn K (.ref f20) = true)
    (a21 : PySem.W.nsIn K mainGlobals "_law_tells" = some (some (.ref f21)))
    (l21 : K.lookup f21 = some ⟨oc21, od21, .func (PySem.W.fnOf "_law_tells" "_law_tells" (defArgs st_law_tells) (defBody st_law_tells) (defScope st_law_tells) .none kV21 dc21 pm21 an21 cd21 ct21), sl21⟩)
    (d21 : PySem.W.codeIn K cd21 "_law_tells" = true)
    (k21 : PySem.W.keepIn K (.ref f21) = true)
    (a22 : PySem.W.nsIn K mainGlobals "_law_holds" = some (some (.ref f22)))
    (l22 : K.lookup f22 = some ⟨oc22, od22, .func (PySem.W.fnOf "_law_holds" "_law_holds" (defArgs st_law_holds) (defBody st_law_holds) (defScope st_law_holds) .none kV22 dc22 pm22 an22 cd22 ct22), sl22⟩)
    (d22 : PySem.W.codeIn K cd22 "_law_holds" = true)
    (k22 : PySem.W.keepIn K (.ref f22) = true)
    (a23 : PySem.W.nsIn K mainGlobals "_law_size" = some (some (.ref f23)))
    (l23 : K.lookup f23 = some ⟨oc23, od23, .func (PySem.W.fnOf "_law_size" "_law_size" (defArgs st_law_size) (defBody st_law_size) (defScope st_law_size) .none kV23 dc23 pm23 an23 cd23 ct23), sl23⟩)
    (d23 : PySem.W.codeIn K cd23 "_law_size" = true)
    (k23 : PySem.W.keepIn K (.ref f23) = true)
    (a24 : PySem.W.nsIn K mainGlobals "_law_press" = some (some (.ref f24)))
    (l24 : K.lookup f24 = some ⟨oc24, od24, .func (PySem.W.fnOf "_law_press" "_law_press" (defArgs st_law_press) (defBody st_law_press) (defScope st_law_press) .none kV24 dc24 pm24 an24 cd24 ct24), sl24⟩)
    (d24 : PySem.W.codeIn K cd24 "_law_press" = true)
    (k24 : PySem.W.keepIn K (.ref f24) = true)
    (a25 : PySem.W.nsIn K mainGlobals "law" = some (some (.ref f25)))
    (l25 : K.lookup f25 = some ⟨oc25, od25, .func (PySem.W.fnOf "law" "law" (defArgs st_law) (defBody st_law) (defScope st_law) .none kV25 dc25 pm25 an25 cd25 ct25), sl25⟩)
    (d25 : PySem.W.codeIn K cd25 "law" = true)
    (k25 : PySem.W.keepIn K (.ref f25) = true)
    (xp2_0 : PySem.W.plainGet K x2 Str.empty = true)
    (xp2_1 : PySem.W.hasDictIn K x2 = true)
    (xp2_2 : PySem.W.plainOver K x2 = true)
    (xp2_3 : PySem.W.findIn K (.ref x2) "__setattr__" = some (some (.builtin "object.__setattr__")))
    (xm2_0 : PySem.W.makesIn K x2 = true)
    (xm2_1 : PySem.W.keepIn K (.ref x2) = true)
    (xb4 : PySem.W.excIn K x4 [.type "ValueError", .type "Exception", .type "BaseException", .type "object"] "ValueError.__new__" = true)
    (xk4 : PySem.W.keepIn K (.ref x4) = true)
    (xd4 : PySem.W.subIn K (.ref x4) (.type "BaseException") = some true)
    (xe4 : PySem.W.typeIn K (.ref x4) = some (.type "type"))
    (xo1_0 : PD.oexcB K x1 = true)
    (xo1_1 : PySem.W.findIn K (.ref x1) "__setattr__" = some (some (.builtin "object.__setattr__")))
    (xo1_2 : PySem.W.subIn K (.ref x1) (.type "BaseException") = some true)
    (xo1_3 : PySem.W.typeIn K (.ref x1) = some (.type "type"))
    (xo1_4 : PySem.W.keepIn K (.ref x1) = true)
    (xo1_5 : PySem.W.findIn K (.ref x1) "__init__" = some (some (.ref xf1)))
    (xo1_6 : PySem.W.typeIn K (.ref xf1) = some (.type "function"))
    (xo1_7 : K.lookup xf1 = some ⟨xoc1, xod1, .func (PySem.W.ksFn "__init__" "BadPress.__init__" (defArgs stx_BadPress) (defBody stx_BadPress) (defScope stx_BadPress) .none xkV1 xdc1 xpm1 xan1 (.ref xcd1) xct1 xcc1), xsl1⟩)
    (xo1_8 : PySem.W.codeIn K (.ref xcd1) "BadPress.__init__" = true)
    (xo1_9 : K.lookup xcd1 = some ⟨xccl1, xcdd1, .fields xvs1, xccs1⟩)
    (xo1_10 : xvs1[2]? = some (.str xfile1 xtf1))
    (xo1_11 : ((l.prog.main.file : Str) == xfile1) = true)
    (xo1_12 : (l.prog.main.scope.names.lookup ("super" : Str)).isSome = false)
    (xo1_13 : K.lookup xcc1 = some ⟨xcl1, xcld1, .cell (some (.ref x1)), xcsl1⟩)
    (xo1_14 : PySem.W.ks_superIn K x1 x1 "__init__" = some (some (.builtin "ValueError.__init__")))
    (xo1_15 : PySem.W.subIn K (.ref x1) (.type "ValueError") = some true)
    (xo1_16 : PySem.W.mroIn K x1 (.ref x1) = some true)
    (xo1_17 : PySem.W.nsIn K cStatics "thirdparty.any" = some none)
    (xo1_18 : PySem.W.findIn K (.ref x1) "index" = some none)
    (xo1_19 : PySem.W.nsIn K mainGlobals "super" = some none)
    (q_fd_Copies_phrases : PySem.W.findIn K (.ref x2) "phrases" = some none)
    (q_kbBadPress_ValueError : PySem.W.kitOne K (.ref (x1)) (.type "ValueError") = some true)
    (q_kbTooLong_ValueError : PySem.W.kitOne K (.ref (x4)) (.type "ValueError") = some true)
    (hm1 : PySem.W.exmOne K (.ref x1) (.ref x1) = some true)
    (he1_0 : PySem.W.findIn K (.ref x1) "__getattribute__" = some (some (.builtin "BaseException.__getattribute__")))
    (he1_1 : PySem.W.findIn K (.ref x1) "__getattr__" = some none)
    (he1_2 : PySem.W.subIn K (.ref x1) (.type "BaseException") = some true)
    (he1_3 : PySem.W.hasDictIn K x1 = true)
    (he1_4 : PySem.W.findIn K (.ref x1) "__class__" = some (some (.builtin "object.__class__")))
    (he1_5 : PySem.W.specialIn K (.builtin "object.__class__") "__get__" = some (some (.builtin "getset_descriptor.__get__")))
    (he1_6 : PySem.W.takesIn K (.builtin "object.__class__") = some true)
    (he1_7 : PySem.W.mroIn K x1 (.type "object") = some true)
    (hm4 : PySem.W.exmOne K (.ref x4) (.ref x4) = some true)
    (he4_0 : PySem.W.findIn K (.ref x4) "__getattribute__" = some (some (.builtin "BaseException.__getattribute__")))
    (he4_1 : PySem.W.findIn K (.ref x4) "__getattr__" = some none)
    (he4_2 : PySem.W.subIn K (.ref x4) (.type "BaseException") = some true)
    (he4_3 : PySem.W.hasDictIn K x4 = true)
    (he4_4 : PySem.W.findIn K (.ref x4) "__class__" = some (some (.builtin "object.__class__")))
    (he4_5 : PySem.W.specialIn K (.builtin "object.__class__") "__get__" = some (some (.builtin "getset_descriptor.__get__")))
    (he4_6 : PySem.W.takesIn K (.builtin "object.__class__") = some true)
    (he4_7 : PySem.W.mroIn K x4 (.type "object") = some true)
    (q_xkBadPress_BadLine : PySem.W.kitOne K (.ref x1) (.ref x0) = some false)
    (q_xkBadPress_PressError : PySem.W.kitOne K (.ref x1) (.ref x3) = some true)
    (q_xkBadPress_TooLong : PySem.W.kitOne K (.ref x1) (.ref x4) = some false)
    (q_xkTooLong_BadPress : PySem.W.kitOne K (.ref x4) (.ref x1) = some false)
    (q_xkTooLong_PressError : PySem.W.kitOne K (.ref x4) (.ref x3) = some true)
    (q_xkTooLong_TooShort : PySem.W.kitOne K (.ref x4) (.ref x5) = some false)
    (q_xlBadPress_index : PySem.W.findIn K (.ref x1) "index" = some none)
    (q_xnBadPress_TooLong : PySem.W.exmOne K (.ref (x1)) (.ref (x4)) = some false)
    (q_xnTooLong_BadPress : PySem.W.exmOne K (.ref (x4)) (.ref (x1)) = some false)
    (zValueError : PySem.W.nsIn K mainGlobals "ValueError" = some none)
    (zabs : PySem.W.nsIn K mainGlobals "abs" = some none)
    (zbool : PySem.W.nsIn K mainGlobals "bool" = some none)
    (zcLETTERS : PySem.W.nsIn K mainGlobals "LETTERS" = some (some (.str ycLETTERS tcLETTERS)))
    (ycLETTERS_ : ycLETTERS.cps.toList = zc3fcd3d7)
    (zcMOST : PySem.W.nsIn K mainGlobals "MOST" = some (some (.int 128 tcMOST)))
    (zenumerate : PySem.W.nsIn K mainGlobals "enumerate" = some none)
    (zint : PySem.W.nsIn K mainGlobals "int" = some none)
    (zisinstance : PySem.W.nsIn K mainGlobals "isinstance" = some none)
    (zlen : PySem.W.nsIn K mainGlobals "len" = some none)
    (zlist : PySem.W.nsIn K mainGlobals "list" = some none)
    (zmin : PySem.W.nsIn K mainGlobals "min" = some none)
    (zrange : PySem.W.nsIn K mainGlobals "range" = some none)
    (zstr : PySem.W.nsIn K mainGlobals "str" = some none)
    (zsum : PySem.W.nsIn K mainGlobals "sum" = some none)
    (ztuple : PySem.W.nsIn K mainGlobals "tuple" = some none)
    (hlaw : ∀ ns : List Int, ns.length ≤ 63 → (∀ z ∈ ns, Builtin.Int.intBits z ≤ 1048576) → m_law [.scr ns] = .ok (.bl true)) :
    LamX.LawAtS l w K (L2.CX l.prog w) 13 63 "script" mg fa h := by
  have e := hfa.symm.trans (PySem.W.mg_of X G a25)
  cases e
  have nb : Nb mg := ⟨PySem.W.mg_none_of X G zValueError, PySem.W.mg_none_of X G zabs, PySem.W.mg_none_of X G zbool, ⟨_, _, PySem.W.mg_of X G zcLETTERS, ycLETTERS_⟩, ⟨_, PySem.W.mg_of X G zcMOST⟩, PySem.W.mg_none_of X G zenumerate, PySem.W.mg_none_of X G zint, PySem.W.mg_none_of X G zisinstance, PySem.W.mg_none_of X G zlen, PySem.W.mg_none_of X G zlist, PySem.W.mg_none_of X G zmin, PySem.W.mg_none_of X G zrange, PySem.W.mg_none_of X G zstr, PySem.W.mg_none_of X G zsum, PySem.W.mg_none_of X G ztuple⟩
  have F0 := fun_mk (st := st_law_draws) l0 d0 k0
  have B0 := F0.binds (ps := ["cell", "sizes"]) fun _ _ _ _ _ _ us hl => match us, hl with | [_, _], _ => rfl
  have F1 := fun_mk (st := st_law_many) l1 d1 k1
  have B1 := F1.binds (ps := ["phrase"]) fun _ _ _ _ _ _ us hl => match us, hl with | [_], _ => rfl
  have F2 := fun_mk (st := st_law_letter) l2 d2 k2
  have B2 := F2.binds (ps := ["number"]) fun _ _ _ _ _ _ us hl => match us, hl with | [_], _ => rfl
  have F3 := fun_mk (st := st_law_padded) l3 d3 k3
  have B3 := F3.binds (ps := ["phrases", "told"]) fun _ _ _ _ _ _ us hl => match us, hl with | [_, _], _ => rfl
  have F4 := fun_mk (st := st_law_signed) l4 d4 k4
  have B4 := F4.binds (ps := ["cell", "bound"]) fun _ _ _ _ _ _ us hl => match us, hl with | [_, _], _ => rfl
  have F5 := fun_mk (st := st_law_cell) l5 d5 k5
  have B5 := F5.binds (ps := ["script", "k"]) fun _ _ _ _ _ _ us hl => match us, hl with | [_, _], _ => rfl
  have F6 := fun_mk (st := st_law_sign) l6 d6 k6
  have B6 := F6.binds (ps := ["number"]) fun _ _ _ _ _ _ us hl => match us, hl with | [_], _ => rfl
  have F7 := fun_mk (st := st_law_odd) l7 d7 k7
  have B7 := F7.binds (ps := ["many", "size", "one", "script"]) fun _ _ _ _ _ _ us hl => match us, hl with | [_, _, _, _], _ => rfl
  have F8 := fun_mk (st := st_law_twin) l8 d8 k8
  have B8 := F8.binds (ps := ["phrases", "told", "script"]) fun _ _ _ _ _ _ us hl => match us, hl with | [_, _, _], _ => rfl
  have F9 := fun_mk (st := st_law_due) l9 d9 k9
  have B9 := F9.binds (ps := ["phrases"]) fun _ _ _ _ _ _ us hl => match us, hl with | [_], _ => rfl
  have F10 := fun_mk (st := st_phrase_length) l10 d10 k10
  have B10 := F10.binds (ps := ["phrase"]) fun _ _ _ _ _ _ us hl => match us, hl with | [_], _ => rfl
  have F11 := fun_mk (st := st_total_length) l11 d11 k11
  have B11 := F11.binds (ps := ["phrases"]) fun _ _ _ _ _ _ us hl => match us, hl with | [_], _ => rfl
  have F12 := fun_mk (st := st_is_letter) l12 d12 k12
  have B12 := F12.binds (ps := ["sign"]) fun _ _ _ _ _ _ us hl => match us, hl with | [_], _ => rfl
  have F13 := fun_mk (st := st_is_valid_phrase) l13 d13 k13
  have B13 := F13.binds (ps := ["phrase"]) fun _ _ _ _ _ _ us hl => match us, hl with | [_], _ => rfl
  have F14 := fun_mk (st := st_check_phrases) l14 d14 k14
  have B14 := F14.binds (ps := ["phrases"]) fun _ _ _ _ _ _ us hl => match us, hl with | [_], _ => rfl
  have F15 := fun_mk (st := st_Copies_init) l15 d15 k15
  have B15 := F15.binds (ps := ["self", "phrases"]) fun _ _ _ _ _ _ us hl => match us, hl with | [_, _], _ => rfl
  have F16 := fun_mk (st := st_law_try) l16 d16 k16
  have B16 := F16.binds (ps := ["passed"]) fun _ _ _ _ _ _ us hl => match us, hl with | [_], _ => rfl
  have F17 := fun_mk (st := st_law_is_int) l17 d17 k17
  have B17 := F17.binds (ps := ["x"]) fun _ _ _ _ _ _ us hl => match us, hl with | [_], _ => rfl
  have F18 := fun_mk (st := st_law_same) l18 d18 k18
  have B18 := F18.binds (ps := ["got", "due"]) fun _ _ _ _ _ _ us hl => match us, hl with | [_, _], _ => rfl
  have F19 := fun_mk (st := st_Copies_size) l19 d19 k19
  have B19 := F19.binds (ps := ["self"]) fun _ _ _ _ _ _ us hl => match us, hl with | [_], _ => rfl
  have F20 := fun_mk (st := st_Copies_length) l20 d20 k20
  have B20 := F20.binds (ps := ["self"]) fun _ _ _ _ _ _ us hl => match us, hl with | [_], _ => rfl
  have F21 := fun_mk (st := st_law_tells) l21 d21 k21
  have B21 := F21.binds (ps := ["press", "phrases", "size"]) fun _ _ _ _ _ _ us hl => match us, hl with | [_, _, _], _ => rfl
  have F22 := fun_mk (st := st_law_holds) l22 d22 k22
  have B22 := F22.binds (ps := ["phrases"]) fun _ _ _ _ _ _ us hl => match us, hl with | [_], _ => rfl
  have F23 := fun_mk (st := st_law_size) l23 d23 k23
  have B23 := F23.binds (ps := ["mode", "number", "most"]) fun _ _ _ _ _ _ us hl => match us, hl with | [_, _, _], _ => rfl
  have F24 := fun_mk (st := st_law_press) l24 d24 k24
  have B24 := F24.binds (ps := ["cell", "most"]) fun _ _ _ _ _ _ us hl => match us, hl with | [_, _], _ => rfl
  have F25 := fun_mk (st := st_law) l25 d25 k25
  let ca : Str → Addr := fun n => if n = "BadLine" then x0 else if n = "BadPress" then x1 else if n = "Copies" then x2 else if n = "PressError" then x3 else if n = "TooLong" then x4 else if n = "TooShort" then x5 else 0
  have ca0 : ca "BadLine" = x0 := by first | rfl | (show (if _ then _ else _) = _; simp) | decide
  have ca1 : ca "BadPress" = x1 := by first | rfl | (show (if _ then _ else _) = _; simp) | decide
  have ca2 : ca "Copies" = x2 := by first | rfl | (show (if _ then _ else _) = _; simp) | decide
  have ca3 : ca "PressError" = x3 := by first | rfl | (show (if _ then _ else _) = _; simp) | decide
  have ca4 : ca "TooLong" = x4 := by first | rfl | (show (if _ then _ else _) = _; simp) | decide
  have ca5 : ca "TooShort" = x5 := by first | rfl | (show (if _ then _ else _) = _; simp) | decide
  refine law_at (fd := PySem.W.fnOf "law" "law" (defArgs st_law) (defBody st_law) (defScope st_law) .none kV25 dc25 pm25 an25 cd25 ct25) [] ca m_law ?T (fun s u => .of_eq rfl) hlaw ?W
  case T =>
    exact fun p hp => nomatch hp
  case W =>
    intro base kb nbs tb
    have xcTooLong : Xcl K mg ⟨K, ca, []⟩ "TooLong" := xcl_mk ca4 (PySem.W.mg_of X G xa4) xb4 xk4 xd4 xe4
    have xT1 := oexc_mk xo1_0 xo1_1 xo1_2 xo1_3 xo1_4
    have xrBadPress : XcF l.prog w K mg base ⟨K, ca, []⟩ 1 "BadPress" "index" := xcF_mk ca1 (PySem.W.mg_of X G xa1) xT1 xo1_5 xo1_6 (okx_BadPress xo1_7 xo1_8 xo1_9 xo1_10 xo1_11 xo1_12 xo1_13 xT1 xo1_14 xo1_15 xo1_16 xo1_17 xo1_18 (PySem.W.mg_none_of X G xo1_19)) (L2.Binds.all fun us hl => match us, hl with | [_, _], _ => rfl)
    have fd_Copies_phrases : FldC K "Copies" "phrases" := fldC_mk xa2 xp2_0 xp2_1 xp2_2 xp2_3 q_fd_Copies_phrases
    have kbBadPress_ValueError : PySem.W.kitOne K (.ref (ca "BadPress")) (.type "ValueError") = some true := kb_mk ca1 q_kbBadPress_ValueError
    have kbTooLong_ValueError : PySem.W.kitOne K (.ref (ca "TooLong")) (.type "ValueError") = some true := kb_mk ca4 q_kbTooLong_ValueError
    have xhBadPress : XH K mg ⟨K, ca, []⟩ "BadPress" := xh_mk ca1 (PySem.W.mg_of X G xa1) hm1 ⟨he1_0, he1_1, he1_2, he1_3, he1_4, he1_5, he1_6, he1_7⟩
    have xhTooLong : XH K mg ⟨K, ca, []⟩ "TooLong" := xh_mk ca4 (PySem.W.mg_of X G xa4) hm4 ⟨he4_0, he4_1, he4_2, he4_3, he4_4, he4_5, he4_6, he4_7⟩
    have xkBadPress_BadLine : XK K mg ⟨K, ca, []⟩ "BadPress" "BadLine" false := xk_mk ca1 ca0 (PySem.W.mg_of X G xa0) q_xkBadPress_BadLine
    have xkBadPress_PressError : XK K mg ⟨K, ca, []⟩ "BadPress" "PressError" true := xk_mk ca1 ca3 (PySem.W.mg_of X G xa3) q_xkBadPress_PressError
    have xkBadPress_TooLong : XK K mg ⟨K, ca, []⟩ "BadPress" "TooLong" false := xk_mk ca1 ca4 (PySem.W.mg_of X G xa4) q_xkBadPress_TooLong
    have xkTooLong_BadPress : XK K mg ⟨K, ca, []⟩ "TooLong" "BadPress" false := xk_mk ca4 ca1 (PySem.W.mg_of X G xa1) q_xkTooLong_BadPress
    have xkTooLong_PressError : XK K mg ⟨K, ca, []⟩ "TooLong" "PressError" true := xk_mk ca4 ca3 (PySem.W.mg_of X G xa3) q_xkTooLong_PressError
    have xkTooLong_TooShort : XK K mg ⟨K, ca, []⟩ "TooLong" "TooShort" false := xk_mk ca4 ca5 (PySem.W.mg_of X G xa5) q_xkTooLong_TooShort
    have xlBadPress_index : XfL K ⟨K, ca, []⟩ "BadPress" "index" := xfL_mk ca1 ⟨he1_0, he1_1, he1_2, he1_3⟩ q_xlBadPress_index
    have xnBadPress_TooLong : PySem.W.exmOne K (.ref (ca "BadPress")) (.ref (ca "TooLong")) = some false := by simp only [ca0, ca1, ca2, ca3, ca4, ca5]; exact q_xnBadPress_TooLong
    have xnTooLong_BadPress : PySem.W.exmOne K (.ref (ca "TooLong")) (.ref (ca "BadPress")) = some false := by simp only [ca0, ca1, ca2, ca3, ca4, ca5]; exact q_xnTooLong_BadPress
    have c_law_draws : Cal l.prog w K mg base ⟨K, ca, []⟩ "_law_draws" 1 .s 2 m_law_draws := cal_of (ok_law_draws F0 nb) F0 B0 (PySem.W.mg_of X G a0)
    have c_law_many : Cal l.prog w K mg base ⟨K, ca, []⟩ "_law_many" 1 .s 1 m_law_many := cal_of (ok_law_many F1 ) F1 B1 (PySem.W.mg_of X G a1)
    have c_law_letter : Cal l.prog w K mg base ⟨K, ca, []⟩ "_law_letter" 1 .s 1 m_law_letter := cal_of (ok_law_letter F2 nb) F2 B2 (PySem.W.mg_of X G a2)
    have c_law_padded : Cal l.prog w K mg base ⟨K, ca, []⟩ "_law_padded" 2 .s 2 m_law_padded := cal_of (ok_law_padded F3 nb c_law_many c_law_letter) F3 B3 (PySem.W.mg_of X G a3)
    have c_law_signed : Cal l.prog w K mg base ⟨K, ca, []⟩ "_law_signed" 1 .s 2 m_law_signed := cal_of (ok_law_signed F4 nb) F4 B4 (PySem.W.mg_of X G a4)
    have c_law_cell : Cal l.prog w K mg base ⟨K, ca, []⟩ "_law_cell" 1 .s 2 m_law_cell := cal_of (ok_law_cell F5 nb) F5 B5 (PySem.W.mg_of X G a5)
    have c_law_sign : Cal l.prog w K mg base ⟨K, ca, []⟩ "_law_sign" 1 .s 1 m_law_sign := cal_of (ok_law_sign F6 nb) F6 B6 (PySem.W.mg_of X G a6)
    have c_law_odd : Cal l.prog w K mg base ⟨K, ca, []⟩ "_law_odd" 2 .s 4 m_law_odd := cal_of (ok_law_odd F7 nb c_law_letter c_law_signed c_law_cell c_law_sign) F7 B7 (PySem.W.mg_of X G a7)
    have c_law_twin : Cal l.prog w K mg base ⟨K, ca, []⟩ "_law_twin" 3 .s 3 m_law_twin := cal_of (ok_law_twin F8 nb c_law_many c_law_odd) F8 B8 (PySem.W.mg_of X G a8)
    have c_law_due : Cal l.prog w K mg base ⟨K, ca, []⟩ "_law_due" 2 .s 1 m_law_due := cal_of (ok_law_due F9 nb c_law_many) F9 B9 (PySem.W.mg_of X G a9)
    have c_phrase_length : Cal l.prog w K mg base ⟨K, ca, []⟩ "phrase_length" 1 .s 1 m_phrase_length := cal_of (ok_phrase_length F10 ) F10 B10 (PySem.W.mg_of X G a10)
    have c_total_length : Cal l.prog w K mg base ⟨K, ca, []⟩ "total_length" 2 .s 1 m_total_length := cal_of (ok_total_length F11 nb c_phrase_length) F11 B11 (PySem.W.mg_of X G a11)
    have c_is_letter : Cal l.prog w K mg base ⟨K, ca, []⟩ "is_letter" 1 .s 1 m_is_letter := cal_of (ok_is_letter F12 nb) F12 B12 (PySem.W.mg_of X G a12)
    have c_is_valid_phrase : Cal l.prog w K mg base ⟨K, ca, []⟩ "is_valid_phrase" 2 .s 1 m_is_valid_phrase := cal_of (ok_is_valid_phrase F13 c_is_letter) F13 B13 (PySem.W.mg_of X G a13)
    have c_check_phrases : Cal l.prog w K mg base ⟨K, ca, []⟩ "check_phrases" 3 .s 1 m_check_phrases := cal_of (ok_check_phrases F14 nb xcTooLong xrBadPress c_total_length c_is_valid_phrase) F14 B14 (PySem.W.mg_of X G a14)
    have mk_Copies : MkC l.prog w K mg base ⟨K, ca, []⟩ "Copies" 4 ["phrases"] 1 m_Copies_init := mkC_mk xa2 (PySem.W.mg_of X G xa2) xm2_0 a15 j15 xm2_1 (ok_Copies_init F15 nb fd_Copies_phrases c_check_phrases) B15
    have c_law_try : Cal l.prog w K mg base ⟨K, ca, []⟩ "_law_try" 6 .s 1 m_law_try := cal_of (ok_law_try F16 nb kbBadPress_ValueError kbTooLong_ValueError xhBadPress xhTooLong xkBadPress_BadLine xkBadPress_PressError xkBadPress_TooLong xkTooLong_BadPress xkTooLong_PressError xkTooLong_TooShort xlBadPress_index xnBadPress_TooLong xnTooLong_BadPress mk_Copies) F16 B16 (PySem.W.mg_of X G a16)
    have c_law_is_int : Cal l.prog w K mg base ⟨K, ca, []⟩ "_law_is_int" 1 .s 1 m_law_is_int := cal_of (ok_law_is_int F17 nb) F17 B17 (PySem.W.mg_of X G a17)
    have c_law_same : Cal l.prog w K mg base ⟨K, ca, []⟩ "_law_same" 10 .s 2 (m_law_same 8) := cal_of (ok_law_same F18 B18 (PySem.W.mg_of X G a18) nb c_law_is_int 8) F18 B18 (PySem.W.mg_of X G a18)
    have c_Copies_size : MCal l.prog w K mg base ⟨K, ca, []⟩ "Copies" "size" 1 .s 0 m_Copies_size := mcal_mk xa2 xp2_0 xp2_1 xp2_2 xp2_3 a19 j19 k19 (ok_Copies_size F19 nb fd_Copies_phrases) B19
    have c_Copies_length : MCal l.prog w K mg base ⟨K, ca, []⟩ "Copies" "length" 3 .s 0 m_Copies_length := mcal_mk xa2 xp2_0 xp2_1 xp2_2 xp2_3 a20 j20 k20 (ok_Copies_length F20 fd_Copies_phrases c_total_length) B20
    have c_law_tells : Cal l.prog w K mg base ⟨K, ca, []⟩ "_law_tells" 11 .s 3 m_law_tells := cal_of (ok_law_tells F21 nb fd_Copies_phrases c_law_same c_Copies_size c_Copies_length) F21 B21 (PySem.W.mg_of X G a21)
    have c_law_holds : Cal l.prog w K mg base ⟨K, ca, []⟩ "_law_holds" 12 .s 1 m_law_holds := cal_of (ok_law_holds F22 nb c_law_due c_law_try c_law_same c_law_tells) F22 B22 (PySem.W.mg_of X G a22)
    have c_law_size : Cal l.prog w K mg base ⟨K, ca, []⟩ "_law_size" 1 .s 3 m_law_size := cal_of (ok_law_size F23 nb) F23 B23 (PySem.W.mg_of X G a23)
    have c_law_press : Cal l.prog w K mg base ⟨K, ca, []⟩ "_law_press" 2 .s 2 m_law_press := cal_of (ok_law_press F24 nb c_law_draws c_law_letter c_law_size) F24 B24 (PySem.W.mg_of X G a24)
    exact ok_law F25 c_law_draws c_law_padded c_law_cell c_law_twin c_law_holds c_law_press
end K09
set_option linter.all false
set_option maxRecDepth 100000
set_option maxHeartbeats 1000000
namespace K09
open PD PM PN
local macro_rules
  | `(tactic| exists $es,*) => `(tactic| simp (disch := (first | assumption | omega | (simp only [LNe, LRe, rngL_length, List.length_map, List.length_append, List.length_take, List.length_drop, List.length_range, List.length_range', List.length_cons, List.length_nil, List.length_reverse, List.length_replicate, List.length_set, Int.toNat_natCast, Nat.reduceAdd, Nat.reduceLeDiff]; first | done | omega) | decide)) only [o_nx, o_rt, o_bk, o_ct, o_ex, ot_some, List.map_cons, List.map_nil, List.length_cons, List.length_nil, Nat.reduceAdd, Nat.reduceSub, Nat.reduceMul, Nat.reduceLT, Int.reduceAdd, Int.reduceSub, Int.reduceMul, Int.reduceNeg, Int.reduceToNat, Int.toNat_natCast, Nat.zero_add, List.replicate, List.cons_append, List.nil_append, List.set_cons_zero, List.set_cons_succ, List.getElem?_cons_zero, List.getElem?_cons_succ, Option.map_some, mFn_eq, kCl1, kCl2, kCl3, kCl4, ite_true, ite_false, Bool.not_true, Bool.not_false, reduceIte, isAtom_bl, isAtom_i, isAtom_s, isAtom_n, List.getElem?_nil, Bool.false_eq_true, eq_self, not_true_eq_false, not_false_eq_true, decide_true, decide_false, Bool.true_eq_false, kAtL_ok, reduceCtorEq, oR_some, oR_none, okb, mV_0, mV_s, mC_eq, k1_ok, m1_eq, k2_ok, m2_eq, kN_ok, mN_eq, iArgs_eq, kO_ok, iOf_eq, mB_eq, mTru_eq, mSo_eq, mNo_eq, mNil_eq, kC_ok, mCons_eq, dBool_bl, dInt?_int, kIf_t, kIf_f, mIf_eq, kAnd_t, kAnd_f, mAnd_eq, kOr_t, kOr_f, mOr_eq, kNot_ok, mNot_eq, kAndV_t, kAndV_f, mAndV_eq, kOrV_t, kOrV_f, mOrV_eq, kCh0_ok, kCh_t, kCh_f, mChain_eq, kAt_ok, mAt_eq, kSl_ok, mSl_eq, kM_ok, mM_eq, mCall_eq, noF_ok, noF_err, kClA_ok, mCallA_eq, kG_ok, kG_err, kClL_ok, mCallL_eq, kOb_ok, kOb_err, kMk_ok1, kMk_ok2, mMake_eq, kMkL_ok1, kMkL_ok2, mMakeL_eq, mMeth_eq, mMeth0_eq, gSq_l, gSq_t, gSq_s, gEn_l, dIsC_o, kS_nx, kS_rt, kS_bk, kS_ct, kS_ex, sSeq_eq, sNx_eq, sBk_eq, sCt_eq, sRaise_eq, sRetN_eq, kSet_ok, kSet_err, sSet_eq, kDrop_ok, kDrop_err, sDrop_eq, kRet_ok, kRet_err, sRet_eq, kIfS_t, kIfS_f, sIf_eq, kFor_ok, sFor_eq, getL_0, getL_s, sApp_eq, gSet_eq, kLc_ok, mLc_eq, wipeD_1, mYes_eq, kF_rt, kF_nx, kF_ex, dAdd_i, dSub_i, dNeg_i, dLt_i, dLe_i, dGt_i, dGe_i, dEq_b, dNot_b, dAbs_i, dMin2_i, dMax2_i, dInt1_i, dInt1_b, dLen_l, dLen_t, dLen_c, gL_l, gT_t, gS_s, dSl_l, dSlL_l, dFind_s, dAllS_s, dIsi_non, dIsi_bl, dIsi_int, dIsi_str, dIsi_lst, dIsi_tup, isN_non, isN_int, isN_str, isN_lst, isN_tup, isN_bl, notN_non, notN_int, notN_str, notN_lst, notN_tup, dIx_lit, dIx_litT, isi_1, isi_2, isi_3, isi_4, isi_5, isb_1, isb_2, isb_3, isb_4, isb_5, iss_1, iss_2, iss_3, iss_4, iss_5, isl_1, isl_2, isl_3, isl_4, isl_5, ist_1, ist_2, ist_3, ist_4, ist_5, isn_1, isn_2, isn_3, isn_4, isn_5, kT2_rt, endN_rt, endN_nx, clrI_s, clrI_n, mAtL_eq, kAtL_err, kC_err, kC_err1, kN_err, kCl_err, dListOf_l, dListOf_t, dTupOf_l, dTupOf_t, dRevL_l, r_kIf_p, r_kIf_n, r_kIfS_p, r_kIfS_n, r_kAnd_p, r_kAnd_n, r_kOr_p, r_kOr_n, r_kAndV_p, r_kAndV_n, r_kOrV_p, r_kOrV_n, r_kNot, r_dNot, r_kCh_p, r_kCh_n, r_not_t, r_bnot, r_eq_i, r_ne_i, r_eq_s, r_ne_s, r_mul, r_div, r_ixn, r_ixtn, r_ixsn, r_ixc, r_len_s, r_add_s, r_add_l, r_cat_l, r_lst, r_tup, r_R1, r_R1n, r_R2, r_sl_s, r_app, r_kLn, r_sExt, r_kExt, r_sPop, r_kPop, r_sSI, r_kSI, r_kSIl, r_ixl, r_sAug, r_kAug, r_kOS, r_sPar, r_kPar, r_sAsg, r_kAsg, r_kTo, r_gTup, r_gsNil, r_gsCons, r_kGs, r_tru0, r_truc, r_trus, r_trub, r_trun, r_sFI, r_kFI, r_kInit, r_kInitX, $[$es:term],*])
/-! ### phrases of any kind -/
inductive GP where
  | put (w : List Nat) | copy (s n : Int)
def GP.d : GP → D
  | .put w => .tup [.str z8e13ffc9, .str w]
  | .copy s n => .tup [.str z12cba3ee, .int s, .int n]
def GP.len : GP → Int
  | .put _ => 1
  | .copy _ n => n
def GP.sm : GP → Prop
  | .put w => w.length ≤ 1000
  | .copy _ _ => True
def gtot (ps : List GP) : Int := (ps.map GP.len).sum
def GP.bad1 : GP → Bool
  | .put [c] => !decide (c ∈ zc3fcd3d7)
  | .put _ => true
  | .copy s n => decide (s < 0) || decide (n < 1)
def GP.bad2 (t : Int) : GP → Bool
  | .put _ => false
  | .copy s n => decide (s + n > t)
theorem gplen_ok {p : GP} : m_phrase_length [p.d] = .ok (.int p.len) := by
  cases p with
  | put c => exists m_phrase_length, b_phrase_length, i1_phrase_length, GP.d; rfl
  | copy s n => exists m_phrase_length, b_phrase_length, i1_phrase_length, GP.d, cp_ne; rfl
theorem gmany_ok {p : GP} : m_law_many [p.d] = .ok (.int p.len) := by
  cases p with
  | put c => exists m_law_many, b_law_many, i1_law_many, GP.d; rfl
  | copy s n => exists m_law_many, b_law_many, i1_law_many, GP.d, cp_ne; rfl
theorem gtotal_ok {s : D} {ps : List GP} (hs : gSq s = some (ps.map GP.d)) (hl : ps.length ≤ 1000000) : m_total_length [s] = .ok (.int (gtot ps)) := by
  have e := lc_fm (T := gSet 1) (ft := mYes) (fe := mCall 1 m_phrase_length (mCons (mV 1) mNil)) (ρ := [some s, none]) GP.d (fun _ => true) (fun p : GP => D.int p.len) (xs := ps) fun p m => ⟨_, rfl, rfl, fun _ => by exists gplen_ok⟩
  rw [List.filter_eq_self.mpr (fun _ _ => rfl), show (fun p : GP => D.int p.len) = D.int ∘ fun p : GP => p.len from rfl, ← List.map_map] at e
  have s1 := dSumL_ok (ns := ps.map fun p : GP => p.len)
  rw [show (ps.map fun p : GP => p.len).sum = gtot ps from rfl] at s1
  have l : ((ps.map fun p : GP => p.len).map D.int).length ≤ 1000000 := by rw [List.length_map, List.length_map]; exact hl
  generalize (ps.map fun p : GP => p.len).map D.int = ys at *
  exists m_total_length, b_total_length, c1_total_length, hs, e, s1
theorem gvalid_ok {p : GP} (hs : p.sm) : m_is_valid_phrase [p.d] = .ok (.bl (!p.bad1)) := by
  cases p with
  | put w =>
    match w with
    | [] => exists m_is_valid_phrase, b_is_valid_phrase, i1_is_valid_phrase, m_is_letter, b_is_letter, GP.d; rfl
    | [c] =>
      have := dIn_one (s := zc3fcd3d7) (c := c)
      exists m_is_valid_phrase, b_is_valid_phrase, i1_is_valid_phrase, m_is_letter, b_is_letter, GP.d, this
      simp only [GP.bad1, Bool.not_not]
    | c :: d :: r =>
      have : ¬ (((r.length + 1 + 1 : Nat) : Int) = 1) := by omega
      have hs : r.length + 1 + 1 ≤ 1000 := hs
      exists m_is_valid_phrase, b_is_valid_phrase, i1_is_valid_phrase, m_is_letter, b_is_letter, GP.d, this; rfl
  | copy s n =>
    by_cases h0 : 0 ≤ s
    · have e : decide (s < 0) = false := decide_eq_false (by omega)
      exists m_is_valid_phrase, b_is_valid_phrase, i1_is_valid_phrase, GP.d, cp_ne, GP.bad1, e
      by_cases h1 : 1 ≤ n
      · rw [decide_eq_true h1, decide_eq_false (by omega : ¬ n < 1)]; rfl
      · rw [decide_eq_false h1, decide_eq_true (by omega : n < 1)]; rfl
    · have e : decide (s < 0) = true := decide_eq_true (by omega)
      exists m_is_valid_phrase, b_is_valid_phrase, i1_is_valid_phrase, GP.d, cp_ne, GP.bad1, e
      rfl
/-! ### the law's own walk -/
section
variable {ps : List GP} {p : GP} {k : Nat} {o2 o3 : Option D} {t : Int}
theorem due_b1 (hs : p.sm) (hk : (ps.map GP.d)[k]? = some p.d) : l1_law_due [some (.lst (ps.map GP.d)), some (.int k), o2, o3] = if p.bad1 then .ok (.rt (.tup [.str zbf713652, .int k])) else .ok (.nx [some (.lst (ps.map GP.d)), some (.int k), o2, some p.d]) := by
  generalize ps.map GP.d = xs at *
  have hx : dIx (.lst xs) (.int (k : Nat)) = some p.d := by rw [r_ixn]; exact hk
  cases p with
  | put w =>
    match w with
    | [] => exists l1_law_due, hx, i2_law_due, i3_law_due, GP.d, GP.bad1
    | [c] =>
      have := dNotIn_one (s := zc3fcd3d7) (c := c)
      by_cases hc : c ∈ zc3fcd3d7
      · exists l1_law_due, hx, i2_law_due, i3_law_due, GP.d, GP.bad1, this, hc, pc_ne
      · exists l1_law_due, hx, i2_law_due, i3_law_due, GP.d, GP.bad1, this, hc, pc_ne
    | c :: d :: r =>
      have : ¬ (((r.length + 1 + 1 : Nat) : Int) = 1) := by omega
      have hs : r.length + 1 + 1 ≤ 1000 := hs
      exists l1_law_due, hx, i2_law_due, i3_law_due, GP.d, GP.bad1, this, pc_ne
  | copy s n =>
    by_cases h0 : s < 0
    · exists l1_law_due, hx, i2_law_due, i3_law_due, GP.d, GP.bad1, h0, cp_ne, Bool.true_or
    · by_cases h1 : n < 1
      · exists l1_law_due, hx, i2_law_due, i3_law_due, GP.d, GP.bad1, h0, h1, cp_ne, Bool.or_true
      · exists l1_law_due, hx, i2_law_due, i3_law_due, GP.d, GP.bad1, h0, h1, cp_ne, Bool.or_false
theorem due_b2 (hk : (ps.map GP.d)[k]? = some p.d) : l2_law_due [some (.lst (ps.map GP.d)), some (.int k), some (.int t), o3] = if p.bad2 t then .ok (.rt (.tup [.str zbf713652, .int k])) else .ok (.nx [some (.lst (ps.map GP.d)), some (.int k), some (.int t), o3]) := by
  generalize ps.map GP.d = xs at *
  have hx : dIx (.lst xs) (.int (k : Nat)) = some p.d := by rw [r_ixn]; exact hk
  cases p with
  | put w => exists l2_law_due, hx, i5_law_due, GP.d, GP.bad2, pc_ne
  | copy s n =>
    by_cases h0 : s + n > t
    · exists l2_law_due, hx, i5_law_due, GP.d, GP.bad2, h0
    · exists l2_law_due, hx, i5_law_due, GP.d, GP.bad2, h0
theorem r_raiseF {c fld : PySem.Str} {f : Env → R D} {ρ : Env} {d : D} (h : f ρ = .ok d) (a : isAtom d = true) : sRaiseF c fld f ρ = .ok (.ex c [(fld, d)] ρ) := by
  unfold sRaiseF
  rw [h]
  show (if isAtom d then _ else _) = _
  rw [if_pos a]
theorem chk_b1 {o0 o1 : Option D} (hs : p.sm) : l1_check_phrases [o0, o1, some (.int k), some p.d] = if p.bad1 then .ok (.ex "BadPress" [("index", .int k)] [o0, o1, some (.int k), some p.d]) else .ok (.nx [o0, o1, some (.int k), some p.d]) := by
  have v := gvalid_ok hs
  have e := r_raiseF (c := "BadPress") (fld := "index") (f := mV 2) (ρ := [o0, o1, some (.int k), some p.d]) rfl isAtom_i
  generalize p.d = q at *
  cases h : p.bad1 with
  | true => rw [h] at v; exists l1_check_phrases, i2_check_phrases, v, e
  | false => rw [h] at v; exists l1_check_phrases, i2_check_phrases, v
theorem chk_b2 {o0 : Option D} : l2_check_phrases [o0, some (.int t), some (.int k), some p.d] = if p.bad2 t then .ok (.ex "BadPress" [("index", .int k)] [o0, some (.int t), some (.int k), some p.d]) else .ok (.nx [o0, some (.int t), some (.int k), some p.d]) := by
  have e := r_raiseF (c := "BadPress") (fld := "index") (f := mV 2) (ρ := [o0, some (.int t), some (.int k), some p.d]) rfl isAtom_i
  cases p with
  | put w => exists l2_check_phrases, i4_check_phrases, GP.d, GP.bad2, pc_ne
  | copy s n =>
    simp only [GP.d] at e ⊢
    by_cases h0 : s + n > t
    · exists l2_check_phrases, i4_check_phrases, GP.bad2, h0, e
    · exists l2_check_phrases, i4_check_phrases, GP.bad2, h0
end
/-! ### walks that stop -/
theorem scan_nx {T : D → Env → Option Env} {b : Env → R Fl} (I : Env → Prop) {ds : List D} {ρ : Env} (h : I ρ) (hs : ∀ (j : Nat) (d : D) (ρ : Env), ds[j]? = some d → I ρ → ∃ ρ1 ρ2, T d ρ = some ρ1 ∧ b ρ1 = .ok (.nx ρ2) ∧ I ρ2) : ∃ ρ', sLoop T b ds ρ = .ok (.nx ρ') ∧ I ρ' :=
  loop_inv (fun _ ρ => I ρ) ds 0 ρ h fun j d ρ q i => hs j d ρ q i
theorem scan_stop {T : D → Env → Option Env} {b : Env → R Fl} (I : Env → Prop) (P : R Fl → Prop) (hP : ∀ r, P r → (∃ d, r = .ok (.rt d)) ∨ ∃ c fs ρ, r = .ok (.ex c fs ρ)) : ∀ (ds : List D) (k : Nat) (ρ : Env), I ρ → k < ds.length →
    (∀ j d ρ, j < k → ds[j]? = some d → I ρ → ∃ ρ1 ρ2, T d ρ = some ρ1 ∧ b ρ1 = .ok (.nx ρ2) ∧ I ρ2) → (∀ d ρ, ds[k]? = some d → I ρ → ∃ ρ1, T d ρ = some ρ1 ∧ P (b ρ1)) → P (sLoop T b ds ρ)
  | [], k, ρ, _, h, _, _ => absurd h (by simp)
  | d :: ds, 0, ρ, hi, _, _, h2 => by
    obtain ⟨ρ1, e, p⟩ := h2 d ρ rfl hi
    show P (match T d ρ with | none => _ | some ρ1 => _)
    rw [e]
    show P (b ρ1 >>= _)
    rcases hP _ p with ⟨x, q⟩ | ⟨c, fs, ρ2, q⟩
    · rw [q] at p ⊢; exact p
    · rw [q] at p ⊢; exact p
  | d :: ds, k + 1, ρ, hi, hk, h1, h2 => by
    obtain ⟨ρ1, ρ2, e1, e2, i2⟩ := h1 0 d ρ (by omega) rfl hi
    rw [loop_nx e1 e2]
    exact scan_stop I P hP ds k ρ2 i2 (by rw [List.length_cons] at hk; omega) (fun j d ρ hj q i => h1 (j + 1) d ρ (by omega) (by rw [List.getElem?_cons_succ]; exact q) i) fun d ρ q i => h2 d ρ (by rw [List.getElem?_cons_succ]; exact q) i
theorem enum_get : ∀ {xs : List D} {c : Int} {j : Nat} {d : D}, (enumL c xs)[j]? = some d → ∃ x, xs[j]? = some x ∧ d = .tup [.int (c + (j : Nat)), x]
  | [], _, _, _, h => by cases h
  | x :: xs, c, 0, d, h => by
    unfold enumL at h
    cases h
    exact ⟨x, rfl, by rw [show c + ((0 : Nat) : Int) = c by omega]⟩
  | x :: xs, c, j + 1, d, h => by
    unfold enumL at h
    rw [List.getElem?_cons_succ] at h
    obtain ⟨y, h1, h2⟩ := enum_get h
    exact ⟨y, by rw [List.getElem?_cons_succ]; exact h1, by rw [h2, show c + 1 + (j : Nat) = c + ((j + 1 : Nat) : Int) by omega]⟩
theorem enum_len : ∀ {xs : List D} {c : Int}, (enumL c xs).length = xs.length
  | [], _ => rfl
  | x :: xs, c => by unfold enumL; rw [List.length_cons, List.length_cons, enum_len]
theorem gget {ps : List GP} {j : Nat} {x : D} (h : (ps.map GP.d)[j]? = some x) : ∃ p, ps[j]? = some p ∧ x = p.d := by
  rw [List.getElem?_map] at h
  cases q : ps[j]? with
  | none => rw [q] at h; cases h
  | some p => rw [q] at h; cases h; exact ⟨p, rfl, rfl⟩
/-- the first phrase that is so -/
def Fst (b : GP → Bool) (ps : List GP) (k : Nat) : Prop := (∃ p, ps[k]? = some p ∧ b p = true) ∧ ∀ j p, j < k → ps[j]? = some p → b p = false
theorem fst_or (b : GP → Bool) (ps : List GP) : (∀ p ∈ ps, b p = false) ∨ ∃ k, Fst b ps k := by
  induction ps with
  | nil => exact .inl fun p m => nomatch m
  | cons p ps ih =>
    cases q : b p with
    | true => exact .inr ⟨0, ⟨p, rfl, q⟩, fun j p h => absurd h (by omega)⟩
    | false =>
      rcases ih with h | ⟨k, ⟨x, h1, h2⟩, h3⟩
      · exact .inl fun y m => by
          rcases List.mem_cons.mp m with rfl | m
          · exact q
          · exact h y m
      · refine .inr ⟨k + 1, ⟨x, by rw [List.getElem?_cons_succ]; exact h1, h2⟩, fun j y hj hy => ?_⟩
        cases j with
        | zero => cases hy; exact q
        | succ j => rw [List.getElem?_cons_succ] at hy; exact h3 j y (by omega) hy
section
variable {ps : List GP} {k : Nat} {o1 o2 o3 : Option D} {t : Int}
theorem Fst.lt {b : GP → Bool} (h : Fst b ps k) : k < ps.length := by
  obtain ⟨⟨p, h, _⟩, _⟩ := h
  exact (List.getElem?_eq_some_iff.mp h).1
theorem sm_at (hs : ∀ p ∈ ps, p.sm) {j : Nat} {p : GP} (h : ps[j]? = some p) : p.sm := hs p (List.mem_of_getElem? h)
theorem gat {j : Nat} {p : GP} (h : ps[j]? = some p) : (ps.map GP.d)[j]? = some p.d := by rw [List.getElem?_map, h]; rfl
theorem due1_nx (hs : ∀ p ∈ ps, p.sm) (h : ∀ p ∈ ps, p.bad1 = false) : ∃ a1 a3, sLoop (gSet 1) l1_law_due (rngL 0 ps.length) [some (.lst (ps.map GP.d)), o1, o2, o3] = .ok (.nx [some (.lst (ps.map GP.d)), a1, o2, a3]) := by
  obtain ⟨ρ', e, a1, a3, rfl⟩ := scan_nx (T := gSet 1) (b := l1_law_due) (fun ρ => ∃ a1 a3, ρ = [some (.lst (ps.map GP.d)), a1, o2, a3]) (ds := rngL 0 ps.length) ⟨o1, o3, rfl⟩ (by
    rintro j d ρ hj ⟨a1, a3, rfl⟩
    obtain ⟨hl, rfl⟩ := rngL_get hj
    rw [Int.zero_add]
    obtain ⟨p, hp⟩ : ∃ p, ps[j]? = some p := ⟨_, List.getElem?_eq_getElem hl⟩
    have e := due_b1 (k := j) (o2 := o2) (o3 := a3) (sm_at hs hp) (gat hp)
    rw [h p (List.mem_of_getElem? hp)] at e
    exact ⟨_, _, rfl, e, _, _, rfl⟩)
  exact ⟨a1, a3, e⟩
theorem due1_rt (hs : ∀ p ∈ ps, p.sm) (h : Fst GP.bad1 ps k) : sLoop (gSet 1) l1_law_due (rngL 0 ps.length) [some (.lst (ps.map GP.d)), o1, o2, o3] = .ok (.rt (.tup [.str zbf713652, .int k])) :=
  scan_stop (T := gSet 1) (b := l1_law_due) (fun ρ => ∃ a1 a3, ρ = [some (.lst (ps.map GP.d)), a1, o2, a3]) (fun r => r = .ok (.rt (.tup [.str zbf713652, .int k]))) (fun r h => .inl ⟨_, h⟩) (rngL 0 ps.length) k _ ⟨o1, o3, rfl⟩ (by rw [rngL_length]; have := h.lt; omega) (by
    rintro j d ρ hk hj ⟨a1, a3, rfl⟩
    obtain ⟨hl, rfl⟩ := rngL_get hj
    rw [Int.zero_add]
    obtain ⟨p, hp⟩ : ∃ p, ps[j]? = some p := ⟨_, List.getElem?_eq_getElem hl⟩
    have e := due_b1 (k := j) (o2 := o2) (o3 := a3) (sm_at hs hp) (gat hp)
    rw [h.2 j p hk hp] at e
    exact ⟨_, _, rfl, e, _, _, rfl⟩) (by
    rintro d ρ hj ⟨a1, a3, rfl⟩
    obtain ⟨hl, rfl⟩ := rngL_get hj
    rw [Int.zero_add]
    obtain ⟨⟨p, hp, hb⟩, _⟩ := h
    have e := due_b1 (k := k) (o2 := o2) (o3 := a3) (sm_at hs hp) (gat hp)
    rw [hb] at e
    exact ⟨_, rfl, e⟩)
theorem due2_nx (h : ∀ p ∈ ps, p.bad2 t = false) : ∃ a1, sLoop (gSet 1) l2_law_due (rngL 0 ps.length) [some (.lst (ps.map GP.d)), o1, some (.int t), o3] = .ok (.nx [some (.lst (ps.map GP.d)), a1, some (.int t), o3]) := by
  obtain ⟨ρ', e, a1, rfl⟩ := scan_nx (T := gSet 1) (b := l2_law_due) (fun ρ => ∃ a1, ρ = [some (.lst (ps.map GP.d)), a1, some (.int t), o3]) (ds := rngL 0 ps.length) ⟨o1, rfl⟩ (by
    rintro j d ρ hj ⟨a1, rfl⟩
    obtain ⟨hl, rfl⟩ := rngL_get hj
    rw [Int.zero_add]
    obtain ⟨p, hp⟩ : ∃ p, ps[j]? = some p := ⟨_, List.getElem?_eq_getElem hl⟩
    have e := due_b2 (k := j) (t := t) (o3 := o3) (gat hp)
    rw [h p (List.mem_of_getElem? hp)] at e
    exact ⟨_, _, rfl, e, _, rfl⟩)
  exact ⟨a1, e⟩
theorem due2_rt (h : Fst (GP.bad2 t) ps k) : sLoop (gSet 1) l2_law_due (rngL 0 ps.length) [some (.lst (ps.map GP.d)), o1, some (.int t), o3] = .ok (.rt (.tup [.str zbf713652, .int k])) :=
  scan_stop (T := gSet 1) (b := l2_law_due) (fun ρ => ∃ a1, ρ = [some (.lst (ps.map GP.d)), a1, some (.int t), o3]) (fun r => r = .ok (.rt (.tup [.str zbf713652, .int k]))) (fun r h => .inl ⟨_, h⟩) (rngL 0 ps.length) k _ ⟨o1, rfl⟩ (by rw [rngL_length]; have := h.lt; omega) (by
    rintro j d ρ hk hj ⟨a1, rfl⟩
    obtain ⟨hl, rfl⟩ := rngL_get hj
    rw [Int.zero_add]
    obtain ⟨p, hp⟩ : ∃ p, ps[j]? = some p := ⟨_, List.getElem?_eq_getElem hl⟩
    have e := due_b2 (k := j) (t := t) (o3 := o3) (gat hp)
    rw [h.2 j p hk hp] at e
    exact ⟨_, _, rfl, e, _, rfl⟩) (by
    rintro d ρ hj ⟨a1, rfl⟩
    obtain ⟨hl, rfl⟩ := rngL_get hj
    rw [Int.zero_add]
    obtain ⟨⟨p, hp, hb⟩, _⟩ := h
    have e := due_b2 (k := k) (t := t) (o3 := o3) (gat hp)
    rw [hb] at e
    exact ⟨_, rfl, e⟩)
/-! the checks of the program -/
abbrev gT : D → Env → Option Env := gTup (gsCons (gSet 2) (gsCons (gSet 3) gsNil))
theorem chk1_nx (hs : ∀ p ∈ ps, p.sm) (h : ∀ p ∈ ps, p.bad1 = false) {o0 : Option D} : ∃ a2 a3, sLoop gT l1_check_phrases (enumL 0 (ps.map GP.d)) [o0, o1, o2, o3] = .ok (.nx [o0, o1, a2, a3]) := by
  obtain ⟨ρ', e, a2, a3, rfl⟩ := scan_nx (T := gT) (b := l1_check_phrases) (fun ρ => ∃ a2 a3, ρ = [o0, o1, a2, a3]) (ds := enumL 0 (ps.map GP.d)) ⟨o2, o3, rfl⟩ (by
    rintro j d ρ hj ⟨a2, a3, rfl⟩
    obtain ⟨x, hx, rfl⟩ := enum_get hj
    obtain ⟨p, hp, rfl⟩ := gget hx
    rw [Int.zero_add]
    have e := chk_b1 (k := j) (o0 := o0) (o1 := o1) (sm_at hs hp)
    rw [h p (List.mem_of_getElem? hp)] at e
    exact ⟨_, _, rfl, e, _, _, rfl⟩)
  exact ⟨a2, a3, e⟩
def BadAt (k : Nat) (r : R Fl) : Prop := ∃ ρ, r = .ok (.ex "BadPress" [("index", .int k)] ρ)
theorem chk1_ex (hs : ∀ p ∈ ps, p.sm) (h : Fst GP.bad1 ps k) {o0 : Option D} : BadAt k (sLoop gT l1_check_phrases (enumL 0 (ps.map GP.d)) [o0, o1, o2, o3]) :=
  scan_stop (T := gT) (b := l1_check_phrases) (fun ρ => ∃ a2 a3, ρ = [o0, o1, a2, a3]) (BadAt k) (fun r ⟨ρ, h⟩ => .inr ⟨_, _, _, h⟩) (enumL 0 (ps.map GP.d)) k _ ⟨o2, o3, rfl⟩ (by rw [enum_len, List.length_map]; exact h.lt) (by
    rintro j d ρ hk hj ⟨a2, a3, rfl⟩
    obtain ⟨x, hx, rfl⟩ := enum_get hj
    obtain ⟨p, hp, rfl⟩ := gget hx
    rw [Int.zero_add]
    have e := chk_b1 (k := j) (o0 := o0) (o1 := o1) (sm_at hs hp)
    rw [h.2 j p hk hp] at e
    exact ⟨_, _, rfl, e, _, _, rfl⟩) (by
    rintro d ρ hj ⟨a2, a3, rfl⟩
    obtain ⟨x, hx, rfl⟩ := enum_get hj
    obtain ⟨⟨p, hp, hb⟩, _⟩ := h
    rw [gat hp] at hx
    cases hx
    rw [Int.zero_add]
    have e := chk_b1 (k := k) (o0 := o0) (o1 := o1) (sm_at hs hp)
    rw [hb] at e
    exact ⟨_, rfl, _, e⟩)
theorem chk2_nx (h : ∀ p ∈ ps, p.bad2 t = false) {o0 : Option D} : ∃ a2 a3, sLoop gT l2_check_phrases (enumL 0 (ps.map GP.d)) [o0, some (.int t), o2, o3] = .ok (.nx [o0, some (.int t), a2, a3]) := by
  obtain ⟨ρ', e, a2, a3, rfl⟩ := scan_nx (T := gT) (b := l2_check_phrases) (fun ρ => ∃ a2 a3, ρ = [o0, some (.int t), a2, a3]) (ds := enumL 0 (ps.map GP.d)) ⟨o2, o3, rfl⟩ (by
    rintro j d ρ hj ⟨a2, a3, rfl⟩
    obtain ⟨x, hx, rfl⟩ := enum_get hj
    obtain ⟨p, hp, rfl⟩ := gget hx
    rw [Int.zero_add]
    have e := chk_b2 (k := j) (o0 := o0) (t := t) (p := p)
    rw [h p (List.mem_of_getElem? hp)] at e
    exact ⟨_, _, rfl, e, _, _, rfl⟩)
  exact ⟨a2, a3, e⟩
theorem chk2_ex (h : Fst (GP.bad2 t) ps k) {o0 : Option D} : BadAt k (sLoop gT l2_check_phrases (enumL 0 (ps.map GP.d)) [o0, some (.int t), o2, o3]) :=
  scan_stop (T := gT) (b := l2_check_phrases) (fun ρ => ∃ a2 a3, ρ = [o0, some (.int t), a2, a3]) (BadAt k) (fun r ⟨ρ, h⟩ => .inr ⟨_, _, _, h⟩) (enumL 0 (ps.map GP.d)) k _ ⟨o2, o3, rfl⟩ (by rw [enum_len, List.length_map]; exact h.lt) (by
    rintro j d ρ hk hj ⟨a2, a3, rfl⟩
    obtain ⟨x, hx, rfl⟩ := enum_get hj
    obtain ⟨p, hp, rfl⟩ := gget hx
    rw [Int.zero_add]
    have e := chk_b2 (k := j) (o0 := o0) (t := t) (p := p)
    rw [h.2 j p hk hp] at e
    exact ⟨_, _, rfl, e, _, _, rfl⟩) (by
    rintro d ρ hj ⟨a2, a3, rfl⟩
    obtain ⟨x, hx, rfl⟩ := enum_get hj
    obtain ⟨⟨p, hp, hb⟩, _⟩ := h
    rw [gat hp] at hx
    cases hx
    rw [Int.zero_add]
    have e := chk_b2 (k := k) (o0 := o0) (t := t) (p := p)
    rw [hb] at e
    exact ⟨_, rfl, _, e⟩)
end
end K09
set_option linter.all false
set_option maxRecDepth 100000
set_option maxHeartbeats 1000000
namespace K09
open PD PM PN
local macro_rules
  | `(tactic| exists $es,*) => `(tactic| simp (disch := (first | assumption | omega | (simp only [LNe, LRe, rngL_length, List.length_map, List.length_append, List.length_take, List.length_drop, List.length_range, List.length_range', List.length_cons, List.length_nil, List.length_reverse, List.length_replicate, List.length_set, Int.toNat_natCast, Nat.reduceAdd, Nat.reduceLeDiff]; first | done | omega) | decide)) only [o_nx, o_rt, o_bk, o_ct, o_ex, ot_some, List.map_cons, List.map_nil, List.length_cons, List.length_nil, Nat.reduceAdd, Nat.reduceSub, Nat.reduceMul, Nat.reduceLT, Int.reduceAdd, Int.reduceSub, Int.reduceMul, Int.reduceNeg, Int.reduceToNat, Int.toNat_natCast, Nat.zero_add, List.replicate, List.cons_append, List.nil_append, List.set_cons_zero, List.set_cons_succ, List.getElem?_cons_zero, List.getElem?_cons_succ, Option.map_some, mFn_eq, kCl1, kCl2, kCl3, kCl4, ite_true, ite_false, Bool.not_true, Bool.not_false, reduceIte, isAtom_bl, isAtom_i, isAtom_s, isAtom_n, List.getElem?_nil, Bool.false_eq_true, eq_self, not_true_eq_false, not_false_eq_true, decide_true, decide_false, Bool.true_eq_false, kAtL_ok, reduceCtorEq, oR_some, oR_none, okb, mV_0, mV_s, mC_eq, k1_ok, m1_eq, k2_ok, m2_eq, kN_ok, mN_eq, iArgs_eq, kO_ok, iOf_eq, mB_eq, mTru_eq, mSo_eq, mNo_eq, mNil_eq, kC_ok, mCons_eq, dBool_bl, dInt?_int, kIf_t, kIf_f, mIf_eq, kAnd_t, kAnd_f, mAnd_eq, kOr_t, kOr_f, mOr_eq, kNot_ok, mNot_eq, kAndV_t, kAndV_f, mAndV_eq, kOrV_t, kOrV_f, mOrV_eq, kCh0_ok, kCh_t, kCh_f, mChain_eq, kAt_ok, mAt_eq, kSl_ok, mSl_eq, kM_ok, mM_eq, mCall_eq, noF_ok, noF_err, kClA_ok, mCallA_eq, kG_ok, kG_err, kClL_ok, mCallL_eq, kOb_ok, kOb_err, kMk_ok1, kMk_ok2, mMake_eq, kMkL_ok1, kMkL_ok2, mMakeL_eq, mMeth_eq, mMeth0_eq, gSq_l, gSq_t, gSq_s, gEn_l, dIsC_o, kS_nx, kS_rt, kS_bk, kS_ct, kS_ex, sSeq_eq, sNx_eq, sBk_eq, sCt_eq, sRaise_eq, sRetN_eq, kSet_ok, kSet_err, sSet_eq, kDrop_ok, kDrop_err, sDrop_eq, kRet_ok, kRet_err, sRet_eq, kIfS_t, kIfS_f, sIf_eq, kFor_ok, sFor_eq, getL_0, getL_s, sApp_eq, gSet_eq, kLc_ok, mLc_eq, wipeD_1, mYes_eq, kF_rt, kF_nx, kF_ex, dAdd_i, dSub_i, dNeg_i, dLt_i, dLe_i, dGt_i, dGe_i, dEq_b, dNot_b, dAbs_i, dMin2_i, dMax2_i, dInt1_i, dInt1_b, dLen_l, dLen_t, dLen_c, gL_l, gT_t, gS_s, dSl_l, dSlL_l, dFind_s, dAllS_s, dIsi_non, dIsi_bl, dIsi_int, dIsi_str, dIsi_lst, dIsi_tup, isN_non, isN_int, isN_str, isN_lst, isN_tup, isN_bl, notN_non, notN_int, notN_str, notN_lst, notN_tup, dIx_lit, dIx_litT, isi_1, isi_2, isi_3, isi_4, isi_5, isb_1, isb_2, isb_3, isb_4, isb_5, iss_1, iss_2, iss_3, iss_4, iss_5, isl_1, isl_2, isl_3, isl_4, isl_5, ist_1, ist_2, ist_3, ist_4, ist_5, isn_1, isn_2, isn_3, isn_4, isn_5, kT2_rt, endN_rt, endN_nx, clrI_s, clrI_n, mAtL_eq, kAtL_err, kC_err, kC_err1, kN_err, kCl_err, dListOf_l, dListOf_t, dTupOf_l, dTupOf_t, dRevL_l, r_kIf_p, r_kIf_n, r_kIfS_p, r_kIfS_n, r_kAnd_p, r_kAnd_n, r_kOr_p, r_kOr_n, r_kAndV_p, r_kAndV_n, r_kOrV_p, r_kOrV_n, r_kNot, r_dNot, r_kCh_p, r_kCh_n, r_not_t, r_bnot, r_eq_i, r_ne_i, r_eq_s, r_ne_s, r_mul, r_div, r_ixn, r_ixtn, r_ixsn, r_ixc, r_len_s, r_add_s, r_add_l, r_cat_l, r_lst, r_tup, r_R1, r_R1n, r_R2, r_sl_s, r_app, r_kLn, r_sExt, r_kExt, r_sPop, r_kPop, r_sSI, r_kSI, r_kSIl, r_ixl, r_sAug, r_kAug, r_kOS, r_sPar, r_kPar, r_sAsg, r_kAsg, r_kTo, r_gTup, r_gsNil, r_gsCons, r_kGs, r_tru0, r_truc, r_trus, r_trub, r_trun, r_sFI, r_kFI, r_kInit, r_kInitX, $[$es:term],*])
inductive Out where
  | bad (k : Nat) | long | told
def Out.due (t : Int) : Out → D
  | .bad k => .tup [.str zbf713652, .int k]
  | .long => .tup [.str z046afc1d, .int 0]
  | .told => .tup [.str za336b5d4, .int t]
def Out.chk : Out → R D
  | .bad k => .err "BadPress" [("index", .int k)]
  | .long => .err "TooLong" []
  | .told => .ok .non
theorem due_c1 {ps : List GP} {o0 o1 o2 o3 : Option D} : lcGo (gSet 3) mYes (mCall 1 m_law_many (mCons (mV 3) mNil)) [o0, o1, o2, o3] (ps.map GP.d) = .ok ((ps.map fun p : GP => p.len).map D.int) := by
  have e := lc_fm (T := gSet 3) (ft := mYes) (fe := mCall 1 m_law_many (mCons (mV 3) mNil)) (ρ := [o0, o1, o2, o3]) GP.d (fun _ => true) (fun p : GP => D.int p.len) (xs := ps) fun p m => ⟨_, rfl, rfl, fun _ => by exists gmany_ok⟩
  rw [List.filter_eq_self.mpr (fun _ _ => rfl), show (fun p : GP => D.int p.len) = D.int ∘ fun p : GP => p.len from rfl, ← List.map_map] at e
  exact e
theorem both {ps : List GP} (hl : ps.length ≤ 1000) (hs : ∀ p ∈ ps, p.sm) : ∃ o : Out, m_law_due [.lst (ps.map GP.d)] = .ok (o.due (gtot ps)) ∧ m_check_phrases [.lst (ps.map GP.d)] = o.chk ∧ (o = .told → ps ≠ []) := by
  have t := gtotal_ok (s := .lst (ps.map GP.d)) (ps := ps) rfl (by omega)
  by_cases hne : ps = []
  · subst hne
    have e := r_raiseF (c := "BadPress") (fld := "index") (f := mC (.int 0)) (ρ := [some (.lst []), none, none, none]) rfl isAtom_i
    refine ⟨.bad 0, ?_, ?_, fun z => nomatch z⟩
    · exists m_law_due, b_law_due, i1_law_due, Out.due
      rfl
    · exists m_check_phrases, b_check_phrases, i1_check_phrases, e, Out.chk
      rfl
  have lx : (ps.map GP.d).length = ps.length := List.length_map ..
  have ne : 0 < ps.length := List.length_pos_iff.mpr hne
  have ni : ¬ ((ps.length : Int) = 0) := by omega
  rcases fst_or GP.bad1 ps with h1 | ⟨k, h1⟩
  rotate_left
  · refine ⟨.bad k, ?_, ?_, fun z => nomatch z⟩
    · have e := due1_rt (o1 := none) (o2 := none) (o3 := none) hs h1
      generalize ps.map GP.d = xs at *
      exists m_law_due, b_law_due, i1_law_due, Out.due, lx, ni, e
    · obtain ⟨ρ, e⟩ := chk1_ex (o0 := some (.lst (ps.map GP.d))) (o1 := none) (o2 := none) (o3 := none) hs h1
      simp only [gT] at e
      generalize ps.map GP.d = xs at *
      exists m_check_phrases, b_check_phrases, i1_check_phrases, Out.chk, lx, ni, e
  obtain ⟨a1, a3, e1⟩ := due1_nx (o1 := none) (o2 := none) (o3 := none) hs h1
  obtain ⟨b2, b3, f1⟩ := chk1_nx (o0 := some (.lst (ps.map GP.d))) (o1 := none) (o2 := none) (o3 := none) hs h1
  have lc := due_c1 (ps := ps) (o0 := some (.lst (ps.map GP.d))) (o1 := a1) (o2 := none) (o3 := a3)
  have lcn := due_c1 (ps := ps) (o0 := some (.lst (ps.map GP.d))) (o1 := a1) (o2 := none) (o3 := none)
  have s1 := dSumL_ok (ns := ps.map fun p : GP => p.len)
  rw [show (ps.map fun p : GP => p.len).sum = gtot ps from rfl] at s1
  have ly : ((ps.map fun p : GP => p.len).map D.int).length ≤ 1000000 := by rw [List.length_map, List.length_map]; omega
  by_cases h2 : gtot ps > 128
  · refine ⟨.long, ?_, ?_, fun z => nomatch z⟩
    · generalize (ps.map fun p : GP => p.len).map D.int = ys at *
      generalize ps.map GP.d = xs at *
      generalize gtot ps = tt at *
      exists m_law_due, b_law_due, i1_law_due, Out.due, lx, ni, e1, c1_law_due, lc, lcn, s1, i4_law_due, h2
    · simp only [gT] at f1
      generalize ps.map GP.d = xs at *
      generalize gtot ps = tt at *
      exists m_check_phrases, b_check_phrases, i1_check_phrases, Out.chk, lx, ni, f1, t, i3_check_phrases, h2
  rcases fst_or (GP.bad2 (gtot ps)) ps with h3 | ⟨k, h3⟩
  · obtain ⟨d1, e2⟩ := due2_nx (o1 := a1) (o3 := a3) h3
    obtain ⟨d1n, e2n⟩ := due2_nx (o1 := a1) (o3 := none) h3
    obtain ⟨g2, g3, f2⟩ := chk2_nx (o0 := some (.lst (ps.map GP.d))) (o2 := b2) (o3 := b3) h3
    refine ⟨.told, ?_, ?_, fun _ => hne⟩
    · generalize (ps.map fun p : GP => p.len).map D.int = ys at *
      generalize ps.map GP.d = xs at *
      generalize gtot ps = tt at *
      exists m_law_due, b_law_due, i1_law_due, Out.due, lx, ni, e1, c1_law_due, lc, lcn, s1, i4_law_due, h2, e2, e2n
    · simp only [gT] at f1 f2
      generalize ps.map GP.d = xs at *
      generalize gtot ps = tt at *
      exists m_check_phrases, b_check_phrases, i1_check_phrases, Out.chk, lx, ni, f1, t, i3_check_phrases, h2, f2
  · have e2 := due2_rt (o1 := a1) (o3 := a3) h3
    have e2n := due2_rt (o1 := a1) (o3 := none) h3
    obtain ⟨ρ, f2⟩ := chk2_ex (o0 := some (.lst (ps.map GP.d))) (o2 := b2) (o3 := b3) h3
    refine ⟨.bad k, ?_, ?_, fun z => nomatch z⟩
    · generalize (ps.map fun p : GP => p.len).map D.int = ys at *
      generalize ps.map GP.d = xs at *
      generalize gtot ps = tt at *
      exists m_law_due, b_law_due, i1_law_due, Out.due, lx, ni, e1, c1_law_due, lc, lcn, s1, i4_law_due, h2, e2, e2n
    · simp only [gT] at f1 f2
      generalize ps.map GP.d = xs at *
      generalize gtot ps = tt at *
      exists m_check_phrases, b_check_phrases, i1_check_phrases, Out.chk, lx, ni, f1, t, i3_check_phrases, h2, f2
/-! ### the press, or the error -/
def gcop (ps : List GP) : D := .obj "Copies" ["phrases"] [.tup (ps.map GP.d)]
theorem ginit_told {ps : List GP} (c : m_check_phrases [.lst (ps.map GP.d)] = Out.told.chk) : m_Copies_init [.lst (ps.map GP.d)] = .ok [.tup (ps.map GP.d)] := by
  have c : m_check_phrases [.lst (ps.map GP.d)] = .ok .non := c
  generalize ps.map GP.d = xs at *
  simp only [m_Copies_init, mInit_eq]
  have k : (([] : List PySem.Str).contains "phrases" = false ∧ ([] : List PySem.Str).length < 900) := ⟨rfl, by decide⟩
  exists b_Copies_init, c, r_kFI k, initOf_ok
theorem ginit_err {xs : List D} {e : PySem.Str} {fs : List (PySem.Str × D)} (c : m_check_phrases [.lst xs] = .err e fs) : m_Copies_init [.lst xs] = .err e fs := by
  simp only [m_Copies_init, mInit_eq]
  exists b_Copies_init, c
theorem try_ex {cl : List Cl3} {f : Env → R Fl} {ρ ρ' : Env} {c : PySem.Str} {fs : List (PySem.Str × D)} (h : f ρ = .ok (.ex c fs ρ')) (l : ρ'.length = ρ.length) : sTryF cl f ρ = goN3 cl c fs ρ' := by
  unfold sTryF
  rw [h]
  exact if_pos l
theorem goN3_t {k : Cl3} {r : List Cl3} {c : PySem.Str} {fs : List (PySem.Str × D)} {ρ : Env} (h : k.tbl c = some true) : goN3 (k :: r) c fs ρ = endN k.io (k.g fs (clrI k.io ρ)) := by
  unfold goN3
  rw [h]
theorem goN3_f {k : Cl3} {r : List Cl3} {c : PySem.Str} {fs : List (PySem.Str × D)} {ρ : Env} (h : k.tbl c = some false) : goN3 (k :: r) c fs ρ = goN3 r c fs ρ := by
  rw [goN3, h]
theorem try_rt {cl : List Cl3} {f : Env → R Fl} {ρ : Env} {d : D} (h : f ρ = .ok (.rt d)) : sTryF cl f ρ = .ok (.rt d) := by
  unfold sTryF
  rw [h]
def Out.got (ps : List GP) : Out → D
  | .bad k => .tup [.str zbf713652, .int k, .bl true]
  | .long => .tup [.str z046afc1d, .int 0, .bl true]
  | .told => .tup [.str za336b5d4, gcop ps, .bl true]
theorem gtry_ok {ps : List GP} {o : Out} (c : m_check_phrases [.lst (ps.map GP.d)] = o.chk) : m_law_try [.lst (ps.map GP.d)] = .ok (o.got ps) := by
  cases o with
  | told =>
    have i := ginit_told c
    simp only [Out.got, gcop]
    generalize ps.map GP.d = xs at *
    have b : (sRet (mN dTup (mCons (mC (.str za336b5d4)) (mCons (mMake "Copies" ["phrases"] 1 m_Copies_init (mCons (mV 0) mNil)) (mCons (mC (.bl true)) mNil))))) [some (.lst xs), none, none] = .ok (.rt (.tup [.str za336b5d4, .obj "Copies" ["phrases"] [.tup xs], .bl true])) := by
      exists i, mMake
    exists m_law_try, b_law_try, try_rt b
  | bad k =>
    have i := ginit_err c
    simp only [Out.got]
    generalize ps.map GP.d = xs at *
    have b : (sRet (mN dTup (mCons (mC (.str za336b5d4)) (mCons (mMake "Copies" ["phrases"] 1 m_Copies_init (mCons (mV 0) mNil)) (mCons (mC (.bl true)) mNil))))) [some (.lst xs), none, none] = .ok (.ex "BadPress" [("index", .int k)] [some (.lst xs), none, none]) := by
      exists i, mMake
      rfl
    have g : goN3 [⟨tblL "BadPress" ["TooLong"], (some 1), e2_law_try⟩, ⟨tblL "TooLong" ["BadPress"], (some 1), e1_law_try⟩] "BadPress" [("index", .int k)] [some (.lst xs), none, none] = .ok (.rt (.tup [.str zbf713652, .int k, .bl true])) := by
      have t1 : tblL "BadPress" ["TooLong"] "BadPress" = some true := by decide
      rw [goN3_t t1]
      show endN (some 1) (e2_law_try [("index", .int k)] ([some (.lst xs), none, none])) = _
      have m : mXF [("index", .int k)] "index" [some (.lst xs), none, some (.bl true)] = .ok (.int k) := by
        unfold mXF
        rw [List.lookup_cons, beq_self_eq_true]
      exists e2_law_try, m
    exists m_law_try, b_law_try, try_ex b rfl, g
  | long =>
    have i := ginit_err c
    simp only [Out.got]
    generalize ps.map GP.d = xs at *
    have b : (sRet (mN dTup (mCons (mC (.str za336b5d4)) (mCons (mMake "Copies" ["phrases"] 1 m_Copies_init (mCons (mV 0) mNil)) (mCons (mC (.bl true)) mNil))))) [some (.lst xs), none, none] = .ok (.ex "TooLong" [] [some (.lst xs), none, none]) := by
      exists i, mMake
      rfl
    have g : goN3 [⟨tblL "BadPress" ["TooLong"], (some 1), e2_law_try⟩, ⟨tblL "TooLong" ["BadPress"], (some 1), e1_law_try⟩] "TooLong" [] [some (.lst xs), none, none] = .ok (.rt (.tup [.str z046afc1d, .int 0, .bl true])) := by
      have t1 : tblL "BadPress" ["TooLong"] "TooLong" = some false := by decide
      have t2 : tblL "TooLong" ["BadPress"] "TooLong" = some true := by decide
      rw [goN3_f t1, goN3_t t2]
      show endN (some 1) (e1_law_try [] ([some (.lst xs), none, none])) = _
      exists e1_law_try
    exists m_law_try, b_law_try, try_ex b rfl, g
end K09
set_option linter.all false
set_option maxRecDepth 100000
set_option maxHeartbeats 1000000
namespace K09
open PD PM PN
local macro_rules
  | `(tactic| exists $es,*) => `(tactic| simp (disch := (first | assumption | omega | (simp only [LNe, LRe, rngL_length, List.length_map, List.length_append, List.length_take, List.length_drop, List.length_range, List.length_range', List.length_cons, List.length_nil, List.length_reverse, List.length_replicate, List.length_set, Int.toNat_natCast, Nat.reduceAdd, Nat.reduceLeDiff]; first | done | omega) | decide)) only [o_nx, o_rt, o_bk, o_ct, o_ex, ot_some, List.map_cons, List.map_nil, List.length_cons, List.length_nil, Nat.reduceAdd, Nat.reduceSub, Nat.reduceMul, Nat.reduceLT, Int.reduceAdd, Int.reduceSub, Int.reduceMul, Int.reduceNeg, Int.reduceToNat, Int.toNat_natCast, Nat.zero_add, List.replicate, List.cons_append, List.nil_append, List.set_cons_zero, List.set_cons_succ, List.getElem?_cons_zero, List.getElem?_cons_succ, Option.map_some, mFn_eq, kCl1, kCl2, kCl3, kCl4, ite_true, ite_false, Bool.not_true, Bool.not_false, reduceIte, isAtom_bl, isAtom_i, isAtom_s, isAtom_n, List.getElem?_nil, Bool.false_eq_true, eq_self, not_true_eq_false, not_false_eq_true, decide_true, decide_false, Bool.true_eq_false, kAtL_ok, reduceCtorEq, oR_some, oR_none, okb, mV_0, mV_s, mC_eq, k1_ok, m1_eq, k2_ok, m2_eq, kN_ok, mN_eq, iArgs_eq, kO_ok, iOf_eq, mB_eq, mTru_eq, mSo_eq, mNo_eq, mNil_eq, kC_ok, mCons_eq, dBool_bl, dInt?_int, kIf_t, kIf_f, mIf_eq, kAnd_t, kAnd_f, mAnd_eq, kOr_t, kOr_f, mOr_eq, kNot_ok, mNot_eq, kAndV_t, kAndV_f, mAndV_eq, kOrV_t, kOrV_f, mOrV_eq, kCh0_ok, kCh_t, kCh_f, mChain_eq, kAt_ok, mAt_eq, kSl_ok, mSl_eq, kM_ok, mM_eq, mCall_eq, noF_ok, noF_err, kClA_ok, mCallA_eq, kG_ok, kG_err, kClL_ok, mCallL_eq, kOb_ok, kOb_err, kMk_ok1, kMk_ok2, mMake_eq, kMkL_ok1, kMkL_ok2, mMakeL_eq, mMeth_eq, mMeth0_eq, gSq_l, gSq_t, gSq_s, gEn_l, dIsC_o, kS_nx, kS_rt, kS_bk, kS_ct, kS_ex, sSeq_eq, sNx_eq, sBk_eq, sCt_eq, sRaise_eq, sRetN_eq, kSet_ok, kSet_err, sSet_eq, kDrop_ok, kDrop_err, sDrop_eq, kRet_ok, kRet_err, sRet_eq, kIfS_t, kIfS_f, sIf_eq, kFor_ok, sFor_eq, getL_0, getL_s, sApp_eq, gSet_eq, kLc_ok, mLc_eq, wipeD_1, mYes_eq, kF_rt, kF_nx, kF_ex, dAdd_i, dSub_i, dNeg_i, dLt_i, dLe_i, dGt_i, dGe_i, dEq_b, dNot_b, dAbs_i, dMin2_i, dMax2_i, dInt1_i, dInt1_b, dLen_l, dLen_t, dLen_c, gL_l, gT_t, gS_s, dSl_l, dSlL_l, dFind_s, dAllS_s, dIsi_non, dIsi_bl, dIsi_int, dIsi_str, dIsi_lst, dIsi_tup, isN_non, isN_int, isN_str, isN_lst, isN_tup, isN_bl, notN_non, notN_int, notN_str, notN_lst, notN_tup, dIx_lit, dIx_litT, isi_1, isi_2, isi_3, isi_4, isi_5, isb_1, isb_2, isb_3, isb_4, isb_5, iss_1, iss_2, iss_3, iss_4, iss_5, isl_1, isl_2, isl_3, isl_4, isl_5, ist_1, ist_2, ist_3, ist_4, ist_5, isn_1, isn_2, isn_3, isn_4, isn_5, kT2_rt, endN_rt, endN_nx, clrI_s, clrI_n, mAtL_eq, kAtL_err, kC_err, kC_err1, kN_err, kCl_err, dListOf_l, dListOf_t, dTupOf_l, dTupOf_t, dRevL_l, r_kIf_p, r_kIf_n, r_kIfS_p, r_kIfS_n, r_kAnd_p, r_kAnd_n, r_kOr_p, r_kOr_n, r_kAndV_p, r_kAndV_n, r_kOrV_p, r_kOrV_n, r_kNot, r_dNot, r_kCh_p, r_kCh_n, r_not_t, r_bnot, r_eq_i, r_ne_i, r_eq_s, r_ne_s, r_mul, r_div, r_ixn, r_ixtn, r_ixsn, r_ixc, r_len_s, r_add_s, r_add_l, r_cat_l, r_lst, r_tup, r_R1, r_R1n, r_R2, r_sl_s, r_app, r_kLn, r_sExt, r_kExt, r_sPop, r_kPop, r_sSI, r_kSI, r_kSIl, r_ixl, r_sAug, r_kAug, r_kOS, r_sPar, r_kPar, r_sAsg, r_kAsg, r_kTo, r_gTup, r_gsNil, r_gsCons, r_kGs, r_tru0, r_truc, r_trus, r_trub, r_trun, r_sFI, r_kFI, r_kInit, r_kInitX, $[$es:term],*])
section
variable {ps : List GP} {o : Out}
theorem gfld : dFld ["Copies"] "phrases" (gcop ps) = some (.tup (ps.map GP.d)) := dFld_ok (List.mem_singleton.mpr rfl) (by
  show List.lookup (PySem.Str.ofString "phrases") [(PySem.Str.ofString "phrases", D.tup (ps.map GP.d))] = _
  rw [List.lookup_cons, beq_self_eq_true])
theorem okS_g {n : Nat} {p : GP} : okS (n + 2) p.d := by
  cases p with
  | put w => exact ⟨by simp, fun x m => by
      rcases List.mem_cons.mp m with rfl | m
      · trivial
      · rw [List.mem_singleton.mp m]; trivial⟩
  | copy s k => exact ⟨by simp, fun x m => by
      rcases List.mem_cons.mp m with rfl | m
      · trivial
      · rcases List.mem_cons.mp m with rfl | m
        · trivial
        · rw [List.mem_singleton.mp m]; trivial⟩
theorem okS_gs {n : Nat} (hl : ps.length ≤ 1000) : okS (n + 3) (.tup (ps.map GP.d)) ∧ okS (n + 3) (.lst (ps.map GP.d)) := by
  have h : (ps.map GP.d).length ≤ 1000000 ∧ ∀ x ∈ ps.map GP.d, okS (n + 2) x := ⟨by rw [List.length_map]; omega, fun x m => by
    obtain ⟨p, _, rfl⟩ := List.mem_map.mp m
    exact okS_g⟩
  exact ⟨h, h⟩
theorem noL_gs : ∀ {ps : List GP}, noLs (ps.map GP.d) = true
  | [] => rfl
  | p :: ps => by
    have ih := noL_gs (ps := ps)
    show (noL p.d && noLs (ps.map GP.d)) = true
    rw [ih, Bool.and_true]
    cases p <;> rfl
theorem noL_got : noL (o.got ps) = true := by
  cases o with
  | told =>
    simp [Out.got, gcop, noL, noLs, noL_gs]
  | _ => rfl
theorem gtells_ok (hl : ps.length ≤ 1000) : m_law_tells [gcop ps, .lst (ps.map GP.d), .int (gtot ps)] = .ok (.bl true) := by
  have f := gfld (ps := ps)
  have s := same_ok 8 _ (okS_gs (n := 5) hl).1
  have k1 : kM0 [("Copies", m_Copies_size)] "size" (.ok (gcop ps)) = m_Copies_size [gcop ps] := kM0_ok (by rw [List.lookup_cons, beq_self_eq_true]) (by decide)
  have k2 : kM0 [("Copies", m_Copies_length)] "length" (.ok (gcop ps)) = m_Copies_length [gcop ps] := kM0_ok (by rw [List.lookup_cons, beq_self_eq_true]) (by decide)
  have t := gtotal_ok (s := .tup (ps.map GP.d)) (ps := ps) rfl (by omega)
  have lx : (ps.map GP.d).length = ps.length := List.length_map ..
  have i1 := same_int (n := 7) (i := (ps.length : Int)) (j := ps.length)
  have i2 := same_int (n := 7) (i := gtot ps) (j := gtot ps)
  rw [decide_eq_true rfl] at i1 i2
  have c1 : m_Copies_size [gcop ps] = .ok (.int ps.length) := by
    generalize gcop ps = c at *
    generalize ps.map GP.d = xs at *
    exists m_Copies_size, b_Copies_size, f, lx
  have c2 : m_Copies_length [gcop ps] = .ok (.int (gtot ps)) := by
    generalize gcop ps = c at *
    generalize ps.map GP.d = xs at *
    exists m_Copies_length, b_Copies_length, f, t
  generalize gcop ps = c at *
  generalize ps.map GP.d = xs at *
  generalize gtot ps = tt at *
  exists m_law_tells, b_law_tells, i1_law_tells, f, s, k1, k2, c1, c2, i1, i2, lx
theorem gholds_ok (hl : ps.length ≤ 1000) (hs : ∀ p ∈ ps, p.sm) : m_law_holds [.lst (ps.map GP.d)] = .ok (.bl true) := by
  obtain ⟨o, e1, e2, e3⟩ := both hl hs
  have e2 := gtry_ok e2
  have g := gNoL_ok (noL_got (o := o) (ps := ps))
  have s := same_ok 8 _ (okS_gs (n := 5) hl).2
  have gb : gNoL (.bl true) = .ok (.bl true) := rfl
  have lx : (ps.map GP.d).length = ps.length := List.length_map ..
  cases o with
  | bad k =>
    have s2 : m_law_same 8 [.tup [.str zbf713652, .int k, .bl true], .tup [.str zbf713652, .int k, .bl true]] = .ok (.bl true) := same_ok 8 _ ⟨by simp, fun x m => by simp at m; rcases m with rfl | rfl | rfl <;> trivial⟩
    simp only [Out.got, Out.due] at *
    have ne : (zbf713652 = za336b5d4) = False := by simp [zbf713652, za336b5d4]
    generalize ps.map GP.d = xs at *
    exists m_law_holds, b_law_holds, i1_law_holds, i2_law_holds, e1, e2, kClL, g, s, gb, s2, ne
  | long =>
    have s2 : m_law_same 8 [.tup [.str z046afc1d, .int 0, .bl true], .tup [.str z046afc1d, .int 0, .bl true]] = .ok (.bl true) := same_ok 8 _ ⟨by simp, fun x m => by simp at m; rcases m with rfl | rfl | rfl <;> trivial⟩
    simp only [Out.got, Out.due] at *
    have ne : (z046afc1d = za336b5d4) = False := by simp [z046afc1d, za336b5d4]
    generalize ps.map GP.d = xs at *
    exists m_law_holds, b_law_holds, i1_law_holds, i2_law_holds, e1, e2, kClL, g, s, gb, s2, ne
  | told =>
    have t := gtells_ok (ps := ps) hl
    have hne : ps ≠ [] := e3 rfl
    have ne : 0 < ps.length := List.length_pos_iff.mpr hne
    simp only [Out.got, Out.due] at *
    generalize gcop ps = c at *
    generalize ps.map GP.d = xs at *
    have r0 : ∀ ρ d, kSI 2 ρ (.ok d) (some xs) (.ok (.int 0)) = .ok (.nx (ρ.set 2 (some (.lst (xs.set 0 d))))) := fun ρ d => r_kSI (k := 0) (by rw [lx]; exact ne)
    exists m_law_holds, b_law_holds, i1_law_holds, i2_law_holds, i3_law_holds, e1, e2, kClL, g, s, gb, t, lx, r0
end
end K09
set_option linter.all false
set_option maxRecDepth 100000
set_option maxHeartbeats 1000000
namespace K09
open PD PM PN
local macro_rules
  | `(tactic| exists $es,*) => `(tactic| simp (disch := (first | assumption | omega | (simp only [LNe, LRe, rngL_length, List.length_map, List.length_append, List.length_take, List.length_drop, List.length_range, List.length_range', List.length_cons, List.length_nil, List.length_reverse, List.length_replicate, List.length_set, Int.toNat_natCast, Nat.reduceAdd, Nat.reduceLeDiff]; first | done | omega) | decide)) only [o_nx, o_rt, o_bk, o_ct, o_ex, ot_some, List.map_cons, List.map_nil, List.length_cons, List.length_nil, Nat.reduceAdd, Nat.reduceSub, Nat.reduceMul, Nat.reduceLT, Int.reduceAdd, Int.reduceSub, Int.reduceMul, Int.reduceNeg, Int.reduceToNat, Int.toNat_natCast, Nat.zero_add, List.replicate, List.cons_append, List.nil_append, List.set_cons_zero, List.set_cons_succ, List.getElem?_cons_zero, List.getElem?_cons_succ, Option.map_some, mFn_eq, kCl1, kCl2, kCl3, kCl4, ite_true, ite_false, Bool.not_true, Bool.not_false, reduceIte, isAtom_bl, isAtom_i, isAtom_s, isAtom_n, List.getElem?_nil, Bool.false_eq_true, eq_self, not_true_eq_false, not_false_eq_true, decide_true, decide_false, Bool.true_eq_false, kAtL_ok, reduceCtorEq, oR_some, oR_none, okb, mV_0, mV_s, mC_eq, k1_ok, m1_eq, k2_ok, m2_eq, kN_ok, mN_eq, iArgs_eq, kO_ok, iOf_eq, mB_eq, mTru_eq, mSo_eq, mNo_eq, mNil_eq, kC_ok, mCons_eq, dBool_bl, dInt?_int, kIf_t, kIf_f, mIf_eq, kAnd_t, kAnd_f, mAnd_eq, kOr_t, kOr_f, mOr_eq, kNot_ok, mNot_eq, kAndV_t, kAndV_f, mAndV_eq, kOrV_t, kOrV_f, mOrV_eq, kCh0_ok, kCh_t, kCh_f, mChain_eq, kAt_ok, mAt_eq, kSl_ok, mSl_eq, kM_ok, mM_eq, mCall_eq, noF_ok, noF_err, kClA_ok, mCallA_eq, kG_ok, kG_err, kClL_ok, mCallL_eq, kOb_ok, kOb_err, kMk_ok1, kMk_ok2, mMake_eq, kMkL_ok1, kMkL_ok2, mMakeL_eq, mMeth_eq, mMeth0_eq, gSq_l, gSq_t, gSq_s, gEn_l, dIsC_o, kS_nx, kS_rt, kS_bk, kS_ct, kS_ex, sSeq_eq, sNx_eq, sBk_eq, sCt_eq, sRaise_eq, sRetN_eq, kSet_ok, kSet_err, sSet_eq, kDrop_ok, kDrop_err, sDrop_eq, kRet_ok, kRet_err, sRet_eq, kIfS_t, kIfS_f, sIf_eq, kFor_ok, sFor_eq, getL_0, getL_s, sApp_eq, gSet_eq, kLc_ok, mLc_eq, wipeD_1, mYes_eq, kF_rt, kF_nx, kF_ex, dAdd_i, dSub_i, dNeg_i, dLt_i, dLe_i, dGt_i, dGe_i, dEq_b, dNot_b, dAbs_i, dMin2_i, dMax2_i, dInt1_i, dInt1_b, dLen_l, dLen_t, dLen_c, gL_l, gT_t, gS_s, dSl_l, dSlL_l, dFind_s, dAllS_s, dIsi_non, dIsi_bl, dIsi_int, dIsi_str, dIsi_lst, dIsi_tup, isN_non, isN_int, isN_str, isN_lst, isN_tup, isN_bl, notN_non, notN_int, notN_str, notN_lst, notN_tup, dIx_lit, dIx_litT, isi_1, isi_2, isi_3, isi_4, isi_5, isb_1, isb_2, isb_3, isb_4, isb_5, iss_1, iss_2, iss_3, iss_4, iss_5, isl_1, isl_2, isl_3, isl_4, isl_5, ist_1, ist_2, ist_3, ist_4, ist_5, isn_1, isn_2, isn_3, isn_4, isn_5, kT2_rt, endN_rt, endN_nx, clrI_s, clrI_n, mAtL_eq, kAtL_err, kC_err, kC_err1, kN_err, kCl_err, dListOf_l, dListOf_t, dTupOf_l, dTupOf_t, dRevL_l, r_kIf_p, r_kIf_n, r_kIfS_p, r_kIfS_n, r_kAnd_p, r_kAnd_n, r_kOr_p, r_kOr_n, r_kAndV_p, r_kAndV_n, r_kOrV_p, r_kOrV_n, r_kNot, r_dNot, r_kCh_p, r_kCh_n, r_not_t, r_bnot, r_eq_i, r_ne_i, r_eq_s, r_ne_s, r_mul, r_div, r_ixn, r_ixtn, r_ixsn, r_ixc, r_len_s, r_add_s, r_add_l, r_cat_l, r_lst, r_tup, r_R1, r_R1n, r_R2, r_sl_s, r_app, r_kLn, r_sExt, r_kExt, r_sPop, r_kPop, r_sSI, r_kSI, r_kSIl, r_ixl, r_sAug, r_kAug, r_kOS, r_sPar, r_kPar, r_sAsg, r_kAsg, r_kTo, r_gTup, r_gsNil, r_gsCons, r_kGs, r_tru0, r_truc, r_trus, r_trub, r_trun, r_sFI, r_kFI, r_kInit, r_kInitX, $[$es:term],*])
/-! ### what is drawn -/
theorem sign_ok (n : Int) : ∃ c, m_law_sign [.int n] = .ok (.str [c]) := by
  have h0 : 0 ≤ n % 96 := Int.emod_nonneg _ (by decide)
  have h1 : n % 96 < 96 := Int.emod_lt_of_pos _ (by decide)
  obtain ⟨k, hk⟩ : ∃ k : Nat, n % 96 = k := ⟨(n % 96).toNat, by omega⟩
  have hl : (z7109b8bd ++ zb9801bfe).length = 96 := by decide
  obtain ⟨c, hc⟩ : ∃ c, (z7109b8bd ++ zb9801bfe)[k]? = some c := ⟨_, List.getElem?_eq_getElem (by omega)⟩
  have e : dAdd (.str z7109b8bd) (.str zb9801bfe) = some (.str (z7109b8bd ++ zb9801bfe)) := r_add_s (by decide)
  have m : dMod (.int n) (.int 96) = some (.int k) := by rw [dMod_i (by omega), hk]
  have ix : dIx (.str (z7109b8bd ++ zb9801bfe)) (.int k) = some (.str [c]) := by rw [r_ixsn (by rw [hl]; omega), hc]; rfl
  generalize z7109b8bd ++ zb9801bfe = sg at *
  refine ⟨c, ?_⟩
  exists m_law_sign, b_law_sign, e, m, ix
theorem signed_ok (c b : Int) (hb : 0 < b) : ∃ v, m_law_signed [.int c, .int b] = .ok (.int v) := by
  by_cases h : c < 0
  · refine ⟨-(-c % b), ?_⟩
    have m : dMod (.int (-c)) (.int b) = some (.int (-c % b)) := dMod_i hb
    exists m_law_signed, b_law_signed, i1_law_signed, m, h
  · refine ⟨c % b, ?_⟩
    have m : dMod (.int c) (.int b) = some (.int (c % b)) := dMod_i hb
    exists m_law_signed, b_law_signed, i1_law_signed, m, h
theorem pow_ex (k : Nat) (hk : k ≤ 1000) : ∃ z : Int, dPow (.int 10) (.int k) = some (.int z) ∧ 0 < z := ⟨_, dPow_i ⟨by omega, by omega, by decide⟩, Int.pow_pos (by decide)⟩
theorem odd_ok (many size x0 x1 x2 x3 x4 : Int) (ns : List Int) (h1 : 0 ≤ x1) (h4 : 0 ≤ x4) : ∃ p : GP, m_law_odd [.int many, .int size, .lst [.int x0, .int x1, .int x2, .int x3, .int x4], .scr ns] = .ok p.d ∧ p.sm := by
  obtain ⟨c1, e1⟩ := sign_ok x2
  obtain ⟨c2, e2⟩ := sign_ok x3
  obtain ⟨lt, e3, _, _⟩ := letter_ok x2
  obtain ⟨z60, p60, b60⟩ := pow_ex 60 (by omega)
  obtain ⟨z30, p30, _⟩ := pow_ex 30 (by omega)
  have p60 : dPow (.int 10) (.int 60) = some (.int z60) := p60
  have p30 : dPow (.int 10) (.int 30) = some (.int z30) := p30
  have cc3 : m_law_cell [.scr ns, .int 3] = .ok (.int (ns.getD 3 0)) := cell_ok ns 3
  have cc4 : m_law_cell [.scr ns, .int 4] = .ok (.int (ns.getD 4 0)) := cell_ok ns 4
  obtain ⟨st, es⟩ := signed_ok (ns.getD 3 0) z60 b60
  obtain ⟨ln, el⟩ := signed_ok (ns.getD 4 0) 1001 (by decide)
  have sl : dSl (.str [c1, c2]) none (some x4) = some (.str (cutG [c1, c2] none (some x4))) := dSl_s (by rw [LNe]; show 2 ≤ 1000000; omega)
  have wl : (cutG [c1, c2] none (some x4)).length ≤ 2 := by rw [cut_to h4, List.length_take]; exact Nat.min_le_right ..
  generalize cutG [c1, c2] none (some x4) = w at *
  generalize ns.getD 3 0 = a3 at *
  generalize ns.getD 4 0 = a4 at *
  have m : dMod (.int x1) (.int 18) = some (.int (x1 % 18)) := dMod_i (by decide)
  have m0 : 0 ≤ x1 % 18 := Int.emod_nonneg _ (by decide)
  have m1 : x1 % 18 < 18 := Int.emod_lt_of_pos _ (by decide)
  generalize x1 % 18 = i at *
  have rows : ∃ gps : List GP, gps = [.put w, .put w, .put (97 :: w), .put [lt], .put [65], .copy st many, .copy st ln, .copy 0 ln, .copy (-1) many, .copy 0 0, .copy (size - many) many, .copy (size - many + 1) many, .copy 0 (many + 127 - size), .copy 0 (many + 128 - size), .copy 0 (many + 129 - size), .copy 1 (many + 128 - size), .copy 0 z30, .copy z30 many] := ⟨_, rfl⟩
  obtain ⟨gps, hg⟩ := rows
  obtain ⟨p, hp⟩ : ∃ p, gps[i.toNat]? = some p := ⟨_, List.getElem?_eq_getElem (by rw [hg]; show i.toNat < 18; omega)⟩
  have ix : dIx (.lst (gps.map GP.d)) (.int i) = some p.d := dIx_l m0 (by rw [List.getElem?_map, hp]; rfl)
  have hsm : p.sm := by
    have mem := List.mem_of_getElem? hp
    rw [hg] at mem
    simp only [List.mem_cons, List.not_mem_nil, or_false] at mem
    rcases mem with rfl | rfl | rfl | rfl | rfl | rfl | rfl | rfl | rfl | rfl | rfl | rfl | rfl | rfl | rfl | rfl | rfl | rfl
    · show w.length ≤ 1000; omega
    · show w.length ≤ 1000; omega
    · show w.length + 1 ≤ 1000; omega
    · show 1 ≤ 1000; omega
    · show 1 ≤ 1000; omega
    all_goals trivial
  refine ⟨p, ?_, hsm⟩
  clear hsm
  generalize p.d = pd at *
  have ix2 := ix
  rw [hg] at ix2
  simp only [List.map_cons, List.map_nil, GP.d] at ix2
  exists m_law_odd, b_law_odd, e1, e2, e3, p60, p30, cc3, cc4, es, el, sl, m, ix2
def gp : Ph → GP
  | .put c => .put [c]
  | .copy s n => .copy s n
theorem gp_d {p : Ph} : (gp p).d = p.d := by cases p <;> rfl
theorem gp_len {p : Ph} : (gp p).len = (p.len : Int) := by cases p <;> rfl
theorem gp_sm {p : Ph} : (gp p).sm := by
  cases p with
  | put c => show 1 ≤ 1000; omega
  | copy s n => trivial
theorem gp_map {ps : List Ph} : ps.map Ph.d = (ps.map gp).map GP.d := by
  rw [List.map_map]
  exact List.map_congr_left fun p _ => gp_d.symm
theorem gp_tot : ∀ {ps : List Ph}, gtot (ps.map gp) = (tot ps : Int)
  | [] => rfl
  | p :: ps => by
    have ih := gp_tot (ps := ps)
    unfold gtot at ih ⊢
    rw [List.map_cons, List.map_cons, List.sum_cons, ih, gp_len, tot_cons]
    omega
theorem sum_ok {qs : List GP} (hl : qs.length ≤ 1000) : dSumL [.lst ((qs.map GP.len).map D.int)] = some (.int (gtot qs)) := dSumL_ok (ns := qs.map GP.len)
theorem padded_ok {ps : List Ph} (hv : Val ps) (t0 t1 t2 t3 : Int) (tl : List D) (h1 : 0 ≤ t1 ∧ t1 < 5) :
    ∃ qs : List GP, m_law_padded [.lst (ps.map Ph.d), .lst (.int t0 :: .int t1 :: .int t2 :: .int t3 :: tl)] = .ok (.lst (qs.map GP.d)) ∧ qs.length ≤ 300 ∧ (∀ p ∈ qs, p.sm) ∧ qs ≠ [] := by
  have hl := hv.len
  have hm := hv.most
  have lq : (ps.map gp).length = ps.length := List.length_map ..
  have sq : ∀ p ∈ ps.map gp, p.sm := fun p m => by
    obtain ⟨q, _, rfl⟩ := List.mem_map.mp m
    exact gp_sm
  have nq : ps.map gp ≠ [] := fun z => hv.ne (List.map_eq_nil_iff.mp z)
  have tq := gp_tot (ps := ps)
  rw [gp_map]
  generalize ps.map gp = qs at *
  by_cases h0 : t0 > 0
  · refine ⟨qs, ?_, by omega, sq, nq⟩
    generalize qs.map GP.d = xs at *
    exists m_law_padded, b_law_padded, i1_law_padded, h0
  obtain ⟨lt, e3, _, _⟩ := letter_ok t3
  have lc : ∀ o0 o1 o2 o3 o4 o5 : Option D, lcGo (gSet 5) mYes (mCall 1 m_law_many (mCons (mV 5) mNil)) [o0, o1, o2, o3, o4, o5] (qs.map GP.d) = .ok ((qs.map GP.len).map D.int) := fun o0 o1 o2 o3 o4 o5 => by
    have e := lc_fm (T := gSet 5) (ft := mYes) (fe := mCall 1 m_law_many (mCons (mV 5) mNil)) (ρ := [o0, o1, o2, o3, o4, o5]) GP.d (fun _ => true) (fun p : GP => D.int p.len) (xs := qs) fun p m => ⟨_, rfl, rfl, fun _ => by exists gmany_ok⟩
    rw [List.filter_eq_self.mpr (fun _ _ => rfl), show (fun p : GP => D.int p.len) = D.int ∘ GP.len from rfl, ← List.map_map] at e
    exact e
  have s1 := sum_ok (qs := qs) (by omega)
  rw [tq] at s1
  have g := gR1_ok (j := 126 + t1 - (tot ps : Int)) (by rw [LRe]; omega) (by rw [LRe]; omega)
  have hn : (126 + t1 - (tot ps : Int)).toNat ≤ 130 := by omega
  generalize (126 + t1 - (tot ps : Int)).toNat = n at *
  obtain ⟨us, eu, lu, su⟩ := lc_all (T := gSet 4) (ft := mYes) (fe := mN dTup (mCons (mC (.str z8e13ffc9)) (mCons (mCall 1 m_law_letter (mCons (m2 dIx (mV 1) (mC (.int 3))) mNil)) mNil))) (ρ := [some (.lst (qs.map GP.d)), some (.lst (.int t0 :: .int t1 :: .int t2 :: .int t3 :: tl)), some (.int (tot ps : Nat)), none, none, none]) GP.d GP.sm (ds := rngL 0 n) (fun d m => ⟨_, .put [lt], rfl, rfl, by exists e3; rfl, (by show 1 ≤ 1000; omega)⟩)
  rw [rngL_length] at lu
  have ly : ((qs.map GP.len).map D.int).length ≤ 1000 := by rw [List.length_map, List.length_map]; omega
  have lx : (qs.map GP.d).length ≤ 1000 := by rw [List.length_map]; omega
  have lz : (us.map GP.d).length ≤ 1000 := by rw [List.length_map]; omega
  by_cases h2 : t2 = 0
  · subst h2
    refine ⟨us ++ qs, ?_, by rw [List.length_append]; omega, fun p m => (List.mem_append.mp m).elim (su p) (sq p), fun z => nq (List.append_eq_nil_iff.mp z).2⟩
    rw [List.map_append]
    generalize (qs.map GP.len).map D.int = ys at *
    generalize us.map GP.d = zs at *
    generalize qs.map GP.d = xs at *
    exists m_law_padded, b_law_padded, i1_law_padded, h0, c1_law_padded, lc, s1, c2_law_padded, g, eu, i2_law_padded
  · refine ⟨qs ++ us, ?_, by rw [List.length_append]; omega, fun p m => (List.mem_append.mp m).elim (sq p) (su p), fun z => nq (List.append_eq_nil_iff.mp z).1⟩
    rw [List.map_append]
    generalize (qs.map GP.len).map D.int = ys at *
    generalize us.map GP.d = zs at *
    generalize qs.map GP.d = xs at *
    exists m_law_padded, b_law_padded, i1_law_padded, h0, c1_law_padded, lc, s1, c2_law_padded, g, eu, i2_law_padded, h2
end K09
set_option linter.all false
set_option maxRecDepth 100000
set_option maxHeartbeats 1000000
namespace K09
open PD PM PN
local macro_rules
  | `(tactic| exists $es,*) => `(tactic| simp (disch := (first | assumption | omega | (simp only [LNe, LRe, rngL_length, List.length_map, List.length_append, List.length_take, List.length_drop, List.length_range, List.length_range', List.length_cons, List.length_nil, List.length_reverse, List.length_replicate, List.length_set, Int.toNat_natCast, Nat.reduceAdd, Nat.reduceLeDiff]; first | done | omega) | decide)) only [o_nx, o_rt, o_bk, o_ct, o_ex, ot_some, List.map_cons, List.map_nil, List.length_cons, List.length_nil, Nat.reduceAdd, Nat.reduceSub, Nat.reduceMul, Nat.reduceLT, Int.reduceAdd, Int.reduceSub, Int.reduceMul, Int.reduceNeg, Int.reduceToNat, Int.toNat_natCast, Nat.zero_add, List.replicate, List.cons_append, List.nil_append, List.set_cons_zero, List.set_cons_succ, List.getElem?_cons_zero, List.getElem?_cons_succ, Option.map_some, mFn_eq, kCl1, kCl2, kCl3, kCl4, ite_true, ite_false, Bool.not_true, Bool.not_false, reduceIte, isAtom_bl, isAtom_i, isAtom_s, isAtom_n, List.getElem?_nil, Bool.false_eq_true, eq_self, not_true_eq_false, not_false_eq_true, decide_true, decide_false, Bool.true_eq_false, kAtL_ok, reduceCtorEq, oR_some, oR_none, okb, mV_0, mV_s, mC_eq, k1_ok, m1_eq, k2_ok, m2_eq, kN_ok, mN_eq, iArgs_eq, kO_ok, iOf_eq, mB_eq, mTru_eq, mSo_eq, mNo_eq, mNil_eq, kC_ok, mCons_eq, dBool_bl, dInt?_int, kIf_t, kIf_f, mIf_eq, kAnd_t, kAnd_f, mAnd_eq, kOr_t, kOr_f, mOr_eq, kNot_ok, mNot_eq, kAndV_t, kAndV_f, mAndV_eq, kOrV_t, kOrV_f, mOrV_eq, kCh0_ok, kCh_t, kCh_f, mChain_eq, kAt_ok, mAt_eq, kSl_ok, mSl_eq, kM_ok, mM_eq, mCall_eq, noF_ok, noF_err, kClA_ok, mCallA_eq, kG_ok, kG_err, kClL_ok, mCallL_eq, kOb_ok, kOb_err, kMk_ok1, kMk_ok2, mMake_eq, kMkL_ok1, kMkL_ok2, mMakeL_eq, mMeth_eq, mMeth0_eq, gSq_l, gSq_t, gSq_s, gEn_l, dIsC_o, kS_nx, kS_rt, kS_bk, kS_ct, kS_ex, sSeq_eq, sNx_eq, sBk_eq, sCt_eq, sRaise_eq, sRetN_eq, kSet_ok, kSet_err, sSet_eq, kDrop_ok, kDrop_err, sDrop_eq, kRet_ok, kRet_err, sRet_eq, kIfS_t, kIfS_f, sIf_eq, kFor_ok, sFor_eq, getL_0, getL_s, sApp_eq, gSet_eq, kLc_ok, mLc_eq, wipeD_1, mYes_eq, kF_rt, kF_nx, kF_ex, dAdd_i, dSub_i, dNeg_i, dLt_i, dLe_i, dGt_i, dGe_i, dEq_b, dNot_b, dAbs_i, dMin2_i, dMax2_i, dInt1_i, dInt1_b, dLen_l, dLen_t, dLen_c, gL_l, gT_t, gS_s, dSl_l, dSlL_l, dFind_s, dAllS_s, dIsi_non, dIsi_bl, dIsi_int, dIsi_str, dIsi_lst, dIsi_tup, isN_non, isN_int, isN_str, isN_lst, isN_tup, isN_bl, notN_non, notN_int, notN_str, notN_lst, notN_tup, dIx_lit, dIx_litT, isi_1, isi_2, isi_3, isi_4, isi_5, isb_1, isb_2, isb_3, isb_4, isb_5, iss_1, iss_2, iss_3, iss_4, iss_5, isl_1, isl_2, isl_3, isl_4, isl_5, ist_1, ist_2, ist_3, ist_4, ist_5, isn_1, isn_2, isn_3, isn_4, isn_5, kT2_rt, endN_rt, endN_nx, clrI_s, clrI_n, mAtL_eq, kAtL_err, kC_err, kC_err1, kN_err, kCl_err, dListOf_l, dListOf_t, dTupOf_l, dTupOf_t, dRevL_l, r_kIf_p, r_kIf_n, r_kIfS_p, r_kIfS_n, r_kAnd_p, r_kAnd_n, r_kOr_p, r_kOr_n, r_kAndV_p, r_kAndV_n, r_kOrV_p, r_kOrV_n, r_kNot, r_dNot, r_kCh_p, r_kCh_n, r_not_t, r_bnot, r_eq_i, r_ne_i, r_eq_s, r_ne_s, r_mul, r_div, r_ixn, r_ixtn, r_ixsn, r_ixc, r_len_s, r_add_s, r_add_l, r_cat_l, r_lst, r_tup, r_R1, r_R1n, r_R2, r_sl_s, r_app, r_kLn, r_sExt, r_kExt, r_sPop, r_kPop, r_sSI, r_kSI, r_kSIl, r_ixl, r_sAug, r_kAug, r_kOS, r_sPar, r_kPar, r_sAsg, r_kAsg, r_kTo, r_gTup, r_gsNil, r_gsCons, r_kGs, r_tru0, r_truc, r_trus, r_trub, r_trun, r_sFI, r_kFI, r_kInit, r_kInitX, $[$es:term],*])
section
variable {qs : List GP} {ns : List Int}
/-- a turn of the twin -/
theorem twin_turn (told : D) (hq : qs.length ≤ 300) (hn : qs ≠ []) (sq : ∀ p ∈ qs, p.sm) (j : Nat) (x0 x1 x2 x3 x4 : Int) (b1 : 0 ≤ x1) (b4 : 0 ≤ x4) (size : Int) (o6 o7 o8 : Option D) {rs : List GP} (lr : rs.length = qs.length) (sr : ∀ p ∈ rs, p.sm)
    (hm : dMul (.int 5) (.int (j : Nat)) = some (.int (5 * (j : Nat)))) (hs : dSl told (some (6 + 5 * (j : Nat))) (some (11 + 5 * (j : Nat))) = some (.lst [.int x0, .int x1, .int x2, .int x3, .int x4])) :
    ∃ (rs2 : List GP) (a6 a7 : Option D), l1_law_twin [some (.lst (qs.map GP.d)), some told, some (.scr ns), some (.lst (rs.map GP.d)), some (.int size), some (.int (j : Nat)), o6, o7, o8] = .ok (.nx [some (.lst (qs.map GP.d)), some told, some (.scr ns), some (.lst (rs2.map GP.d)), some (.int size), some (.int (j : Nat)), a6, a7, o8]) ∧ rs2.length = qs.length ∧ ∀ p ∈ rs2, p.sm := by
  have ln : 0 < qs.length := List.length_pos_iff.mpr hn
  have m := dMod_i (i := x0) (j := (qs.length : Int)) (by omega)
  have m0 : 0 ≤ x0 % (qs.length : Int) := Int.emod_nonneg _ (by omega)
  have m1 : x0 % (qs.length : Int) < qs.length := Int.emod_lt_of_pos _ (by omega)
  obtain ⟨k, hk⟩ : ∃ k : Nat, x0 % (qs.length : Int) = k := ⟨(x0 % (qs.length : Int)).toNat, by omega⟩
  rw [hk] at m m0 m1
  have hkl : k < qs.length := by omega
  obtain ⟨p, hp⟩ : ∃ p, qs[k]? = some p := ⟨_, List.getElem?_eq_getElem hkl⟩
  have ix : dIx (.lst (qs.map GP.d)) (.int (k : Nat)) = some p.d := by rw [r_ixn]; exact gat hp
  have mn := gmany_ok (p := p)
  obtain ⟨y, ey, sy⟩ := odd_ok p.len size x0 x1 x2 x3 x4 ns b1 b4
  have lx : (qs.map GP.d).length = qs.length := List.length_map ..
  have ks : ∀ ρ d, kSI 3 ρ (.ok d) (some (rs.map GP.d)) (.ok (.int (k : Nat))) = .ok (.nx (ρ.set 3 (some (.lst ((rs.map GP.d).set k d))))) := fun ρ d => r_kSI (by rw [List.length_map, lr]; exact hkl)
  have st : (rs.map GP.d).set k y.d = (rs.set k y).map GP.d := List.map_set.symm
  refine ⟨rs.set k y, some (.lst [.int x0, .int x1, .int x2, .int x3, .int x4]), some (.int (k : Nat)), ?_, by rw [List.length_set]; exact lr, fun z mz => ?_⟩
  · rw [← st]
    generalize p.d = pd at *
    generalize y.d = yd at *
    generalize qs.map GP.d = xs at *
    generalize rs.map GP.d = zs at *
    exists l1_law_twin, hm, hs, m, ix, mn, ey, lx, ks
  · rcases List.mem_or_eq_of_mem_set mz with h | rfl
    · exact sr z h
    · exact sy
theorem twin_ok (hq : qs.length ≤ 300) (hn : qs ≠ []) (sq : ∀ p ∈ qs, p.sm) (t0 t1 t2 t3 t4 t5 x0 x1 x2 x3 x4 y0 y1 y2 y3 y4 : Int) (b4 : 0 ≤ t4 ∧ t4 < 4) (c1 : 0 ≤ x1) (c4 : 0 ≤ x4) (d1 : 0 ≤ y1) (d4 : 0 ≤ y4) :
    ∃ rs : List GP, m_law_twin [.lst (qs.map GP.d), .lst [.int t0, .int t1, .int t2, .int t3, .int t4, .int t5, .int x0, .int x1, .int x2, .int x3, .int x4, .int y0, .int y1, .int y2, .int y3, .int y4], .scr ns] = .ok (.lst (rs.map GP.d)) ∧ rs.length ≤ 300 ∧ ∀ p ∈ rs, p.sm := by
  by_cases h0 : t4 = 0 ∧ t5 < 4
  · obtain ⟨h0, h1⟩ := h0
    subst h0
    refine ⟨[], ?_, by simp, fun p m => nomatch m⟩
    generalize qs.map GP.d = xs at *
    exists m_law_twin, b_law_twin, i1_law_twin, h1
  have lc : ∀ o0 o1 o2 o3 o4 o5 o6 o7 o8 : Option D, lcGo (gSet 8) mYes (mCall 1 m_law_many (mCons (mV 8) mNil)) [o0, o1, o2, o3, o4, o5, o6, o7, o8] (qs.map GP.d) = .ok ((qs.map GP.len).map D.int) := fun o0 o1 o2 o3 o4 o5 o6 o7 o8 => by
    have e := lc_fm (T := gSet 8) (ft := mYes) (fe := mCall 1 m_law_many (mCons (mV 8) mNil)) (ρ := [o0, o1, o2, o3, o4, o5, o6, o7, o8]) GP.d (fun _ => true) (fun p : GP => D.int p.len) (xs := qs) fun p m => ⟨_, rfl, rfl, fun _ => by exists gmany_ok⟩
    rw [List.filter_eq_self.mpr (fun _ _ => rfl), show (fun p : GP => D.int p.len) = D.int ∘ GP.len from rfl, ← List.map_map] at e
    exact e
  have s1 := sum_ok (qs := qs) (by omega)
  obtain ⟨nr, enr, mnr, _⟩ := ix_mem (xs := [0, 1, 1, 2]) b4.1 b4.2
  have hnr : 0 ≤ nr ∧ nr ≤ 2 := (show ∀ v ∈ ([0, 1, 1, 2] : List Int), 0 ≤ v ∧ v ≤ 2 by decide) nr mnr
  simp only [List.map_cons, List.map_nil] at enr
  obtain ⟨n, rfl⟩ : ∃ n : Nat, nr = n := ⟨nr.toNat, by omega⟩
  have g := gR1_ok (j := (n : Int)) (by rw [LRe]; omega) (by rw [LRe]; omega)
  rw [Int.toNat_natCast] at g
  obtain ⟨told, et⟩ : ∃ told : D, told = .lst [.int t0, .int t1, .int t2, .int t3, .int t4, .int t5, .int x0, .int x1, .int x2, .int x3, .int x4, .int y0, .int y1, .int y2, .int y3, .int y4] := ⟨_, rfl⟩
  have i4 : dIx told (.int 4) = some (.int t4) := by rw [et]; exact dIx_l (by omega) rfl
  have i5 : dIx told (.int 5) = some (.int t5) := by rw [et]; exact dIx_l (by omega) rfl
  have sa : dSl told (some (6 + 5 * ((0 : Nat) : Int))) (some (11 + 5 * ((0 : Nat) : Int))) = some (.lst [.int x0, .int x1, .int x2, .int x3, .int x4]) := by
    rw [et, dSl_l, cut_both (by omega) (by omega)]; rfl
  have sb : dSl told (some (6 + 5 * ((1 : Nat) : Int))) (some (11 + 5 * ((1 : Nat) : Int))) = some (.lst [.int y0, .int y1, .int y2, .int y3, .int y4]) := by
    rw [et, dSl_l, cut_both (by omega) (by omega)]; rfl
  rw [← et]
  obtain ⟨ρ', e, rs, o5, o6, o7, rfl, lr, sr⟩ := scan_nx (T := gSet 5) (b := l1_law_twin) (fun ρ => ∃ (rs : List GP) (o5 o6 o7 : Option D), ρ = [some (.lst (qs.map GP.d)), some told, some (.scr ns), some (.lst (rs.map GP.d)), some (.int (gtot qs)), o5, o6, o7, none] ∧ rs.length = qs.length ∧ ∀ p ∈ rs, p.sm) (ds := rngL 0 n) (ρ := [some (.lst (qs.map GP.d)), some told, some (.scr ns), some (.lst (qs.map GP.d)), some (.int (gtot qs)), none, none, none, none]) ⟨qs, none, none, none, rfl, rfl, sq⟩ (by
    rintro j d ρ hj ⟨rs, o5, o6, o7, rfl, lr, sr⟩
    obtain ⟨hjl, rfl⟩ := rngL_get hj
    rw [Int.zero_add]
    have hm : dMul (.int 5) (.int (j : Nat)) = some (.int (5 * (j : Nat))) := r_mul (by omega) (by omega) (by omega) (by omega)
    have hj2 : j = 0 ∨ j = 1 := by omega
    rcases hj2 with rfl | rfl
    · obtain ⟨rs2, a6, a7, e, l2, s2⟩ := twin_turn (ns := ns) told hq hn sq 0 x0 x1 x2 x3 x4 c1 c4 (gtot qs) o6 o7 none lr sr hm sa
      exact ⟨_, _, rfl, e, rs2, _, a6, a7, rfl, l2, s2⟩
    · obtain ⟨rs2, a6, a7, e, l2, s2⟩ := twin_turn (ns := ns) told hq hn sq 1 y0 y1 y2 y3 y4 d1 d4 (gtot qs) o6 o7 none lr sr hm sb
      exact ⟨_, _, rfl, e, rs2, _, a6, a7, rfl, l2, s2⟩)
  refine ⟨rs, ?_, by omega, sr⟩
  have ly : ((qs.map GP.len).map D.int).length ≤ 1000 := by rw [List.length_map, List.length_map]; omega
  have lx : (qs.map GP.d).length ≤ 1000 := by rw [List.length_map]; omega
  have h0' : t4 = 0 → ¬ t5 < 4 := fun a b => h0 ⟨a, b⟩
  generalize (qs.map GP.len).map D.int = ys at *
  generalize rs.map GP.d = zs at *
  generalize qs.map GP.d = xs at *
  generalize gtot qs = tt at *
  by_cases h4 : t4 = 0
  · have h5 := h0' h4
    subst h4
    exists m_law_twin, b_law_twin, i1_law_twin, i4, i5, h5, c1_law_twin, lc, s1, enr, g, e
  · exists m_law_twin, b_law_twin, i1_law_twin, i4, i5, h4, c1_law_twin, lc, s1, enr, g, e
end
theorem law_ok (ns : List Int) (hl : ns.length ≤ 63) (hb : ∀ z ∈ ns, PySem.Builtin.Int.intBits z ≤ 1048576) : m_law [.scr ns] = .ok (.bl true) := by
  have hg : ∀ k, (ns.getD k 0).natAbs.log2 ≤ 2000000 := fun k => by
    rw [List.getD_eq_getElem?_getD]
    cases q : ns[k]? with
    | none => exact Nat.le_trans (by decide : (0 : Int).natAbs.log2 ≤ 0) (by omega)
    | some z => exact Nat.le_trans (bits_log (hb z (List.mem_of_getElem? q))) (by omega)
  have c0 : m_law_cell [.scr ns, .int 0] = .ok (.int (ns.getD 0 0)) := cell_ok ns 0
  have c1 : m_law_cell [.scr ns, .int 1] = .ok (.int (ns.getD 1 0)) := cell_ok ns 1
  obtain ⟨ds, ed, hf⟩ := draws_ok (ns.getD 0 0) [4, 5, 2, 26, 4, 16, 130, 18, 96, 96, 3, 130, 18, 96, 96, 3] (hg 0) (by decide) (by decide)
  obtain ⟨ps, ep, hv⟩ := press_ok (ns.getD 1 0) (hg 1)
  match ds, hf with
  | [t0, t1, t2, t3, t4, t5, x0, x1, x2, x3, x4, y0, y1, y2, y3, y4], hf =>
    obtain ⟨b0, b1, b2, b3, b4, b5, e0, e1, e2, e3, e4, f0, f1, f2, f3, f4, _⟩ := hf
    simp only [List.map_cons, List.map_nil] at ed
    obtain ⟨qs, epd, lq, sq, nq⟩ := padded_ok hv t0 t1 t2 t3 [.int t4, .int t5, .int x0, .int x1, .int x2, .int x3, .int x4, .int y0, .int y1, .int y2, .int y3, .int y4] b1
    obtain ⟨rs, etw, lr, sr⟩ := twin_ok (ns := ns) lq nq sq t0 t1 t2 t3 t4 t5 x0 x1 x2 x3 x4 y0 y1 y2 y3 y4 b4 e1.1 e4.1 f1.1 f4.1
    have k1 := gholds_ok (ps := qs) (by omega) sq
    have k2 := gholds_ok (ps := rs) (by omega) sr
    have mu : dMul (.lst [.int 130, .int 18, .int 96, .int 96, .int 3]) (.int 2) = some (.lst [.int 130, .int 18, .int 96, .int 96, .int 3, .int 130, .int 18, .int 96, .int 96, .int 3]) := dMul_l (by omega) (by omega) (by rw [LNe]; decide)
    generalize ns.getD 0 0 = g0 at *
    generalize ns.getD 1 0 = g1 at *
    generalize ps.map Ph.d = xs at *
    generalize qs.map GP.d = ys at *
    generalize rs.map GP.d = zs at *
    exists m_law, b_law, c0, c1, mu, ed, ep, epd, etw, i1_law, k1, k2
end K09
set_option Elab.async false
set_option linter.all false
set_option maxRecDepth 100000
open PySem PySem.W PyProof.Rows
set_option maxHeartbeats 0 in
theorem PySem.Challenge.cw_pressroots_k09_copies_form_holds : PySem.Challenge.rw_pressroots_k09_copies_form.Holds := by
  w_on; o_law; k_head; (case hw => w_witness2)
  k_fill
  refine PD.walk_tabs (l := PySem.Challenge.rw_pressroots_k09_copies_form) (n := 63) (k := 13) (x := "script") (CX := fun w => L2.CX PySem.Challenge.rw_pressroots_k09_copies_form.prog w) rfl (by decide) rfl ⟨rfl, by decide, by decide⟩ (fun w h Y => PySem.W.kIn_of Y) ?F (fun w H s e s' z => PD.cx_false z)
  case F =>
    intro w mg fa h Y KX G hmg own
    refine' K09.at_law KX G hmg  ?xa0 ?xa1 ?xa2 ?xa3 ?xa4 ?xa5 ?a0 ?l0 ?d0 ?k0 ?a1 ?l1 ?d1 ?k1 ?a2 ?l2 ?d2 ?k2 ?a3 ?l3 ?d3 ?k3 ?a4 ?l4 ?d4 ?k4 ?a5 ?l5 ?d5 ?k5 ?a6 ?l6 ?d6 ?k6 ?a7 ?l7 ?d7 ?k7 ?a8 ?l8 ?d8 ?k8 ?a9 ?l9 ?d9 ?k9 ?a10 ?l10 ?d10 ?k10 ?a11 ?l11 ?d11 ?k11 ?a12 ?l12 ?d12 ?k12 ?a13 ?l13 ?d13 ?k13 ?a14 ?l14 ?d14 ?k14 ?a15 ?j15 ?l15 ?d15 ?k15 ?a16 ?l16 ?d16 ?k16 ?a17 ?l17 ?d17 ?k17 ?a18 ?l18 ?d18 ?k18 ?a19 ?j19 ?l19 ?d19 ?k19 ?a20 ?j20 ?l20 ?d20 ?k20 ?a21 ?l21 ?d21 ?k21 ?a22 ?l22 ?d22 ?k22 ?a23 ?l23 ?d23 ?k23 ?a24 ?l24 ?d24 ?k24 ?a25 ?l25 ?d25 ?k25 ?xp2_0 ?xp2_1 ?xp2_2 ?xp2_3 ?xm2_0 ?xm2_1 ?xb4 ?xk4 ?xd4 ?xe4 ?xo1_0 ?xo1_1 ?xo1_2 ?xo1_3 ?xo1_4 ?xo1_5 ?xo1_6 ?xo1_7 ?xo1_8 ?xo1_9 ?xo1_10 ?xo1_11 ?xo1_12 ?xo1_13 ?xo1_14 ?xo1_15 ?xo1_16 ?xo1_17 ?xo1_18 ?xo1_19 ?q_fd_Copies_phrases ?q_kbBadPress_ValueError ?q_kbTooLong_ValueError ?hm1 ?he1_0 ?he1_1 ?he1_2 ?he1_3 ?he1_4 ?he1_5 ?he1_6 ?he1_7 ?hm4 ?he4_0 ?he4_1 ?he4_2 ?he4_3 ?he4_4 ?he4_5 ?he4_6 ?he4_7 ?q_xkBadPress_BadLine ?q_xkBadPress_PressError ?q_xkBadPress_TooLong ?q_xkTooLong_BadPress ?q_xkTooLong_PressError ?q_xkTooLong_TooShort ?q_xlBadPress_index ?q_xnBadPress_TooLong ?q_xnTooLong_BadPress ?zValueError ?zabs ?zbool ?zcLETTERS ?ycLETTERS_ ?zcMOST ?zenumerate ?zint ?zisinstance ?zlen ?zlist ?zmin ?zrange ?zstr ?zsum ?ztuple K09.law_ok
    (case xa0 => k_is)
    (case xa1 => k_is)
    (case xa2 => k_is)
    (case xa3 => k_is)
    (case xa4 => k_is)
    (case xa5 => k_is)
    (case a0 => k_is)
    (case l0 => k_is)
    (case d0 => k_is)
    (case k0 => k_is)
    (case a1 => k_is)
    (case l1 => k_is)
    (case d1 => k_is)
    (case k1 => k_is)
    (case a2 => k_is)
    (case l2 => k_is)
    (case d2 => k_is)
    (case k2 => k_is)
    (case a3 => k_is)
    (case l3 => k_is)
    (case d3 => k_is)
    (case k3 => k_is)
    (case a4 => k_is)
    (case l4 => k_is)
    (case d4 => k_is)
    (case k4 => k_is)
    (case a5 => k_is)
    (case l5 => k_is)
    (case d5 => k_is)
    (case k5 => k_is)
    (case a6 => k_is)
    (case l6 => k_is)
    (case d6 => k_is)
    (case k6 => k_is)
    (case a7 => k_is)
    (case l7 => k_is)
    (case d7 => k_is)
    (case k7 => k_is)
    (case a8 => k_is)
    (case l8 => k_is)
    (case d8 => k_is)
    (case k8 => k_is)
    (case a9 => k_is)
    (case l9 => k_is)
    (case d9 => k_is)
    (case k9 => k_is)
    (case a10 => k_is)
    (case l10 => k_is)
    (case d10 => k_is)
    (case k10 => k_is)
    (case a11 => k_is)
    (case l11 => k_is)
    (case d11 => k_is)
    (case k11 => k_is)
    (case a12 => k_is)
    (case l12 => k_is)
    (case d12 => k_is)
    (case k12 => k_is)
    (case a13 => k_is)
    (case l13 => k_is)
    (case d13 => k_is)
    (case k13 => k_is)
    (case a14 => k_is)
    (case l14 => k_is)
    (case d14 => k_is)
    (case k14 => k_is)
    (case a15 => k_is)
    (case j15 => k_is)
    (case l15 => k_is)
    (case d15 => k_is)
    (case k15 => k_is)
    (case a16 => k_is)
    (case l16 => k_is)
    (case d16 => k_is)
    (case k16 => k_is)
    (case a17 => k_is)
    (case l17 => k_is)
    (case d17 => k_is)
    (case k17 => k_is)
    (case a18 => k_is)
    (case l18 => k_is)
    (case d18 => k_is)
    (case k18 => k_is)
    (case a19 => k_is)
    (case j19 => k_is)
    (case l19 => k_is)
    (case d19 => k_is)
    (case k19 => k_is)
    (case a20 => k_is)
    (case j20 => k_is)
    (case l20 => k_is)
    (case d20 => k_is)
    (case k20 => k_is)
    (case a21 => k_is)
    (case l21 => k_is)
    (case d21 => k_is)
    (case k21 => k_is)
    (case a22 => k_is)
    (case l22 => k_is)
    (case d22 => k_is)
    (case k22 => k_is)
    (case a23 => k_is)
    (case l23 => k_is)
    (case d23 => k_is)
    (case k23 => k_is)
    (case a24 => k_is)
    (case l24 => k_is)
    (case d24 => k_is)
    (case k24 => k_is)
    (case a25 => k_is)
    (case l25 => k_is)
    (case d25 => k_is)
    (case k25 => k_is)
    (case xp2_0 => k_is)
    (case xp2_1 => k_is)
    (case xp2_2 => k_is)
    (case xp2_3 => k_is)
    (case xm2_0 => k_is)
    (case xm2_1 => k_is)
    (case xb4 => k_exc)
    (case xk4 => k_is)
    (case xd4 => k_is)
    (case xe4 => k_is)
    (case xo1_0 => first | rfl | with_unfolding_all rfl | kernel_rfl)
    (case xo1_1 => k_is)
    (case xo1_2 => k_is)
    (case xo1_3 => k_is)
    (case xo1_4 => k_is)
    (case xo1_5 => k_is)
    (case xo1_6 => k_is)
    (case xo1_7 => k_is)
    (case xo1_8 => k_is)
    (case xo1_9 => k_is)
    (case xo1_10 => rfl)
    (case xo1_11 => first | rfl | decide +kernel)
    (case xo1_12 => first | rfl | decide +kernel)
    (case xo1_13 => k_is)
    (case xo1_14 => first | rfl | with_unfolding_all rfl | kernel_rfl)
    (case xo1_15 => k_is)
    (case xo1_16 => k_is)
    (case xo1_17 => k_is)
    (case xo1_18 => k_is)
    (case xo1_19 => k_is)
    (case q_fd_Copies_phrases => k_is)
    (case q_kbBadPress_ValueError => first | rfl | with_unfolding_all rfl | kernel_rfl)
    (case q_kbTooLong_ValueError => first | rfl | with_unfolding_all rfl | kernel_rfl)
    (case hm1 => first | rfl | with_unfolding_all rfl | kernel_rfl)
    (case he1_0 => k_is)
    (case he1_1 => k_is)
    (case he1_2 => k_is)
    (case he1_3 => k_is)
    (case he1_4 => k_is)
    (case he1_5 => k_is)
    (case he1_6 => k_is)
    (case he1_7 => k_is)
    (case hm4 => first | rfl | with_unfolding_all rfl | kernel_rfl)
    (case he4_0 => k_is)
    (case he4_1 => k_is)
    (case he4_2 => k_is)
    (case he4_3 => k_is)
    (case he4_4 => k_is)
    (case he4_5 => k_is)
    (case he4_6 => k_is)
    (case he4_7 => k_is)
    (case q_xkBadPress_BadLine => first | rfl | with_unfolding_all rfl | kernel_rfl)
    (case q_xkBadPress_PressError => first | rfl | with_unfolding_all rfl | kernel_rfl)
    (case q_xkBadPress_TooLong => first | rfl | with_unfolding_all rfl | kernel_rfl)
    (case q_xkTooLong_BadPress => first | rfl | with_unfolding_all rfl | kernel_rfl)
    (case q_xkTooLong_PressError => first | rfl | with_unfolding_all rfl | kernel_rfl)
    (case q_xkTooLong_TooShort => first | rfl | with_unfolding_all rfl | kernel_rfl)
    (case q_xlBadPress_index => k_is)
    (case q_xnBadPress_TooLong => first | rfl | with_unfolding_all rfl | kernel_rfl)
    (case q_xnTooLong_BadPress => first | rfl | with_unfolding_all rfl | kernel_rfl)
    (case zValueError => k_is)
    (case zabs => k_is)
    (case zbool => k_is)
    (case zcLETTERS => k_is)
    (case ycLETTERS_ => first | rfl | decide +kernel)
    (case zcMOST => k_is)
    (case zenumerate => k_is)
    (case zint => k_is)
    (case zisinstance => k_is)
    (case zlen => k_is)
    (case zlist => k_is)
    (case zmin => k_is)
    (case zrange => k_is)
    (case zstr => k_is)
    (case zsum => k_is)
    (case ztuple => k_is)
