import PyProof.Rows.All
import Wide.All
import OpenK.AllK
import Wide.FinOn
import HandS.ForMost
import HandS.IsInst
import HandS.Wide
import HandS.Gcd
import HandS.Zip
import HandS.NoneIn
import HandS.DictComp
import HandS.Defaults
import HandS.Style
import HandS.TupLen
import KE.KStateDown
import HandS.Head0
import HandS.Head1
import HandS.Head2
import HandS.Head3
import HandS.HeadEnd
import HandS.HeadHook1
import HandS.HeadHook2
import KE.SortData
import HandS.Conv
import HandS.More
import KE.GoesEnum
import HandS.SetBool
import HandS.TupSets
import HandS.Deep
import KE.KDictKeyed
import PySem.Challenge.RW_takenforms_k03_solve_whole
set_option Elab.async false
set_option linter.all false
set_option maxRecDepth 100000
set_option maxHeartbeats 0
/-! text TfA -/
/-! A small logic of pure data over the hand layer: data, what stands for it, expressions, statements. -/
namespace Tf
open PySem PySem.Spec PyProof.Rows L2

/-- data, without the heap -/
inductive Dat where
  | non | bl (b : Bool) | int (i : Int) | str (s : Str)
  | lst (l : List Dat) | tup (l : List Dat)
  /-- the script -/
  | scr (l : List Int)
  | dk (l : List (Int × Dat)) | dt (l : List (List Str × Dat))
  /-- data, with the place where it stands -/
  | at (a : Addr) (d : Dat)

mutual
/-- the value v stands for the data d; Hs: the objects that do not change any more -/
inductive Tr (K : PySem.W.Frag) (Hs : Hp) : V → Dat → Prop
  | non : Tr K Hs .non .non
  | bl (b : Bool) : Tr K Hs (.bl b) (.bl b)
  | int (i : Int) : Tr K Hs (.int i) (.int i)
  | str (s : Str) : Tr K Hs (.str s) (.str s)
  | am {a : Addr} {i j : Int} : SqT K Hs a [.int i, .int j] → Tr K Hs (.ref a) (.tup [.int i, .int j])
  | scr {a : Addr} {ns : List Int} : SqL K Hs a (ns.map V.int) → Tr K Hs (.ref a) (.scr ns)
  | lst {a : Addr} {xs : List V} {ds : List Dat} : Hs a = some (.lst xs) → TrL K Hs xs ds → Tr K Hs (.ref a) (.lst ds)
  | tup {a : Addr} {xs : List V} {ds : List Dat} : Hs a = some (.tup xs) → TrL K Hs xs ds → Tr K Hs (.ref a) (.tup ds)
  | dk {a : Addr} {kvs : List (Key × V)} {ds : List (Int × Dat)} : Hs a = some (.dK kvs) → TrK K Hs kvs ds → Tr K Hs (.ref a) (.dk ds)
  | dt {a : Addr} {kvs : List (List Key × V)} {ds : List (List Str × Dat)} : Hs a = some (.dT kvs) → TrT K Hs kvs ds → Tr K Hs (.ref a) (.dt ds)
  | at {a : Addr} {d : Dat} : Tr K Hs (.ref a) d → Tr K Hs (.ref a) (.at a d)
inductive TrL (K : PySem.W.Frag) (Hs : Hp) : List V → List Dat → Prop
  | nil : TrL K Hs [] []
  | cons {v : V} {d : Dat} {vs : List V} {ds : List Dat} : Tr K Hs v d → TrL K Hs vs ds → TrL K Hs (v :: vs) (d :: ds)
inductive TrK (K : PySem.W.Frag) (Hs : Hp) : List (Key × V) → List (Int × Dat) → Prop
  | nil : TrK K Hs [] []
  | cons {i : Int} {v : V} {d : Dat} {vs : List (Key × V)} {ds : List (Int × Dat)} : Tr K Hs v d → TrK K Hs vs ds → TrK K Hs ((.inl i, v) :: vs) ((i, d) :: ds)
inductive TrT (K : PySem.W.Frag) (Hs : Hp) : List (List Key × V) → List (List Str × Dat) → Prop
  | nil : TrT K Hs [] []
  | cons {l : List Str} {v : V} {d : Dat} {vs : List (List Key × V)} {ds : List (List Str × Dat)} : Tr K Hs v d → TrT K Hs vs ds → TrT K Hs ((l.map Sum.inr, v) :: vs) ((l, d) :: ds)
end

theorem sqL_same {K : PySem.W.Frag} {H H' : Hp} {a : Addr} {xs : List V} (e : Same H H') (h : SqL K H a xs) : SqL K H' a xs := e.seq h
theorem sqT_same {K : PySem.W.Frag} {H H' : Hp} {a : Addr} {xs : List V} (e : Same H H') (h : SqT K H a xs) : SqT K H' a xs := by
  rcases h with (h | ⟨o, h⟩) | h
  · exact .inl (.inl (e _ _ h))
  · exact .inl (.inr ⟨o, e _ _ h⟩)
  · exact .inr h

mutual
theorem Tr.mono {K : PySem.W.Frag} {H H' : Hp} (e : Same H H') : ∀ {v : V} {d : Dat}, Tr K H v d → Tr K H' v d
  | _, _, .non => .non
  | _, _, .bl b => .bl b
  | _, _, .int i => .int i
  | _, _, .str s => .str s
  | _, _, .am h => .am (sqT_same e h)
  | _, _, .scr h => .scr (sqL_same e h)
  | _, _, .lst h t => .lst (e _ _ h) (TrL.mono e t)
  | _, _, .tup h t => .tup (e _ _ h) (TrL.mono e t)
  | _, _, .dk h t => .dk (e _ _ h) (TrK.mono e t)
  | _, _, .dt h t => .dt (e _ _ h) (TrT.mono e t)
  | _, _, .at h => .at (Tr.mono e h)
theorem TrL.mono {K : PySem.W.Frag} {H H' : Hp} (e : Same H H') : ∀ {v : List V} {d : List Dat}, TrL K H v d → TrL K H' v d
  | _, _, .nil => .nil
  | _, _, .cons h t => .cons (Tr.mono e h) (TrL.mono e t)
theorem TrK.mono {K : PySem.W.Frag} {H H' : Hp} (e : Same H H') : ∀ {v : List (Key × V)} {d : List (Int × Dat)}, TrK K H v d → TrK K H' v d
  | _, _, .nil => .nil
  | _, _, .cons h t => .cons (Tr.mono e h) (TrK.mono e t)
theorem TrT.mono {K : PySem.W.Frag} {H H' : Hp} (e : Same H H') : ∀ {v : List (List Key × V)} {d : List (List Str × Dat)}, TrT K H v d → TrT K H' v d
  | _, _, .nil => .nil
  | _, _, .cons h t => .cons (Tr.mono e h) (TrT.mono e t)
end
end Tf
/-! text TfB -/
namespace Tf
open PySem PySem.Spec PyProof.Rows L2

/-! ### inversions -/
section
variable {K : PySem.W.Frag} {Hs : Hp} {v : V}
theorem Tr.int_inv {i : Int} (h : Tr K Hs v (.int i)) : v = .int i := by cases h; rfl
theorem Tr.bl_inv {b : Bool} (h : Tr K Hs v (.bl b)) : v = .bl b := by cases h; rfl
theorem Tr.str_inv {s : Str} (h : Tr K Hs v (.str s)) : v = .str s := by cases h; rfl
theorem Tr.non_inv (h : Tr K Hs v .non) : v = .non := by cases h; rfl
theorem TrL.nil_inv {vs : List V} (h : TrL K Hs vs []) : vs = [] := by cases h; rfl
theorem TrL.cons_inv {vs : List V} {d : Dat} {ds : List Dat} (h : TrL K Hs vs (d :: ds)) : ∃ v vs', vs = v :: vs' ∧ Tr K Hs v d ∧ TrL K Hs vs' ds := by
  cases h with
  | cons h t => exact ⟨_, _, rfl, h, t⟩
theorem TrL.length : ∀ {vs : List V} {ds : List Dat}, TrL K Hs vs ds → vs.length = ds.length
  | _, _, .nil => rfl
  | _, _, .cons _ t => by rw [List.length_cons, List.length_cons, t.length]
theorem TrL.get : ∀ {vs : List V} {ds : List Dat} {i : Nat} {d : Dat}, TrL K Hs vs ds → ds[i]? = some d → ∃ v, vs[i]? = some v ∧ Tr K Hs v d
  | _, _, i, d, .nil, e => by simp at e
  | _, _, 0, d, .cons h t, e => by simp at e; subst e; exact ⟨_, rfl, h⟩
  | _, _, i + 1, d, .cons h t, e => by
    obtain ⟨v, h1, h2⟩ := TrL.get (i := i) (d := d) t (by simpa using e)
    exact ⟨v, by simpa using h1, h2⟩
theorem TrL.get' : ∀ {vs : List V} {ds : List Dat} {i : Nat} {v : V}, TrL K Hs vs ds → vs[i]? = some v → ∃ d, ds[i]? = some d ∧ Tr K Hs v d
  | _, _, i, d, .nil, e => by simp at e
  | _, _, 0, d, .cons h t, e => by simp at e; subst e; exact ⟨_, rfl, h⟩
  | _, _, i + 1, d, .cons h t, e => by
    obtain ⟨v, h1, h2⟩ := TrL.get' (i := i) (v := d) t (by simpa using e)
    exact ⟨v, by simpa using h1, h2⟩
theorem TrL.append : ∀ {vs ws : List V} {ds es : List Dat}, TrL K Hs vs ds → TrL K Hs ws es → TrL K Hs (vs ++ ws) (ds ++ es)
  | _, _, _, _, .nil, s => s
  | _, _, _, _, .cons h t, s => .cons h (TrL.append t s)
theorem TrL.snoc {vs : List V} {ds : List Dat} {d : Dat} (h : TrL K Hs vs ds) (h' : Tr K Hs v d) : TrL K Hs (vs ++ [v]) (ds ++ [d]) := h.append (.cons h' .nil)
theorem TrL.take : ∀ (n : Nat) {vs : List V} {ds : List Dat}, TrL K Hs vs ds → TrL K Hs (vs.take n) (ds.take n)
  | 0, _, _, _ => by simp only [List.take_zero]; exact .nil
  | n + 1, _, _, .nil => .nil
  | n + 1, _, _, .cons h t => .cons h (TrL.take n t)
theorem TrL.drop : ∀ (n : Nat) {vs : List V} {ds : List Dat}, TrL K Hs vs ds → TrL K Hs (vs.drop n) (ds.drop n)
  | 0, _, _, h => h
  | n + 1, _, _, .nil => .nil
  | n + 1, _, _, .cons h t => TrL.drop n t
theorem trL_ints : ∀ ns : List Int, TrL K Hs (ns.map V.int) (ns.map Dat.int)
  | [] => .nil
  | n :: ns => .cons (.int n) (trL_ints ns)
/-- a tuple, however it lies -/
theorem Tr.tup_inv {ds : List Dat} (h : Tr K Hs v (.tup ds)) : ∃ a xs, v = .ref a ∧ SqT K Hs a xs ∧ TrL K Hs xs ds := by
  cases h with
  | am h => exact ⟨_, _, rfl, h, .cons (.int _) (.cons (.int _) .nil)⟩
  | tup h t => exact ⟨_, _, rfl, .inl (.inl h), t⟩
theorem Tr.lst_inv0 {ds : List Dat} (h : Tr K Hs v (.lst ds)) : ∃ a xs, v = .ref a ∧ Hs a = some (.lst xs) ∧ TrL K Hs xs ds := by
  cases h with
  | lst h t => exact ⟨_, _, rfl, h, t⟩
theorem Tr.lst_inv {ds : List Dat} (h : Tr K Hs v (.lst ds)) : ∃ a xs, v = .ref a ∧ SqL K Hs a xs ∧ TrL K Hs xs ds := by
  cases h with
  | lst h t => exact ⟨_, _, rfl, .inl (.inl h), t⟩
theorem Tr.scr_inv {ns : List Int} (h : Tr K Hs v (.scr ns)) : ∃ a, v = .ref a ∧ SqL K Hs a (ns.map V.int) := by
  cases h with
  | scr h => exact ⟨_, rfl, h⟩
theorem Tr.dk_inv {ds : List (Int × Dat)} (h : Tr K Hs v (.dk ds)) : ∃ a kvs, v = .ref a ∧ Hs a = some (.dK kvs) ∧ TrK K Hs kvs ds := by
  cases h with
  | dk h t => exact ⟨_, _, rfl, h, t⟩
theorem Tr.dt_inv {ds : List (List Str × Dat)} (h : Tr K Hs v (.dt ds)) : ∃ a kvs, v = .ref a ∧ Hs a = some (.dT kvs) ∧ TrT K Hs kvs ds := by
  cases h with
  | dt h t => exact ⟨_, _, rfl, h, t⟩
/-- an address: a tuple of texts, tracked -/
theorem trL_strs_inv : ∀ {vs : List V} {l : List Str}, TrL K Hs vs (l.map Dat.str) → vs = (l.map Sum.inr).map kV
  | _, [], h => by cases h; rfl
  | _, s :: l, h => by
    cases h with
    | cons h t =>
      cases h
      rw [trL_strs_inv t]
      rfl
theorem trL_strs : ∀ l : List Str, TrL K Hs ((l.map Sum.inr).map kV) (l.map Dat.str)
  | [] => .nil
  | s :: l => .cons (.str s) (trL_strs l)
theorem Tr.adr_inv {l : List Str} (h : Tr K Hs v (.tup (l.map Dat.str))) : ∃ a, v = .ref a ∧ Hs a = some (.tup ((l.map Sum.inr).map kV)) := by
  generalize e : Dat.tup (l.map Dat.str) = d at h
  cases h with
  | am h =>
    cases l with
    | nil => cases e
    | cons s l => cases e
  | tup h t =>
    cases e
    rw [trL_strs_inv t] at h
    exact ⟨_, rfl, h⟩
  | _ => cases e
end

/-! ### the shared part of a heap, and how it grows -/
/-- a dict -/
def DictO (u : HO) : Prop := (∃ kvs, u = .dK kvs) ∨ ∃ kvs, u = .dT kvs
/-- what is shared stands in the heap; a dict may be locked -/
structure Sub (Hs H : Hp) : Prop where
  of : ∀ a u, Hs a = some u → H a = some u ∨ (DictO u ∧ ∃ o, H a = some (.frz o u))
structure Ext (Hs H Hs' H' : Hp) : Prop where
  nu : ∀ a u, Hs' a = some u → Hs a = some u ∨ H' a = some u
  same : Same H H'
  le : Same Hs Hs'
  out : ∀ b u, H b = some u → (∀ xs, u ≠ .tup xs) → Hs b = none → Hs' b = none
theorem Sub.refl (H : Hp) : Sub H H := ⟨fun _ _ h => .inl h⟩
theorem Sub.of_same {Hs H : Hp} (h : Same Hs H) : Sub Hs H := ⟨fun a u e => .inl (h a u e)⟩
theorem DictO.ne {u : HO} (h : DictO u) {P : HO → Prop} (h1 : ∀ kvs, P (.dK kvs)) (h2 : ∀ kvs, P (.dT kvs)) : P u := by
  rcases h with ⟨k, rfl⟩ | ⟨k, rfl⟩
  · exact h1 k
  · exact h2 k
theorem Sub.rd {Hs H : Hp} (s : Sub Hs H) {a : Addr} {u : HO} (h : Rd Hs a u) : Rd H a u := by
  rcases h with h | ⟨o, h⟩
  · rcases s.of a u h with q | ⟨_, o, q⟩
    · exact .inl q
    · exact .inr ⟨o, q⟩
  · rcases s.of a _ h with q | ⟨q, _⟩
    · exact .inr ⟨o, q⟩
    · rcases q with ⟨_, q⟩ | ⟨_, q⟩ <;> cases q
theorem Sub.none {Hs H : Hp} (s : Sub Hs H) {a : Addr} (h : H a = none) : Hs a = none := by
  cases e : Hs a with
  | none => rfl
  | some u =>
    rcases s.of a u e with q | ⟨_, o, q⟩
    · rw [h] at q; cases q
    · rw [h] at q; cases q
theorem Sub.tup {Hs H : Hp} (s : Sub Hs H) {a : Addr} {xs : List V} (h : Hs a = some (.tup xs)) : H a = some (.tup xs) := by
  rcases s.of a _ h with q | ⟨q, _⟩
  · exact q
  · rcases q with ⟨_, q⟩ | ⟨_, q⟩ <;> cases q
theorem Sub.lst {Hs H : Hp} (s : Sub Hs H) {a : Addr} {xs : List V} (h : Hs a = some (.lst xs)) : H a = some (.lst xs) := by
  rcases s.of a _ h with q | ⟨q, _⟩
  · exact q
  · rcases q with ⟨_, q⟩ | ⟨_, q⟩ <;> cases q
theorem Sub.sqL {K : PySem.W.Frag} {Hs H : Hp} (s : Sub Hs H) {a : Addr} {xs : List V} (h : SqL K Hs a xs) : SqL K H a xs := by
  rcases h with h | h
  · exact .inl (s.rd h)
  · exact .inr h
theorem Sub.sqT {K : PySem.W.Frag} {Hs H : Hp} (s : Sub Hs H) {a : Addr} {xs : List V} (h : SqT K Hs a xs) : SqT K H a xs := by
  rcases h with h | h
  · exact .inl (s.rd h)
  · exact .inr h
theorem Sub.dK {Hs H : Hp} (s : Sub Hs H) {a : Addr} {kvs : List (Key × V)} (h : Hs a = some (.dK kvs)) : Rd H a (.dK kvs) := s.rd (.inl h)
theorem Sub.dT {Hs H : Hp} (s : Sub Hs H) {a : Addr} {kvs : List (List Key × V)} (h : Hs a = some (.dT kvs)) : Rd H a (.dT kvs) := s.rd (.inl h)
theorem Ext.refl {Hs H : Hp} : Ext Hs H Hs H := ⟨fun _ _ h => .inl h, Same.refl _, Same.refl _, fun _ _ _ _ h => h⟩
theorem Ext.trans {A A' B B' C C' : Hp} (x : Ext A A' B B') (y : Ext B B' C C') : Ext A A' C C' where
  nu := fun a u e => by
    rcases y.nu a u e with q | q
    · rcases x.nu a u q with q | q
      · exact .inl q
      · exact .inr (y.same _ _ q)
    · exact .inr q
  same := x.same.trans y.same
  le := x.le.trans y.le
  out := fun b u h nt n => y.out b u (x.same b u h) nt (x.out b u h nt n)
theorem Ext.sub {Hs H Hs' H' : Hp} (x : Ext Hs H Hs' H') (s : Sub Hs H) : Sub Hs' H' := ⟨fun a u e => by
  rcases x.nu a u e with q | q
  · rcases s.of a u q with r | ⟨r, o, t⟩
    · exact .inl (x.same _ _ r)
    · exact .inr ⟨r, o, x.same _ _ t⟩
  · exact .inl q⟩
theorem Ext.exact {Hs H Hs' H' : Hp} (x : Ext Hs H Hs' H') (s : Same Hs H) : Same Hs' H' := fun a u e => by
  rcases x.nu a u e with q | q
  · exact x.same _ _ (s _ _ q)
  · exact q
/-- a new object that does not change any more -/
theorem Ext.new {Hs H : Hp} {p : Addr} {o : HO} (s : Sub Hs H) (h : H p = none) : Ext Hs H (upd Hs p o) (upd H p o) where
  nu := fun a u e => by
    by_cases c : a = p
    · subst c
      rw [upd_same] at e
      cases e
      exact .inr upd_same
    · rw [upd_ne c] at e
      exact .inl e
  same := fun b u e => by
    rw [upd_ne (ne_of_none e h)]
    exact e
  le := fun b u e => by
    rw [upd_ne (ne_of_none e (s.none h))]
    exact e
  out := fun b u n _ e => by
    have c : b ≠ p := ne_of_none n h
    rw [upd_ne c]
    exact e
/-- a new object that may change: it is not shared -/
theorem Ext.own {Hs H : Hp} {p : Addr} {o : HO} (h : H p = none) : Ext Hs H Hs (upd H p o) where
  nu := fun a u e => .inl e
  same := fun b u e => by
    rw [upd_ne (ne_of_none e h)]
    exact e
  le := Same.refl _
  out := fun _ _ _ _ e => e

/-! ### what a slot holds -/
inductive Sl where
  | imm (d : Dat)
  | ol (ds : List Dat)
  | ok (kvs : List (Int × Dat))
  | ot (kvs : List (List Str × Dat))
def Sl.own : Sl → Bool
  | .imm _ => false
  | _ => true
def SlOk (K : PySem.W.Frag) (H0 Hs H : Hp) (v : V) : Sl → Prop
  | .imm d => Tr K Hs v d
  | .ol ds => ∃ p xs, v = .ref p ∧ H p = some (.lst xs) ∧ TrL K Hs xs ds ∧ Hs p = none ∧ H0 p = none
  | .ok ds => ∃ p kvs, v = .ref p ∧ H p = some (.dK kvs) ∧ TrK K Hs kvs ds ∧ Hs p = none ∧ H0 p = none
  | .ot ds => ∃ p kvs, v = .ref p ∧ H p = some (.dT kvs) ∧ TrT K Hs kvs ds ∧ Hs p = none ∧ H0 p = none
abbrev De := List (Option Sl)
/-- a dict that a loop has locked: the slot that holds it, where it is, what it is -/
structure LkM where
  i : Nat
  d : Addr
  od : Obj
  u : HO
/-- slot i isn't the locked dict's -/
def Offm (m : Option LkM) (i : Nat) : Prop := ∀ M, m = some M → M.i ≠ i
theorem offm_none {i : Nat} : Offm none i := fun M e => nomatch e
theorem offm_some {M : LkM} {i : Nat} (h : M.i ≠ i) : Offm (some M) i := fun M' e => by cases e; exact h
def LkH (m : Option LkM) (H : Hp) : Prop := match m with
  | none => True
  | some M => H M.d = some (.frz M.od M.u)
def Lk (m : Option LkM) (Hs H : Hp) (σ : L2.St) : Prop := match m with
  | none => Same Hs H
  | some M => σ[M.i]? = some (some (V.ref M.d)) ∧ H M.d = some (.frz M.od M.u) ∧ Hs M.d = some M.u ∧ DictO M.u ∧ ∀ a w, a ≠ M.d → Hs a = some w → H a = some w
theorem Lk.h {m : Option LkM} {Hs H : Hp} {σ : L2.St} (h : Lk m Hs H σ) : LkH m H := by
  cases m with
  | none => trivial
  | some M => exact h.2.1
theorem LkH.same {m : Option LkM} {H H' : Hp} (h : LkH m H) (e : Same H H') : LkH m H' := by
  cases m with
  | none => trivial
  | some M => exact e _ _ h
theorem Lk.sub {m : Option LkM} {Hs H : Hp} {σ : L2.St} (h : Lk m Hs H σ) : Sub Hs H := by
  cases m with
  | none => exact .of_same h
  | some M =>
    obtain ⟨_, h2, h3, h4, h5⟩ := h
    refine ⟨fun a w e => ?_⟩
    by_cases c : a = M.d
    · subst c
      rw [h3] at e
      cases e
      exact .inr ⟨h4, M.od, h2⟩
    · exact .inl (h5 a w c e)
theorem Lk.grow {m : Option LkM} {Hs H Hs' H' : Hp} {σ : L2.St} (h : Lk m Hs H σ) (x : Ext Hs H Hs' H') : Lk m Hs' H' σ := by
  cases m with
  | none => exact x.exact h
  | some M =>
    obtain ⟨h1, h2, h3, h4, h5⟩ := h
    refine ⟨h1, x.same _ _ h2, x.le _ _ h3, h4, fun a w n e => ?_⟩
    rcases x.nu a w e with q | q
    · exact x.same _ _ (h5 a w n q)
    · exact q
theorem Lk.set {m : Option LkM} {Hs H : Hp} {σ : L2.St} {v : Option V} {i : Nat} (h : Lk m Hs H σ) (n : Offm m i) : Lk m Hs H (σ.set i v) := by
  cases m with
  | none => exact h
  | some M =>
    obtain ⟨h1, h2, h3, h4, h5⟩ := h
    exact ⟨by rw [List.getElem?_set_ne fun c => n M rfl c.symm]; exact h1, h2, h3, h4, h5⟩
structure SR (K : PySem.W.Frag) (m : Option LkM) (Hs0 H0 Hs H : Hp) (σ : L2.St) (δ : De) : Prop where
  ext : Ext Hs0 H0 Hs H
  lk : Lk m Hs H σ
  len : σ.length = δ.length
  at_ : ∀ (i : Nat) (s : Sl), δ[i]? = some (some s) → ∃ v, σ[i]? = some (some v) ∧ SlOk K H0 Hs H v s
  dis : ∀ (i j : Nat) (s t : Sl) (v : V), i ≠ j → δ[i]? = some (some s) → s.own = true → δ[j]? = some (some t) → t.own = true → σ[i]? = some (some v) → σ[j]? = some (some v) → False
theorem SlOk.ext {K : PySem.W.Frag} {H0 Hs H Hs' H' : Hp} {v : V} {s : Sl} (x : Ext Hs H Hs' H') (h : SlOk K H0 Hs H v s) : SlOk K H0 Hs' H' v s := by
  cases s with
  | imm d => exact Tr.mono x.le h
  | ol ds =>
    obtain ⟨p, xs, e, h1, h2, h3, h4⟩ := h
    exact ⟨p, xs, e, x.same _ _ h1, TrL.mono x.le h2, x.out p _ h1 (fun _ e => nomatch e) h3, h4⟩
  | ok ds =>
    obtain ⟨p, xs, e, h1, h2, h3, h4⟩ := h
    exact ⟨p, xs, e, x.same _ _ h1, TrK.mono x.le h2, x.out p _ h1 (fun _ e => nomatch e) h3, h4⟩
  | ot ds =>
    obtain ⟨p, xs, e, h1, h2, h3, h4⟩ := h
    exact ⟨p, xs, e, x.same _ _ h1, TrT.mono x.le h2, x.out p _ h1 (fun _ e => nomatch e) h3, h4⟩
section
variable {K : PySem.W.Frag} {m : Option LkM} {Hs0 H0 Hs H Hs' H' : Hp} {σ : L2.St} {δ : De}
theorem SR.grow (r : SR K m Hs0 H0 Hs H σ δ) (x : Ext Hs H Hs' H') : SR K m Hs0 H0 Hs' H' σ δ where
  ext := r.ext.trans x
  lk := r.lk.grow x
  len := r.len
  at_ := fun i s e => by
    obtain ⟨v, h1, h2⟩ := r.at_ i s e
    exact ⟨v, h1, h2.ext x⟩
  dis := r.dis
theorem SR.sub (r : SR K m Hs0 H0 Hs H σ δ) : Sub Hs H := r.lk.sub
theorem SR.imm (r : SR K m Hs0 H0 Hs H σ δ) {i : Nat} {d : Dat} (e : δ[i]? = some (some (.imm d))) : ∃ v, σ[i]? = some (some v) ∧ Tr K Hs v d := r.at_ i _ e
/-- a slot is given immutable data -/
theorem SR.set_imm (r : SR K m Hs0 H0 Hs H σ δ) {v : V} {d : Dat} (i : Nat) (h : Tr K Hs v d) (n : Offm m i) : SR K m Hs0 H0 Hs H (σ.set i (some v)) (δ.set i (some (.imm d))) where
  ext := r.ext
  lk := r.lk.set n
  len := by rw [List.length_set, List.length_set, r.len]
  at_ := fun j s e => by
    by_cases c : i = j
    · subst c
      have hl : i < δ.length := by
        have := (List.getElem?_eq_some_iff.mp e).1
        rwa [List.length_set] at this
      rw [List.getElem?_set_self hl] at e
      cases e
      exact ⟨v, List.getElem?_set_self (by rw [r.len]; exact hl), h⟩
    · rw [List.getElem?_set_ne c] at e ⊢
      exact r.at_ j s e
  dis := fun j k s t w ne e1 o1 e2 o2 f1 f2 => by
    by_cases c : i = j
    · subst c
      have hl : i < δ.length := by
        have := (List.getElem?_eq_some_iff.mp e1).1
        rwa [List.length_set] at this
      rw [List.getElem?_set_self hl] at e1
      cases e1
      cases o1
    · by_cases c' : i = k
      · subst c'
        have hl : i < δ.length := by
          have := (List.getElem?_eq_some_iff.mp e2).1
          rwa [List.length_set] at this
        rw [List.getElem?_set_self hl] at e2
        cases e2
        cases o2
      · rw [List.getElem?_set_ne c] at e1 f1
        rw [List.getElem?_set_ne c'] at e2 f2
        exact r.dis j k s t w ne e1 o1 e2 o2 f1 f2
/-- fewer things known -/
theorem SR.weak {σ' : L2.St} {δ' : De} (r : SR K m Hs0 H0 Hs H σ δ) (hl : σ'.length = δ'.length) (hk : Lk m Hs H σ') (w : ∀ (i : Nat) (s : Sl), δ'[i]? = some (some s) → δ[i]? = some (some s) ∧ σ'[i]? = σ[i]?) : SR K m Hs0 H0 Hs H σ' δ' where
  ext := r.ext
  lk := hk
  len := hl
  at_ := fun i s e => by
    obtain ⟨e1, e2⟩ := w i s e
    rw [e2]
    exact r.at_ i s e1
  dis := fun i j s t v ne e1 o1 e2 o2 f1 f2 => by
    obtain ⟨g1, g2⟩ := w i s e1
    obtain ⟨g3, g4⟩ := w j t e2
    exact r.dis i j s t v ne g1 o1 g3 o2 (by rw [← g2]; exact f1) (by rw [← g4]; exact f2)
/-- an owned object's address -/
def ownO (v : V) (p : Addr) : Prop := v = .ref p
theorem SR.own_at (r : SR K m Hs0 H0 Hs H σ δ) {i : Nat} {s : Sl} (e : δ[i]? = some (some s)) (o : s.own = true) : ∃ p u, σ[i]? = some (some (.ref p)) ∧ H p = some u ∧ Hs p = none ∧ H0 p = none ∧ SlOk K H0 Hs H (.ref p) s := by
  obtain ⟨v, h1, h2⟩ := r.at_ i s e
  cases s with
  | imm d => cases o
  | ol ds =>
    obtain ⟨p, xs, rfl, q1, q2, q3, q4⟩ := id h2
    exact ⟨p, _, h1, q1, q3, q4, h2⟩
  | ok ds =>
    obtain ⟨p, xs, rfl, q1, q2, q3, q4⟩ := id h2
    exact ⟨p, _, h1, q1, q3, q4, h2⟩
  | ot ds =>
    obtain ⟨p, xs, rfl, q1, q2, q3, q4⟩ := id h2
    exact ⟨p, _, h1, q1, q3, q4, h2⟩
/-- an owned object is changed: u at p, told by s' -/
theorem SR.write (r : SR K m Hs0 H0 Hs H σ δ) {i : Nat} {s s' : Sl} {p : Addr} {u : HO} (e : δ[i]? = some (some s)) (o : s.own = true) (hv : σ[i]? = some (some (.ref p))) (hH : H p ≠ none) (hs : Hs p = none) (h0 : H0 p = none)
    (new : SlOk K H0 Hs (upd H p u) (.ref p) s') (o' : s'.own = true) : SR K m Hs0 H0 Hs (upd H p u) σ (δ.set i (some s')) where
  lk := by
    have k := r.lk
    cases m with
    | none =>
      intro a w q
      rw [upd_ne (ne_of_none q hs)]
      exact k a w q
    | some l =>
      obtain ⟨h1, h2, h3, h4, h5⟩ := k
      refine ⟨h1, by rw [upd_ne (ne_of_none h3 hs)]; exact h2, h3, h4, fun a w n q => ?_⟩
      rw [upd_ne (ne_of_none q hs)]
      exact h5 a w n q
  ext := {
    nu := fun a w q => by
      rcases r.ext.nu a w q with z | z
      · exact .inl z
      · exact .inr (by rw [upd_ne (ne_of_none q hs)]; exact z)
    same := fun b w q => by
      rw [upd_ne (ne_of_none q h0)]
      exact r.ext.same b w q
    le := r.ext.le
    out := r.ext.out }
  len := by rw [List.length_set, r.len]
  at_ := fun j t q => by
    by_cases c : i = j
    · subst c
      have hl : i < δ.length := (List.getElem?_eq_some_iff.mp e).1
      rw [List.getElem?_set_self hl] at q
      cases q
      exact ⟨_, hv, new⟩
    · rw [List.getElem?_set_ne c] at q
      obtain ⟨v, h1, h2⟩ := r.at_ j t q
      refine ⟨v, h1, ?_⟩
      have far : t.own = true → ∀ b, v = .ref b → b ≠ p := fun ot b eb z => by
        subst z
        subst eb
        exact r.dis i j s t _ c e o q ot hv h1
      cases t with
      | imm d => exact h2
      | ol ds =>
        obtain ⟨b, xs, rfl, q1, q2, q3, q4⟩ := h2
        exact ⟨b, xs, rfl, by rw [upd_ne (far rfl b rfl)]; exact q1, q2, q3, q4⟩
      | ok ds =>
        obtain ⟨b, xs, rfl, q1, q2, q3, q4⟩ := h2
        exact ⟨b, xs, rfl, by rw [upd_ne (far rfl b rfl)]; exact q1, q2, q3, q4⟩
      | ot ds =>
        obtain ⟨b, xs, rfl, q1, q2, q3, q4⟩ := h2
        exact ⟨b, xs, rfl, by rw [upd_ne (far rfl b rfl)]; exact q1, q2, q3, q4⟩
  dis := fun j k t t' w ne e1 o1 e2 o2 f1 f2 => by
    have back : ∀ (m : Nat) (z : Sl), (δ.set i (some s'))[m]? = some (some z) → z.own = true → ∃ z', δ[m]? = some (some z') ∧ z'.own = true := fun m z q oz => by
      by_cases c : i = m
      · subst c
        exact ⟨s, e, o⟩
      · rw [List.getElem?_set_ne c] at q
        exact ⟨z, q, oz⟩
    obtain ⟨z1, g1, g2⟩ := back j t e1 o1
    obtain ⟨z2, g3, g4⟩ := back k t' e2 o2
    exact r.dis j k z1 z2 w ne g1 g2 g3 g4 f1 f2
/-- an owned object is put into a slot -/
theorem SR.set_own (r : SR K m Hs0 H0 Hs H σ δ) {s : Sl} {p : Addr} (i : Nat) (fresh : ∀ (j : Nat) (t : Sl), δ[j]? = some (some t) → t.own = true → σ[j]? ≠ some (some (V.ref p))) (new : SlOk K H0 Hs H (.ref p) s) (n : Offm m i) : SR K m Hs0 H0 Hs H (σ.set i (some (.ref p))) (δ.set i (some s)) where
  ext := r.ext
  lk := r.lk.set n
  len := by rw [List.length_set, List.length_set, r.len]
  at_ := fun j t e => by
    by_cases c : i = j
    · subst c
      have hl : i < δ.length := by
        have := (List.getElem?_eq_some_iff.mp e).1
        rwa [List.length_set] at this
      rw [List.getElem?_set_self hl] at e
      cases e
      exact ⟨_, List.getElem?_set_self (by rw [r.len]; exact hl), new⟩
    · rw [List.getElem?_set_ne c] at e ⊢
      exact r.at_ j t e
  dis := fun j k t t' w ne e1 o1 e2 o2 f1 f2 => by
    have at_i : ∀ (z : Sl), (δ.set i (some s))[i]? = some (some z) → i < σ.length := fun z q => by
      have := (List.getElem?_eq_some_iff.mp q).1
      rw [List.length_set] at this
      rw [r.len]
      exact this
    by_cases c : i = j
    · subst c
      by_cases c' : i = k
      · exact ne c'
      · rw [List.getElem?_set_self (at_i t e1)] at f1
        rw [List.getElem?_set_ne c'] at e2 f2
        cases f1
        exact fresh k t' e2 o2 f2
    · by_cases c' : i = k
      · subst c'
        rw [List.getElem?_set_self (at_i t' e2)] at f2
        rw [List.getElem?_set_ne c] at e1 f1
        cases f2
        exact fresh j t e1 o1 f1
      · rw [List.getElem?_set_ne c] at e1 f1
        rw [List.getElem?_set_ne c'] at e2 f2
        exact r.dis j k t t' w ne e1 o1 e2 o2 f1 f2
/-- no owned object stands at an address that was free before -/
theorem SR.fresh (r : SR K m Hs0 H0 Hs H σ δ) {p : Addr} (h : H p = none) : ∀ (j : Nat) (t : Sl), δ[j]? = some (some t) → t.own = true → σ[j]? ≠ some (some (V.ref p)) := by
  intro j t e o q
  obtain ⟨b, u, h1, h2, _⟩ := r.own_at e o
  rw [q] at h1
  cases h1
  rw [h] at h2
  cases h2
/-- what was owned is shared from now on -/
def frz1 : Sl → Dat
  | .imm d => d
  | .ol ds => .lst ds
  | .ok kvs => .dk kvs
  | .ot kvs => .dt kvs
theorem same_updN {H : Hp} {p : Addr} {o : HO} (h : H p = none) : Same H (upd H p o) := fun b x e => by
  rw [upd_ne (ne_of_none e h)]
  exact e
theorem SR.freeze (r : SR K m Hs0 H0 Hs H σ δ) {i : Nat} {s : Sl} (e : δ[i]? = some (some s)) (o : s.own = true) : ∃ Hs', SR K m Hs0 H0 Hs' H σ (δ.set i (some (.imm (frz1 s)))) ∧ Same Hs Hs' := by
  obtain ⟨p, u, h1, h2, h3, h4, h5⟩ := r.own_at e o
  have le : Same Hs (upd Hs p u) := same_updN h3
  refine ⟨upd Hs p u, ⟨⟨fun a w q => ?_, r.ext.same, r.ext.le.trans le, fun b w n nt q => ?_⟩, ?_, by rw [List.length_set, r.len], fun j t q => ?_, fun j k t t' w ne e1 o1 e2 o2 f1 f2 => ?_⟩, le⟩
  · by_cases c : a = p
    · subst c
      rw [upd_same] at q
      cases q
      exact .inr h2
    · rw [upd_ne c] at q
      exact r.ext.nu a w q
  · have c : b ≠ p := ne_of_none n h4
    rw [upd_ne c]
    exact r.ext.out b w n nt q
  · have k := r.lk
    cases m with
    | none =>
      intro a w q
      by_cases c : a = p
      · subst c
        rw [upd_same] at q
        cases q
        exact h2
      · rw [upd_ne c] at q
        exact k a w q
    | some l =>
      obtain ⟨g1, g2, g3, g4, g5⟩ := k
      refine ⟨g1, g2, le _ _ g3, g4, fun a w n q => ?_⟩
      by_cases c : a = p
      · subst c
        rw [upd_same] at q
        cases q
        exact h2
      · rw [upd_ne c] at q
        exact g5 a w n q
  · by_cases c : i = j
    · subst c
      have hl : i < δ.length := (List.getElem?_eq_some_iff.mp e).1
      rw [List.getElem?_set_self hl] at q
      cases q
      refine ⟨_, h1, ?_⟩
      cases s with
      | imm d => cases o
      | ol ds =>
        obtain ⟨b, xs, eb, q1, q2, q3, q4⟩ := h5
        cases eb
        rw [h2] at q1
        cases q1
        exact Tr.lst upd_same (TrL.mono le q2)
      | ok ds =>
        obtain ⟨b, xs, eb, q1, q2, q3, q4⟩ := h5
        cases eb
        rw [h2] at q1
        cases q1
        exact Tr.dk upd_same (TrK.mono le q2)
      | ot ds =>
        obtain ⟨b, xs, eb, q1, q2, q3, q4⟩ := h5
        cases eb
        rw [h2] at q1
        cases q1
        exact Tr.dt upd_same (TrT.mono le q2)
    · rw [List.getElem?_set_ne c] at q
      obtain ⟨v, g1, g2⟩ := r.at_ j t q
      refine ⟨v, g1, ?_⟩
      have far : t.own = true → ∀ b, v = .ref b → b ≠ p := fun ot b eb z => by
        subst z
        subst eb
        exact r.dis i j s t _ c e o q ot h1 g1
      cases t with
      | imm d => exact Tr.mono le g2
      | ol ds =>
        obtain ⟨b, xs, rfl, q1, q2, q3, q4⟩ := g2
        exact ⟨b, xs, rfl, q1, TrL.mono le q2, by rw [upd_ne (far rfl b rfl)]; exact q3, q4⟩
      | ok ds =>
        obtain ⟨b, xs, rfl, q1, q2, q3, q4⟩ := g2
        exact ⟨b, xs, rfl, q1, TrK.mono le q2, by rw [upd_ne (far rfl b rfl)]; exact q3, q4⟩
      | ot ds =>
        obtain ⟨b, xs, rfl, q1, q2, q3, q4⟩ := g2
        exact ⟨b, xs, rfl, q1, TrT.mono le q2, by rw [upd_ne (far rfl b rfl)]; exact q3, q4⟩
  · have back : ∀ (m : Nat) (z : Sl), (δ.set i (some (.imm (frz1 s))))[m]? = some (some z) → z.own = true → δ[m]? = some (some z) := fun m z q oz => by
      by_cases c : i = m
      · subst c
        have hl : i < δ.length := (List.getElem?_eq_some_iff.mp e).1
        rw [List.getElem?_set_self hl] at q
        cases q
        cases oz
      · rw [List.getElem?_set_ne c] at q
        exact q
    exact r.dis j k t t' w ne (back j t e1 o1) o1 (back k t' e2 o2) o2 f1 f2
end
end Tf
/-! text TfC -/
namespace Tf
open PySem PySem.Spec PyProof.Rows L2

/-! ### judgements -/
section
variable (K : PySem.W.Frag) (m : Option LkM)
def EvP (te : TE) (δ : De) (P : Dat → Prop) : Prop := ∀ (Hs0 H0 Hs H : Hp) (σ : L2.St), SR K m Hs0 H0 Hs H σ δ → ∀ Q : VK,
  (∀ v H' Hs' d, Ext Hs H Hs' H' → Tr K Hs' v d → P d → Q v H') → te σ H Q
def EvB (tt : TT) (δ : De) (b : Bool) : Prop := ∀ (Hs0 H0 Hs H : Hp) (σ : L2.St), SR K m Hs0 H0 Hs H σ δ → ∀ Q : Bool → Hp → Prop,
  (∀ H' Hs', Ext Hs H Hs' H' → Q b H') → tt σ H Q
def EvA (ta : TA) (δ : De) (P : List Dat → Prop) : Prop := ∀ (Hs0 H0 Hs H : Hp) (σ : L2.St), SR K m Hs0 H0 Hs H σ δ → ∀ Q : List V → Hp → Prop,
  (∀ vs H' Hs' ds, Ext Hs H Hs' H' → TrL K Hs' vs ds → P ds → Q vs H') → ta σ H Q
/-- a target takes x: which slots change -/
def EvG (g : TG) (x : Dat) (δ δ' : De) (js : List Nat) : Prop := ∀ (Hs0 H0 Hs H : Hp) (σ : L2.St) (v : V), SR K m Hs0 H0 Hs H σ δ → Tr K Hs v x → ∀ Q : L2.St → Hp → Prop,
  (∀ σ', SR K m Hs0 H0 Hs H σ' δ' → (∀ vs : List Nat, (∀ j ∈ js, j ∈ vs) → wipe σ' vs = wipe σ vs) → Q σ' H) → g v σ H Q
/-- by values -/
def RV (r : R2) (x y : Dat) (R : Dat → Prop) : Prop := ∀ (Hs H : Hp) (v u : V), Sub Hs H → Tr K Hs v x → Tr K Hs u y → ∀ Q : VK,
  (∀ z H' Hs' d, Ext Hs H Hs' H' → Tr K Hs' z d → R d → Q z H') → r v u H Q
def RU (r : V → Hp → VK → Prop) (x : Dat) (R : Dat → Prop) : Prop := ∀ (Hs H : Hp) (v : V), Sub Hs H → Tr K Hs v x → ∀ Q : VK,
  (∀ z H' Hs' d, Ext Hs H Hs' H' → Tr K Hs' z d → R d → Q z H') → r v H Q
def RC (r : List V → Hp → VK → Prop) (xs : List Dat) (R : Dat → Prop) : Prop := ∀ (Hs H : Hp) (vs : List V), Sub Hs H → TrL K Hs vs xs → ∀ Q : VK,
  (∀ z H' Hs' d, Ext Hs H Hs' H' → Tr K Hs' z d → R d → Q z H') → r vs H Q
/-- J walks over ds -/
structure Wk (J : It) (Hs1 : Hp) (ds : List Dat) : Prop where
  stop : ∀ i Hs H, Same Hs1 Hs → Sub Hs H → LkH m H → ds.length ≤ i → J.stop i H
  go : ∀ i x Hs H, Same Hs1 Hs → Sub Hs H → LkH m H → ds[i]? = some x → J.go i H
  yld : ∀ i x Hs H v H', Same Hs1 Hs → Sub Hs H → LkH m H → ds[i]? = some x → J.yld i H v H' → ∃ Hs', Ext Hs H Hs' H' ∧ Tr K Hs' v x
def EvI (wi : TI) (δ : De) (S : List Dat → Prop) : Prop := ∀ (Hs0 H0 Hs H : Hp) (σ : L2.St), SR K m Hs0 H0 Hs H σ δ → ∀ R : It → Hp → Prop,
  (∀ J H' Hs' ds, Ext Hs H Hs' H' → S ds → Wk K m J Hs' ds → R J H') → wi σ H R
structure Pt where
  nx : De → Prop
  rt : Dat → Prop := fun _ => False
  /-- what a returned value is, by the heap at the start and the shared part at the end -/
  fr : Hp → Hp → V → Prop := fun _ _ _ => True
  bk : De → Prop := fun _ => False
  ct : De → Prop := fun _ => False
def T (ts : TS) (δ : De) (P : Pt) : Prop := ∀ (Hs0 H0 Hs H : Hp) (σ : L2.St) (D : Ends), SR K m Hs0 H0 Hs H σ δ →
  (∀ σ' H' Hs' δ', SR K m Hs0 H0 Hs' H' σ' δ' → Same Hs Hs' → P.nx δ' → D.nx σ' H') →
  (∀ v H' Hs' d, Ext Hs0 H0 Hs' H' → Tr K Hs' v d → P.rt d → P.fr H0 Hs' v → D.rt v H') →
  (∀ σ' H' Hs' δ', SR K m Hs0 H0 Hs' H' σ' δ' → Same Hs Hs' → P.bk δ' → D.bk σ' H') →
  (∀ σ' H' Hs' δ', SR K m Hs0 H0 Hs' H' σ' δ' → Same Hs Hs' → P.ct δ' → D.ct σ' H') → ts D σ H
end

section
variable {K : PySem.W.Frag} {m : Option LkM} {δ δ' δ'' : De} {te ta tb tc : TE} {tt tu : TT} {P P' R : Dat → Prop} {x y z d : Dat} {ds : List Dat} {i j : Nat}

theorem EvP.imp (h : EvP K m te δ P) (q : ∀ d, P d → R d) : EvP K m te δ R := fun _ _ _ _ _ r Q k => h _ _ _ _ _ r Q fun v H' Hs' d x t p => k v H' Hs' d x t (q d p)
theorem EvP.unAt {a : Addr} (h : EvP K m te δ (Eq (.at a d))) : EvP K m te δ (Eq d) := fun _ _ _ _ _ r Q k => h _ _ _ _ _ r _ fun v H' Hs' d' x t p => by
  subst p
  cases t with
  | «at» t => exact k _ H' Hs' d x t rfl
/-! ### values -/
theorem evp_var (e : δ[i]? = some (some (.imm d))) : EvP K m (tVar i) δ (Eq d) := fun Hs0 H0 Hs H σ r Q k => by
  obtain ⟨v, h1, h2⟩ := r.imm e
  exact ⟨v, h1, k v H Hs d .refl h2 rfl⟩
theorem evp_c {v : V} (h : ∀ Hs, Tr K Hs v d) : EvP K m (tC v) δ (Eq d) := fun Hs0 H0 Hs H σ r Q k => k v H Hs d .refl (h Hs) rfl
theorem evp_int {n : Int} : EvP K m (tC (.int n)) δ (Eq (.int n)) := evp_c fun _ => .int n
theorem evp_bl {b : Bool} : EvP K m (tC (.bl b)) δ (Eq (.bl b)) := evp_c fun _ => .bl b
theorem evp_str {s : Str} : EvP K m (tC (.str s)) δ (Eq (.str s)) := evp_c fun _ => .str s
theorem evp_non : EvP K m (tC .non) δ (Eq .non) := evp_c fun _ => .non
theorem evp_opP {r : R2} (ha : EvP K m ta δ P) (hb : EvP K m tb δ P') (hr : ∀ x y, P x → P' y → RV K r x y R) : EvP K m (tOp r ta tb) δ R := fun Hs0 H0 Hs H σ s Q k =>
  ha _ _ _ _ _ s _ fun v H1 Hs1 x e1 t1 p1 => hb _ _ _ _ _ (s.grow e1) _ fun u H2 Hs2 y e2 t2 p2 =>
    hr x y p1 p2 Hs2 H2 v u ((s.grow e1).grow e2).sub (t1.mono e2.le) t2 Q fun z H3 Hs3 d e3 t3 p3 => k z H3 Hs3 d ((e1.trans e2).trans e3) t3 p3
theorem evp_op {r : R2} (ha : EvP K m ta δ (Eq x)) (hb : EvP K m tb δ (Eq y)) (hr : RV K r x y R) : EvP K m (tOp r ta tb) δ R := evp_opP ha hb fun a b ea eb => by
  cases ea; cases eb; exact hr
theorem evp_un {r : V → Hp → VK → Prop} (ha : EvP K m ta δ (Eq x)) (hr : RU K r x R) : EvP K m (tUn r ta) δ R := fun Hs0 H0 Hs H σ s Q k =>
  ha _ _ _ _ _ s _ fun v H1 Hs1 y e1 t1 p1 => by
    cases p1
    exact hr Hs1 H1 v (s.grow e1).sub t1 Q fun z H3 Hs3 d e3 t3 p3 => k z H3 Hs3 d (e1.trans e3) t3 p3
/-! ### arguments -/
theorem eva_nil : EvA K m tNil δ (Eq []) := fun Hs0 H0 Hs H σ s Q k => k [] H Hs [] .refl .nil rfl
theorem eva_cons {tr : TA} (ha : EvP K m ta δ (Eq x)) (hr : EvA K m tr δ (Eq ds)) : EvA K m (tCons ta tr) δ (Eq (x :: ds)) := fun Hs0 H0 Hs H σ s Q k =>
  ha _ _ _ _ _ s _ fun v H1 Hs1 y e1 t1 p1 => by
    cases p1
    exact hr _ _ _ _ _ (s.grow e1) _ fun vs H2 Hs2 es e2 t2 p2 => by
      cases p2
      exact k _ H2 Hs2 _ (e1.trans e2) (.cons (t1.mono e2.le) t2) rfl
theorem eva_consP {tr : TA} {A B : List Dat → Prop} (ha : EvP K m ta δ P) (hr : EvA K m tr δ A) (hB : ∀ x xs, P x → A xs → B (x :: xs)) : EvA K m (tCons ta tr) δ B := fun Hs0 H0 Hs H σ s Q k =>
  ha _ _ _ _ _ s _ fun v H1 Hs1 y e1 t1 p1 =>
    hr _ _ _ _ _ (s.grow e1) _ fun vs H2 Hs2 es e2 t2 p2 =>
      k _ H2 Hs2 _ (e1.trans e2) (.cons (t1.mono e2.le) t2) (hB _ _ p1 p2)
theorem evp_tupA {t : TA} {A : List Dat → Prop} (h : EvA K m t δ A) (hl : ∀ ds, A ds → ds.length ≤ 100000 ∧ R (.tup ds)) : EvP K m (tTup t) δ R := fun Hs0 H0 Hs H σ s Q k =>
  h _ _ _ _ _ s _ fun vs H1 Hs1 ds e1 t1 p1 => ⟨by rw [t1.length]; exact Nat.le_trans (hl ds p1).1 (by decide), fun p np => by
    have x := Ext.new (o := .tup vs) (s.grow e1).sub np
    exact k (.ref p) _ _ _ (e1.trans x) (.tup upd_same (t1.mono x.le)) (hl ds p1).2⟩
theorem evp_tup {t : TA} (h : EvA K m t δ (Eq ds)) (hl : ds.length ≤ 100000 := by decide) : EvP K m (tTup t) δ (Eq (.tup ds)) := evp_tupA h fun es e => by
  cases e; exact ⟨hl, rfl⟩
theorem evp_lst {t : TA} (h : EvA K m t δ (Eq ds)) (hl : ds.length ≤ 100000 := by decide) : EvP K m (tLst t) δ (Eq (.lst ds)) := fun Hs0 H0 Hs H σ s Q k =>
  h _ _ _ _ _ s _ fun vs H1 Hs1 es e1 t1 p1 => by
    cases p1
    exact ⟨by rw [t1.length]; exact Nat.le_trans hl (by decide), fun p np => by
      have x := Ext.new (o := .lst vs) (s.grow e1).sub np
      exact k (.ref p) _ _ _ (e1.trans x) (.lst upd_same (t1.mono x.le)) rfl⟩
theorem evp_cb {r : List V → Hp → VK → Prop} {t : TA} (h : EvA K m t δ (Eq ds)) (hr : RC K r ds R) : EvP K m (tCB r t) δ R := fun Hs0 H0 Hs H σ s Q k =>
  h _ _ _ _ _ s _ fun vs H1 Hs1 es e1 t1 p1 => by
    cases p1
    exact hr Hs1 H1 vs (s.grow e1).sub t1 Q fun z H3 Hs3 d e3 t3 p3 => k z H3 Hs3 d (e1.trans e3) t3 p3
theorem evp_cbP {r : List V → Hp → VK → Prop} {t : TA} {A : List Dat → Prop} (h : EvA K m t δ A) (hr : ∀ ds, A ds → RC K r ds R) : EvP K m (tCB r t) δ R := fun Hs0 H0 Hs H σ s Q k =>
  h _ _ _ _ _ s _ fun vs H1 Hs1 es e1 t1 p1 => hr es p1 Hs1 H1 vs (s.grow e1).sub t1 Q fun z H3 Hs3 d e3 t3 p3 => k z H3 Hs3 d (e1.trans e3) t3 p3
/-! ### operators -/
theorem rv_int {f : Int → Int → Int} {a b : Int} : RV K (rI0 fun i j => .int (f i j)) (.int a) (.int b) (Eq (.int (f a b))) := fun Hs H v u s t1 t2 Q k => by
  cases t1; cases t2
  exact ⟨a, b, rfl, rfl, k _ H Hs _ .refl (.int _) rfl⟩
theorem rv_bl {f : Int → Int → Bool} {a b : Int} : RV K (rI0 fun i j => .bl (f i j)) (.int a) (.int b) (Eq (.bl (f a b))) := fun Hs H v u s t1 t2 Q k => by
  cases t1; cases t2
  exact ⟨a, b, rfl, rfl, k _ H Hs _ .refl (.bl _) rfl⟩
theorem rv_intC {C : Int → Int → Prop} {f : Int → Int → Int} {a b : Int} (hc : C a b) : RV K (rI C fun i j => .int (f i j)) (.int a) (.int b) (Eq (.int (f a b))) := fun Hs H v u s t1 t2 Q k => by
  cases t1; cases t2
  exact ⟨a, b, rfl, rfl, hc, k _ H Hs _ .refl (.int _) rfl⟩
theorem ru_int {f : Int → Int} {a : Int} : RU K (rU fun i => .int (f i)) (.int a) (Eq (.int (f a))) := fun Hs H v s t1 Q k => by
  cases t1
  exact ⟨a, rfl, k _ H Hs _ .refl (.int _) rfl⟩
/-- scalars -/
inductive Scal : Dat → Dat → Bool → Prop
  | int (a b : Int) : Scal (.int a) (.int b) (a == b)
  | bl (a b : Bool) : Scal (.bl a) (.bl b) (a == b)
  | str (a b : Str) : Scal (.str a) (.str b) (a == b)
theorem rv_eq {c : Bool} (h : Scal x y c) : RV K rEq x y (Eq (.bl c)) := fun Hs H v u s t1 t2 Q k => by
  cases h with
  | int a b => cases t1; cases t2; exact ⟨rfl, by rw [dec_int]; exact k _ H Hs _ .refl (.bl _) rfl⟩
  | bl a b => cases t1; cases t2; exact ⟨rfl, by rw [dec_bl]; exact k _ H Hs _ .refl (.bl _) rfl⟩
  | str a b => cases t1; cases t2; exact ⟨rfl, by rw [dec_str]; exact k _ H Hs _ .refl (.bl _) rfl⟩
theorem rv_ne {c : Bool} (h : Scal x y c) : RV K rNe x y (Eq (.bl !c)) := fun Hs H v u s t1 t2 Q k => by
  cases h with
  | int a b => cases t1; cases t2; exact ⟨rfl, by rw [dec_int]; exact k _ H Hs _ .refl (.bl _) rfl⟩
  | bl a b => cases t1; cases t2; exact ⟨rfl, by rw [dec_bl]; exact k _ H Hs _ .refl (.bl _) rfl⟩
  | str a b => cases t1; cases t2; exact ⟨rfl, by rw [dec_str]; exact k _ H Hs _ .refl (.bl _) rfl⟩
/-- a sequence of data: a list or a tuple -/
inductive Sq : Dat → List Dat → Prop
  | lst (ds : List Dat) : Sq (.lst ds) ds
  | tup (ds : List Dat) : Sq (.tup ds) ds
  | scr (ns : List Int) : Sq (.scr ns) (ns.map .int)
theorem TrL.atI {Hs : Hp} {vs : List V} {k : Int} (t : TrL K Hs vs ds) (h : atI ds k = some d) : ∃ v, L2.atI vs k = some v ∧ Tr K Hs v d := by
  unfold L2.atI at h ⊢
  rw [t.length]
  cases e : ixN ds.length k with
  | none => rw [e] at h; cases h
  | some n =>
    rw [e] at h
    obtain ⟨v, h1, h2⟩ := t.get (i := n) h
    exact ⟨v, h1, h2⟩
theorem rv_ix {k : Int} (hs : Sq x ds) (h : atI ds k = some d) : RV K (rIx K) x (.int k) (Eq d) := fun Hs H v u s t1 t2 Q q => by
  cases t2
  cases hs with
  | lst =>
    obtain ⟨a, xs, rfl, h1, h2⟩ := t1.lst_inv
    obtain ⟨w, h3, h4⟩ := h2.atI h
    exact .inl ⟨a, xs, k, w, rfl, rfl, s.sqL h1, h3, q w H Hs d .refl h4 rfl⟩
  | scr ns =>
    obtain ⟨a, rfl, h1⟩ := t1.scr_inv
    obtain ⟨w, h3, h4⟩ := (trL_ints ns).atI h
    exact .inl ⟨a, _, k, w, rfl, rfl, s.sqL h1, h3, q w H Hs d .refl h4 rfl⟩
  | tup =>
    obtain ⟨a, xs, rfl, h1, h2⟩ := t1.tup_inv
    obtain ⟨w, h3, h4⟩ := h2.atI h
    exact .inr (.inl ⟨a, xs, k, w, rfl, rfl, s.sqT h1, h3, q w H Hs d .refl h4 rfl⟩)
theorem rv_ixS {w : Str} {k : Int} {c : Nat} (hl : w.length ≤ 100000) (h : L2.atI w.cps.toList k = some c) : RV K (rIx K) (.str w) (.int k) (Eq (.str ⟨#[c]⟩)) := fun Hs H v u s t1 t2 Q q => by
  cases t1; cases t2
  exact .inr (.inr ⟨w, k, c, rfl, rfl, Nat.le_trans hl (by decide), h, q _ H Hs _ .refl (.str _) rfl⟩)
/-! ### tests -/
theorem evb_test {b : Bool} (h : EvP K m te δ (Eq (.bl b))) : EvB K m (tTest te) δ b := fun Hs0 H0 Hs H σ s Q k => h _ _ _ _ _ s _ fun v H1 Hs1 y e1 t1 p1 => by
  cases p1; cases t1
  exact ⟨b, rfl, k H1 Hs1 e1⟩
theorem evb_B {b : Bool} (h : EvP K m te δ (Eq (.bl b))) : EvB K m (tB te) δ b := fun Hs0 H0 Hs H σ s Q k => h _ _ _ _ _ s _ fun v H1 Hs1 y e1 t1 p1 => by
  cases p1; cases t1
  exact ⟨b, rfl, k H1 Hs1 e1⟩
theorem evb_not {b : Bool} (h : EvB K m tt δ b) : EvB K m (tNot tt) δ (!b) := fun Hs0 H0 Hs H σ s Q k => h _ _ _ _ _ s _ fun H1 Hs1 e1 => k H1 Hs1 e1
theorem evb_and {a b : Bool} (h : EvB K m tt δ a) (h' : a = true → EvB K m tu δ b) : EvB K m (tAnd tt tu) δ (a && b) := fun Hs0 H0 Hs H σ s Q k => h _ _ _ _ _ s _ fun H1 Hs1 e1 => by
  cases a with
  | true => exact iteT (h' rfl _ _ _ _ _ (s.grow e1) _ fun H2 Hs2 e2 => k H2 Hs2 (e1.trans e2))
  | false => exact iteF (k H1 Hs1 e1)
theorem evb_or {a b : Bool} (h : EvB K m tt δ a) (h' : a = false → EvB K m tu δ b) : EvB K m (tOr tt tu) δ (a || b) := fun Hs0 H0 Hs H σ s Q k => h _ _ _ _ _ s _ fun H1 Hs1 e1 => by
  cases a with
  | true => exact iteT (k H1 Hs1 e1)
  | false => exact iteF (h' rfl _ _ _ _ _ (s.grow e1) _ fun H2 Hs2 e2 => k H2 Hs2 (e1.trans e2))
theorem EvB.to {a b : Bool} (h : EvB K m tt δ a) (e : a = b) : EvB K m tt δ b := e ▸ h
theorem EvP.to (h : EvP K m te δ (Eq x)) (e : x = y) : EvP K m te δ (Eq y) := e ▸ h
/-! ### and, or, not, if as values -/
theorem evp_and {a b : Bool} (h : EvP K m ta δ (Eq (.bl a))) (h' : a = true → EvP K m tb δ (Eq (.bl b))) : EvP K m (tAndV ta tb) δ (Eq (.bl (a && b))) := fun Hs0 H0 Hs H σ s Q k => h _ _ _ _ _ s _ fun v H1 Hs1 y e1 t1 p1 => by
  cases p1; cases t1
  refine ⟨a, rfl, ?_⟩
  cases a with
  | true => exact iteT (h' rfl _ _ _ _ _ (s.grow e1) _ fun v H2 Hs2 y e2 t2 p2 => k v H2 Hs2 y (e1.trans e2) t2 p2)
  | false => exact iteF (k _ H1 Hs1 _ e1 (.bl _) rfl)
theorem evp_or {a b : Bool} (h : EvP K m ta δ (Eq (.bl a))) (h' : a = false → EvP K m tb δ (Eq (.bl b))) : EvP K m (tOrV ta tb) δ (Eq (.bl (a || b))) := fun Hs0 H0 Hs H σ s Q k => h _ _ _ _ _ s _ fun v H1 Hs1 y e1 t1 p1 => by
  cases p1; cases t1
  refine ⟨a, rfl, ?_⟩
  cases a with
  | true => exact iteT (k _ H1 Hs1 _ e1 (.bl _) rfl)
  | false => exact iteF (h' rfl _ _ _ _ _ (s.grow e1) _ fun v H2 Hs2 y e2 t2 p2 => k v H2 Hs2 y (e1.trans e2) t2 p2)
theorem evp_not {a : Bool} (h : EvP K m ta δ (Eq (.bl a))) : EvP K m (tNotV ta) δ (Eq (.bl !a)) := fun Hs0 H0 Hs H σ s Q k => h _ _ _ _ _ s _ fun v H1 Hs1 y e1 t1 p1 => by
  cases p1; cases t1
  exact ⟨a, rfl, k _ H1 Hs1 _ e1 (.bl _) rfl⟩
theorem evp_if {b : Bool} (h : EvB K m tt δ b) (h1 : b = true → EvP K m ta δ R) (h2 : b = false → EvP K m tb δ R) : EvP K m (tIf tt ta tb) δ R := fun Hs0 H0 Hs H σ s Q k => h _ _ _ _ _ s _ fun H1 Hs1 e1 => by
  cases b with
  | true => exact iteT (h1 rfl _ _ _ _ _ (s.grow e1) _ fun v H2 Hs2 y e2 t2 p2 => k v H2 Hs2 y (e1.trans e2) t2 p2)
  | false => exact iteF (h2 rfl _ _ _ _ _ (s.grow e1) _ fun v H2 Hs2 y e2 t2 p2 => k v H2 Hs2 y (e1.trans e2) t2 p2)
/-! ### calls -/
/-- the promise of a def that changes nothing: the data of its arguments, the data that it hands back -/
def SpD (K : PySem.W.Frag) {α : Type} (enc : α → List Dat) (pre : α → Prop) (post : α → Dat → Prop) : Sp := fun vs H Q _ => ∃ (a : α) (Hs : Hp), Same Hs H ∧ TrL K Hs vs (enc a) ∧ pre a ∧
  ∀ v H' Hs' d, Ext Hs H Hs' H' → Tr K Hs' v d → post a d → Q v H'
theorem evp_callA {α : Type} {enc : α → List Dat} {pre : α → Prop} {post : α → Dat → Prop} {t : TA} {E : XK} {dvs : List V} {A : List Dat → Prop} {xs : List Dat} (h : EvA K none t δ A) (hv : ∀ Hs, TrL K Hs dvs xs) (hA : ∀ ds, A ds → ∃ a, ds ++ xs = enc a ∧ pre a ∧ ∀ d, post a d → R d) :
    EvP K none (tCall (SpD K enc pre post) dvs E t) δ R := fun Hs0 H0 Hs H σ s Q k =>
  h _ _ _ _ _ s _ fun vs H1 Hs1 ds e1 t1 p1 => by
    obtain ⟨a, ea, pa, ha⟩ := hA ds p1
    exact ⟨a, Hs1, (s.grow e1).lk, ea ▸ t1.append (hv Hs1), pa, fun v H' Hs' d e2 t2 p2 => k v H' Hs' d (e1.trans e2) t2 (ha d p2)⟩
theorem evp_call {α : Type} {enc : α → List Dat} {pre : α → Prop} {post : α → Dat → Prop} {t : TA} {E : XK} (a : α) (h : EvA K none t δ (Eq (enc a))) (hp : pre a) : EvP K none (tCall (SpD K enc pre post) [] E t) δ (post a) :=
  evp_callA (xs := []) h (fun _ => .nil) fun ds e => ⟨a, by rw [List.append_nil]; exact e.symm, hp, fun _ q => q⟩
end
end Tf
/-! text TfD -/
namespace Tf
open PySem PySem.Spec PyProof.Rows L2

section
variable {K : PySem.W.Frag} {m : Option LkM} {δ δ' δ'' : De} {te ta tb tc : TE} {tt tu : TT} {ts t1 t2 : TS} {A P' R : Dat → Prop} {P : Pt} {x y z d : Dat} {ds : List Dat} {i j : Nat}
/-! ### statements -/
theorem t_seq (h : T K m t1 δ { P with nx := fun δ' => T K m t2 δ' P }) : T K m (tSeq t1 t2) δ P := fun Hs0 H0 Hs H σ D r k1 k2 k3 k4 =>
  h Hs0 H0 Hs H σ { D with nx := t2 D } r (fun σ' H' Hs' δ' r' e q => q Hs0 H0 Hs' H' σ' D r' (fun σ2 H2 Hs2 δ2 r2 e2 => k1 σ2 H2 Hs2 δ2 r2 (e.trans e2)) k2 (fun σ2 H2 Hs2 δ2 r2 e2 => k3 σ2 H2 Hs2 δ2 r2 (e.trans e2)) (fun σ2 H2 Hs2 δ2 r2 e2 => k4 σ2 H2 Hs2 δ2 r2 (e.trans e2))) k2 k3 k4
theorem t_next (h : P.nx δ) : T K m tNext δ P := fun Hs0 H0 Hs H σ D r k1 k2 k3 k4 => k1 σ H Hs δ r (Same.refl _) h
theorem t_break (h : P.bk δ) : T K m tBreak δ P := fun Hs0 H0 Hs H σ D r k1 k2 k3 k4 => k3 σ H Hs δ r (Same.refl _) h
theorem t_asg (h : EvP K m te δ A) (q : ∀ d, A d → P.nx (δ.set i (some (.imm d)))) (n : Offm m i := by first | exact offm_none | exact offm_some (by decide)) : T K m (tAsg te (gName i)) δ P := fun Hs0 H0 Hs H σ D r k1 k2 k3 k4 =>
  h _ _ _ _ _ r _ fun v H' Hs' d e t p => k1 _ H' Hs' _ ((r.grow e).set_imm i t n) e.le (q d p)
theorem t_ret (h : EvP K m te δ A) (q : ∀ d, A d → P.rt d) (f : ∀ H0 H' v, P.fr H0 H' v := by intros; exact True.intro) : T K m (tRet te) δ P := fun Hs0 H0 Hs H σ D r k1 k2 k3 k4 =>
  h _ _ _ _ _ r _ fun v H' Hs' d e t p => k2 v H' Hs' d (r.ext.trans e) t (q d p) (f _ _ _)
theorem t_drop (h : EvP K m te δ A) (q : ∀ d, A d → P.nx δ) : T K m (tDrop te) δ P := fun Hs0 H0 Hs H σ D r k1 k2 k3 k4 =>
  h _ _ _ _ _ r _ fun v H' Hs' d e t p => k1 _ H' Hs' _ (r.grow e) e.le (q d p)
theorem t_if {b : Bool} (h : EvB K m tt δ b) (h1 : b = true → T K m t1 δ P) (h2 : b = false → T K m t2 δ P) : T K m (tIfS tt t1 t2) δ P := fun Hs0 H0 Hs H σ D r k1 k2 k3 k4 =>
  h _ _ _ _ _ r _ fun H' Hs' e => by
    have k1' := fun σ2 H2 Hs2 δ2 r2 (e2 : Same Hs' Hs2) => k1 σ2 H2 Hs2 δ2 r2 (e.le.trans e2)
    have k3' := fun σ2 H2 Hs2 δ2 r2 (e2 : Same Hs' Hs2) => k3 σ2 H2 Hs2 δ2 r2 (e.le.trans e2)
    have k4' := fun σ2 H2 Hs2 δ2 r2 (e2 : Same Hs' Hs2) => k4 σ2 H2 Hs2 δ2 r2 (e.le.trans e2)
    cases b with
    | true => exact iteT (h1 rfl _ _ _ _ _ D (r.grow e) k1' k2 k3' k4')
    | false => exact iteF (h2 rfl _ _ _ _ _ D (r.grow e) k1' k2 k3' k4')
theorem T.imp {P P' : Pt} (h : T K m ts δ P) (q1 : ∀ δ, P.nx δ → P'.nx δ) (q2 : ∀ d, P.rt d → P'.rt d) (q3 : ∀ δ, P.bk δ → P'.bk δ) (q4 : ∀ δ, P.ct δ → P'.ct δ) (q5 : ∀ d H0 H' v, P.rt d → P.fr H0 H' v → P'.fr H0 H' v := by first | exact fun _ _ _ _ _ h => h | exact fun _ _ _ _ h _ => h.elim | (intros; exact True.intro)) : T K m ts δ P' := fun Hs0 H0 Hs H σ D r k1 k2 k3 k4 =>
  h Hs0 H0 Hs H σ D r (fun σ' H' Hs' δ' r' e q => k1 σ' H' Hs' δ' r' e (q1 _ q)) (fun v H' Hs' d e t q f => k2 v H' Hs' d e t (q2 _ q) (q5 d _ _ _ q f)) (fun σ' H' Hs' δ' r' e q => k3 σ' H' Hs' δ' r' e (q3 _ q)) (fun σ' H' Hs' δ' r' e q => k4 σ' H' Hs' δ' r' e (q4 _ q))
/-- an owned thing is shared from now on -/
theorem t_freeze {s : Sl} (i : Nat) (e : δ[i]? = some (some s)) (o : s.own = true) (h : T K m ts (δ.set i (some (.imm (frz1 s)))) P) : T K m ts δ P := fun Hs0 H0 Hs H σ D r k1 k2 k3 k4 => by
  obtain ⟨Hs', r', le⟩ := r.freeze e o
  exact h Hs0 H0 Hs' H σ D r' (fun σ2 H2 Hs2 δ2 r2 e2 => k1 σ2 H2 Hs2 δ2 r2 (le.trans e2)) k2 (fun σ2 H2 Hs2 δ2 r2 e2 => k3 σ2 H2 Hs2 δ2 r2 (le.trans e2)) (fun σ2 H2 Hs2 δ2 r2 e2 => k4 σ2 H2 Hs2 δ2 r2 (le.trans e2))
/-- forgetting a slot -/
theorem t_forget (w : ∀ (i : Nat) (s : Sl), δ'[i]? = some (some s) → δ[i]? = some (some s)) (hl : δ'.length = δ.length) (h : T K m ts δ' P) : T K m ts δ P := fun Hs0 H0 Hs H σ D r k1 k2 k3 k4 =>
  h Hs0 H0 Hs H σ D (r.weak (by rw [r.len, hl]) r.lk fun i s e => ⟨w i s e, rfl⟩) k1 k2 k3 k4

/-! ### things that change -/
/-- a new list, not shared yet -/
def EvOL (K : PySem.W.Frag) (m : Option LkM) (te : TE) (δ : De) (ds : List Dat) : Prop := ∀ (Hs0 H0 Hs H : Hp) (σ : L2.St), SR K m Hs0 H0 Hs H σ δ → ∀ Q : VK,
  (∀ p xs H' Hs', H p = none → Ext Hs H Hs' H' → Hs' p = none → H' p = some (.lst xs) → TrL K Hs' xs ds → Q (.ref p) H') → te σ H Q
def EvOK (K : PySem.W.Frag) (m : Option LkM) (te : TE) (δ : De) (R : List (Int × Dat) → Prop) : Prop := ∀ (Hs0 H0 Hs H : Hp) (σ : L2.St), SR K m Hs0 H0 Hs H σ δ → ∀ Q : VK,
  (∀ p kvs H' Hs' ds, H p = none → Ext Hs H Hs' H' → Hs' p = none → H' p = some (.dK kvs) → TrK K Hs' kvs ds → R ds → Q (.ref p) H') → te σ H Q
def EvOT (K : PySem.W.Frag) (m : Option LkM) (te : TE) (δ : De) (R : List (List Str × Dat) → Prop) : Prop := ∀ (Hs0 H0 Hs H : Hp) (σ : L2.St), SR K m Hs0 H0 Hs H σ δ → ∀ Q : VK,
  (∀ p kvs H' Hs' ds, H p = none → Ext Hs H Hs' H' → Hs' p = none → H' p = some (.dT kvs) → TrT K Hs' kvs ds → R ds → Q (.ref p) H') → te σ H Q
theorem eo_nil : EvOL K m (tLst tNil) δ [] := fun Hs0 H0 Hs H σ r Q k => ⟨Nat.zero_le _, fun p np => k p [] _ Hs np (Ext.own np) (r.sub.none np) upd_same .nil⟩
theorem eo_dk : EvOK K m tDNewK δ (Eq []) := fun Hs0 H0 Hs H σ r Q k p np => k p [] _ Hs _ np (Ext.own np) (r.sub.none np) upd_same .nil rfl
theorem eo_dt : EvOT K m tDNewT δ (Eq []) := fun Hs0 H0 Hs H σ r Q k p np => k p [] _ Hs _ np (Ext.own np) (r.sub.none np) upd_same .nil rfl
theorem SR.none0 {Hs0 H0 Hs H : Hp} {σ : L2.St} (r : SR K m Hs0 H0 Hs H σ δ) {p : Addr} (h : H p = none) : H0 p = none := by
  cases e : H0 p with
  | none => rfl
  | some o => rw [r.ext.same p o e] at h; cases h
theorem t_asgOL (h : EvOL K m te δ ds) (q : P.nx (δ.set i (some (.ol ds)))) (n : Offm m i := by first | exact offm_none | exact offm_some (by decide)) : T K m (tAsg te (gName i)) δ P := fun Hs0 H0 Hs H σ D r k1 k2 k3 k4 =>
  h _ _ _ _ _ r _ fun p xs H' Hs' np e hs hH t => k1 _ H' Hs' _ ((r.grow e).set_own (s := .ol ds) i (fun j t e' o q' => r.fresh np j t e' o q') ⟨p, xs, rfl, hH, t, hs, r.none0 np⟩ n) e.le q
theorem t_asgOK {B : List (Int × Dat) → Prop} (h : EvOK K m te δ B) (q : ∀ kvs, B kvs → P.nx (δ.set i (some (.ok kvs)))) (n : Offm m i := by first | exact offm_none | exact offm_some (by decide)) : T K m (tAsg te (gName i)) δ P := fun Hs0 H0 Hs H σ D r k1 k2 k3 k4 =>
  h _ _ _ _ _ r _ fun p xs H' Hs' ds np e hs hH t b => k1 _ H' Hs' _ ((r.grow e).set_own (s := .ok ds) i (fun j t e' o q' => r.fresh np j t e' o q') ⟨p, xs, rfl, hH, t, hs, r.none0 np⟩ n) e.le (q _ b)
theorem t_asgOT {B : List (List Str × Dat) → Prop} (h : EvOT K m te δ B) (q : ∀ kvs, B kvs → P.nx (δ.set i (some (.ot kvs)))) (n : Offm m i := by first | exact offm_none | exact offm_some (by decide)) : T K m (tAsg te (gName i)) δ P := fun Hs0 H0 Hs H σ D r k1 k2 k3 k4 =>
  h _ _ _ _ _ r _ fun p xs H' Hs' ds np e hs hH t b => k1 _ H' Hs' _ ((r.grow e).set_own (s := .ot ds) i (fun j t e' o q' => r.fresh np j t e' o q') ⟨p, xs, rfl, hH, t, hs, r.none0 np⟩ n) e.le (q _ b)
/-- xs.append(e) -/
theorem t_app (ei : δ[i]? = some (some (.ol ds))) (h : EvP K m te δ A) (hl : ds.length < 100000) (q : ∀ d, A d → P.nx (δ.set i (some (.ol (ds ++ [d]))))) :
    T K m (tDrop (tBM K "list" rAppend (tVar i) (tCons te tNil))) δ P := fun Hs0 H0 Hs H σ D r k1 k2 k3 k4 => by
  obtain ⟨v, h1, p, xs, rfl, q1, q2, q3, q4⟩ := r.at_ i _ ei
  refine ⟨.ref p, h1, .inl ⟨rfl, xs, .inl (.inl q1)⟩, h _ _ _ _ _ r _ fun u H' Hs' d e t a => ?_⟩
  obtain ⟨v, h1', p', xs', ep, q1', q2', q3', q4'⟩ := (r.grow e).at_ i _ ei
  rw [h1] at h1'
  cases h1'; cases ep
  refine ⟨p, xs', u, rfl, rfl, q1', by rw [q2'.length]; exact Nat.lt_of_lt_of_le hl (by decide), k1 _ _ Hs' _ ((r.grow e).write (s' := .ol (ds ++ [d])) ei rfl h1 (by rw [q1']; simp) q3' q4' ⟨p, _, rfl, upd_same, q2'.snoc t, q3', q4'⟩ rfl) e.le (q d a)⟩

/-! ### dicts -/
def aget {κ α : Type} [DecidableEq κ] (l : List (κ × α)) (k : κ) : Option α := (l.find? fun p => decide (p.1 = k)).map (·.2)
def aput {κ α : Type} [DecidableEq κ] (l : List (κ × α)) (k : κ) (v : α) : List (κ × α) :=
  if (l.any fun p => decide (p.1 = k)) = true then l.map (fun p => if p.1 = k then (p.1, v) else p) else l ++ [(k, v)]
theorem inl_eq {a b : Int} : decide ((Sum.inl a : Key) = Sum.inl b) = decide (a = b) := by
  by_cases e : a = b
  · subst e; simp
  · rw [decide_eq_false e, decide_eq_false fun q => e (Sum.inl.inj q)]
theorem mapr_inj : ∀ {a b : List Str}, a.map (Sum.inr (α := Int)) = b.map Sum.inr → a = b
  | [], [], _ => rfl
  | [], _ :: _, e => by simp at e
  | _ :: _, [], e => by simp at e
  | x :: a, y :: b, e => by
    rw [List.map_cons, List.map_cons] at e
    injection e with e1 e2
    rw [Sum.inr.inj e1, mapr_inj e2]
theorem mapr_eq {a b : List Str} : decide (a.map (Sum.inr (α := Int)) = b.map Sum.inr) = decide (a = b) := by
  by_cases e : a = b
  · subst e; simp
  · rw [decide_eq_false e, decide_eq_false fun q => e (mapr_inj q)]
section
variable {Hs : Hp}
theorem TrK.any (k : Int) : ∀ {kvs : List (Key × V)} {l : List (Int × Dat)}, TrK K Hs kvs l → (kvs.any fun kv => decide (kv.1 = .inl k)) = l.any fun p => decide (p.1 = k)
  | _, _, .nil => rfl
  | _, _, .cons (i := i) h t => by
    rw [List.any_cons, List.any_cons, TrK.any k t]
    show (decide ((Sum.inl i : Key) = Sum.inl k) || _) = _
    rw [inl_eq]
theorem TrK.get {k : Int} {d : Dat} : ∀ {kvs : List (Key × V)} {l : List (Int × Dat)}, TrK K Hs kvs l → aget l k = some d → ∃ v, valV kvs (.inl k) = some v ∧ Tr K Hs v d
  | _, _, .nil, e => by cases e
  | _, _, .cons (i := i) (v := w) (d := d') (vs := vs) (ds := ds) h t, e => by
    by_cases c : i = k
    · have e1 : aget ((i, d') :: ds) k = some d' := by
        unfold aget
        rw [List.find?_cons_of_pos (by simpa using c)]
        rfl
      rw [e1] at e
      cases e
      exact ⟨w, valV_pos (by rw [c]), h⟩
    · have e1 : aget ((i, d') :: ds) k = aget ds k := by
        unfold aget
        rw [List.find?_cons_of_neg (by simpa using c)]
      rw [e1] at e
      obtain ⟨v, h1, h2⟩ := TrK.get t e
      exact ⟨v, by rw [valV_neg fun q => c (Sum.inl.inj q)]; exact h1, h2⟩
theorem TrK.getN {k : Int} : ∀ {kvs : List (Key × V)} {l : List (Int × Dat)}, TrK K Hs kvs l → aget l k = none → valV kvs (.inl k) = none
  | _, _, .nil, e => rfl
  | _, _, .cons (i := i) (v := w) (d := d') (vs := vs) (ds := ds) h t, e => by
    by_cases c : i = k
    · have e1 : aget ((i, d') :: ds) k = some d' := by
        unfold aget
        rw [List.find?_cons_of_pos (by simpa using c)]
        rfl
      rw [e1] at e
      cases e
    · have e1 : aget ((i, d') :: ds) k = aget ds k := by
        unfold aget
        rw [List.find?_cons_of_neg (by simpa using c)]
      rw [e1] at e
      rw [valV_neg fun q => c (Sum.inl.inj q)]
      exact TrK.getN t e
theorem TrK.repl {k : Int} {v : V} {d : Dat} (hv : Tr K Hs v d) : ∀ {kvs : List (Key × V)} {l : List (Int × Dat)}, TrK K Hs kvs l →
    TrK K Hs (kvs.map fun kv => if kv.1 = .inl k then (kv.1, v) else kv) (l.map fun p => if p.1 = k then (p.1, d) else p)
  | _, _, .nil => .nil
  | _, _, .cons (i := i) h t => by
    rw [List.map_cons, List.map_cons]
    by_cases c : i = k
    · rw [if_pos (by rw [c]), if_pos c]
      exact .cons hv (TrK.repl hv t)
    · rw [if_neg fun q => c (Sum.inl.inj q), if_neg c]
      exact .cons h (TrK.repl hv t)
theorem TrK.append : ∀ {kvs kws : List (Key × V)} {l l' : List (Int × Dat)}, TrK K Hs kvs l → TrK K Hs kws l' → TrK K Hs (kvs ++ kws) (l ++ l')
  | _, _, _, _, .nil, s => s
  | _, _, _, _, .cons h t, s => .cons h (TrK.append t s)
theorem TrK.put {k : Int} {v : V} {d : Dat} {kvs : List (Key × V)} {l : List (Int × Dat)} (t : TrK K Hs kvs l) (hv : Tr K Hs v d) : TrK K Hs (putK kvs (.inl k) v) (aput l k d) := by
  unfold putK aput
  rw [t.any k]
  split
  · exact t.repl hv
  · exact t.append (.cons hv .nil)
theorem TrK.length : ∀ {kvs : List (Key × V)} {l : List (Int × Dat)}, TrK K Hs kvs l → kvs.length = l.length
  | _, _, .nil => rfl
  | _, _, .cons h t => by rw [List.length_cons, List.length_cons, t.length]
theorem TrT.any (k : List Str) : ∀ {kvs : List (List Key × V)} {l : List (List Str × Dat)}, TrT K Hs kvs l → (kvs.any fun kv => decide (kv.1 = k.map .inr)) = l.any fun p => decide (p.1 = k)
  | _, _, .nil => rfl
  | _, _, .cons (l := i) h t => by
    rw [List.any_cons, List.any_cons, TrT.any k t]
    show (decide (i.map Sum.inr = k.map Sum.inr) || _) = _
    rw [mapr_eq]
theorem TrT.get {k : List Str} {d : Dat} : ∀ {kvs : List (List Key × V)} {l : List (List Str × Dat)}, TrT K Hs kvs l → aget l k = some d → ∃ v, valV kvs (k.map .inr) = some v ∧ Tr K Hs v d
  | _, _, .nil, e => by cases e
  | _, _, .cons (l := i) (v := w) (d := d') (vs := vs) (ds := ds) h t, e => by
    by_cases c : i = k
    · have e1 : aget ((i, d') :: ds) k = some d' := by
        unfold aget
        rw [List.find?_cons_of_pos (by simpa using c)]
        rfl
      rw [e1] at e
      cases e
      exact ⟨w, valV_pos (by rw [c]), h⟩
    · have e1 : aget ((i, d') :: ds) k = aget ds k := by
        unfold aget
        rw [List.find?_cons_of_neg (by simpa using c)]
      rw [e1] at e
      obtain ⟨v, h1, h2⟩ := TrT.get t e
      exact ⟨v, by rw [valV_neg fun q => c (mapr_inj q)]; exact h1, h2⟩
theorem TrT.getN {k : List Str} : ∀ {kvs : List (List Key × V)} {l : List (List Str × Dat)}, TrT K Hs kvs l → aget l k = none → valV kvs (k.map .inr) = none
  | _, _, .nil, e => rfl
  | _, _, .cons (l := i) (v := w) (d := d') (vs := vs) (ds := ds) h t, e => by
    by_cases c : i = k
    · have e1 : aget ((i, d') :: ds) k = some d' := by
        unfold aget
        rw [List.find?_cons_of_pos (by simpa using c)]
        rfl
      rw [e1] at e
      cases e
    · have e1 : aget ((i, d') :: ds) k = aget ds k := by
        unfold aget
        rw [List.find?_cons_of_neg (by simpa using c)]
      rw [e1] at e
      rw [valV_neg fun q => c (mapr_inj q)]
      exact TrT.getN t e
theorem TrT.repl {k : List Str} {v : V} {d : Dat} (hv : Tr K Hs v d) : ∀ {kvs : List (List Key × V)} {l : List (List Str × Dat)}, TrT K Hs kvs l →
    TrT K Hs (kvs.map fun kv => if kv.1 = k.map .inr then (kv.1, v) else kv) (l.map fun p => if p.1 = k then (p.1, d) else p)
  | _, _, .nil => .nil
  | _, _, .cons (l := i) h t => by
    rw [List.map_cons, List.map_cons]
    by_cases c : i = k
    · rw [if_pos (by rw [c]), if_pos c]
      exact .cons hv (TrT.repl hv t)
    · rw [if_neg fun q => c (mapr_inj q), if_neg c]
      exact .cons h (TrT.repl hv t)
theorem TrT.append : ∀ {kvs kws : List (List Key × V)} {l l' : List (List Str × Dat)}, TrT K Hs kvs l → TrT K Hs kws l' → TrT K Hs (kvs ++ kws) (l ++ l')
  | _, _, _, _, .nil, s => s
  | _, _, _, _, .cons h t, s => .cons h (TrT.append t s)
theorem TrT.put {k : List Str} {v : V} {d : Dat} {kvs : List (List Key × V)} {l : List (List Str × Dat)} (t : TrT K Hs kvs l) (hv : Tr K Hs v d) : TrT K Hs (putK kvs (k.map .inr) v) (aput l k d) := by
  unfold putK aput
  rw [t.any k]
  split
  · exact t.repl hv
  · exact t.append (.cons hv .nil)
theorem TrT.length : ∀ {kvs : List (List Key × V)} {l : List (List Str × Dat)}, TrT K Hs kvs l → kvs.length = l.length
  | _, _, .nil => rfl
  | _, _, .cons h t => by rw [List.length_cons, List.length_cons, t.length]
end
/-- an address as data -/
def adr (l : List Str) : Dat := .tup (l.map .str)
/-- the dict that a slot holds, shared or not -/
def KAt (δ : De) (i : Nat) (l : List (Int × Dat)) : Prop := δ[i]? = some (some (.ok l)) ∨ δ[i]? = some (some (.imm (.dk l)))
def TAt (δ : De) (i : Nat) (l : List (List Str × Dat)) : Prop := δ[i]? = some (some (.ot l)) ∨ δ[i]? = some (some (.imm (.dt l)))
def LAt (δ : De) (i : Nat) (l : List Dat) : Prop := δ[i]? = some (some (.ol l)) ∨ δ[i]? = some (some (.imm (.lst l)))
theorem SR.kAt {Hs0 H0 Hs H : Hp} {σ : L2.St} {l : List (Int × Dat)} (r : SR K m Hs0 H0 Hs H σ δ) (h : KAt δ i l) : ∃ p kvs, σ[i]? = some (some (.ref p)) ∧ Rd H p (.dK kvs) ∧ TrK K Hs kvs l := by
  rcases h with h | h
  · obtain ⟨v, h1, p, kvs, rfl, q1, q2, q3, q4⟩ := r.at_ i _ h
    exact ⟨p, kvs, h1, .inl q1, q2⟩
  · obtain ⟨v, h1, h2⟩ := r.imm h
    obtain ⟨p, kvs, rfl, q1, q2⟩ := h2.dk_inv
    exact ⟨p, kvs, h1, r.sub.dK q1, q2⟩
theorem SR.tAt {Hs0 H0 Hs H : Hp} {σ : L2.St} {l : List (List Str × Dat)} (r : SR K m Hs0 H0 Hs H σ δ) (h : TAt δ i l) : ∃ p kvs, σ[i]? = some (some (.ref p)) ∧ Rd H p (.dT kvs) ∧ TrT K Hs kvs l := by
  rcases h with h | h
  · obtain ⟨v, h1, p, kvs, rfl, q1, q2, q3, q4⟩ := r.at_ i _ h
    exact ⟨p, kvs, h1, .inl q1, q2⟩
  · obtain ⟨v, h1, h2⟩ := r.imm h
    obtain ⟨p, kvs, rfl, q1, q2⟩ := h2.dt_inv
    exact ⟨p, kvs, h1, r.sub.dT q1, q2⟩
theorem SR.lAt {Hs0 H0 Hs H : Hp} {σ : L2.St} {l : List Dat} (r : SR K m Hs0 H0 Hs H σ δ) (h : LAt δ i l) : ∃ p xs, σ[i]? = some (some (.ref p)) ∧ SqL K H p xs ∧ TrL K Hs xs l := by
  rcases h with h | h
  · obtain ⟨v, h1, p, kvs, rfl, q1, q2, q3, q4⟩ := r.at_ i _ h
    exact ⟨p, kvs, h1, .inl (.inl q1), q2⟩
  · obtain ⟨v, h1, h2⟩ := r.imm h
    obtain ⟨p, kvs, rfl, q1, q2⟩ := h2.lst_inv
    exact ⟨p, kvs, h1, r.sub.sqL q1, q2⟩
/-- d[k] -/
theorem evp_getK {l : List (Int × Dat)} {k : Int} (h : KAt δ i l) (hk : EvP K m ta δ (Eq (.int k))) (e : aget l k = some d) : EvP K m (tDGet (tVar i) ta) δ (Eq d) := fun Hs0 H0 Hs H σ r Q q => by
  obtain ⟨p, kvs, h1, h2, h3⟩ := r.kAt h
  refine ⟨.ref p, h1, hk _ _ _ _ _ r _ fun v H1 Hs1 y e1 t1 p1 => ?_⟩
  cases p1; cases t1
  obtain ⟨p', kvs', h1', h2', h3'⟩ := (r.grow e1).kAt h
  rw [h1] at h1'
  cases h1'
  obtain ⟨v, g1, g2⟩ := h3'.get e
  exact ⟨p, v, rfl, .inl ⟨kvs', .inl k, h2', rfl, g1.symm⟩, q v H1 Hs1 d e1 g2 rfl⟩
theorem evp_getT {l : List (List Str × Dat)} {k : List Str} (h : TAt δ i l) (hk : EvP K m ta δ (Eq (adr k))) (e : aget l k = some d) : EvP K m (tDGet (tVar i) ta) δ (Eq d) := fun Hs0 H0 Hs H σ r Q q => by
  obtain ⟨p, kvs, h1, h2, h3⟩ := r.tAt h
  refine ⟨.ref p, h1, hk _ _ _ _ _ r _ fun v H1 Hs1 y e1 t1 p1 => ?_⟩
  cases p1
  obtain ⟨b, rfl, hb⟩ := Tr.adr_inv t1
  obtain ⟨p', kvs', h1', h2', h3'⟩ := (r.grow e1).tAt h
  rw [h1] at h1'
  cases h1'
  obtain ⟨v, g1, g2⟩ := h3'.get e
  exact ⟨p, v, rfl, .inr ⟨kvs', k.map .inr, b, h2', rfl, (r.grow e1).sub.tup hb, g1.symm⟩, q v H1 Hs1 d e1 g2 rfl⟩
/-- d.get(k, x) -/
theorem evp_get2K {l : List (Int × Dat)} {k : Int} (h : KAt δ i l) (hk : EvP K m ta δ (Eq (.int k))) (hx : EvP K m tb δ (Eq x)) : EvP K m (tDGet2 (tVar i) ta tb) δ (Eq ((aget l k).getD x)) := fun Hs0 H0 Hs H σ r Q q => by
  obtain ⟨p, kvs, h1, h2, h3⟩ := r.kAt h
  refine ⟨.ref p, h1, p, rfl, .inl ⟨kvs, h2⟩, hk _ _ _ _ _ r _ fun v H1 Hs1 y e1 t1 p1 => hx _ _ _ _ _ (r.grow e1) _ fun u H2 Hs2 y2 e2 t2 p2 => ?_⟩
  cases p1; cases t1; cases p2
  obtain ⟨p', kvs', h1', h2', h3'⟩ := ((r.grow e1).grow e2).kAt h
  rw [h1] at h1'
  cases h1'
  cases e : aget l k with
  | none =>
    refine ⟨none, .inl ⟨kvs', .inl k, h2', rfl, (h3'.getN e).symm⟩, ?_⟩
    exact q u H2 Hs2 _ (e1.trans e2) t2 (by rw [e]; rfl)
  | some d =>
    obtain ⟨v, g1, g2⟩ := h3'.get e
    refine ⟨some v, .inl ⟨kvs', .inl k, h2', rfl, g1.symm⟩, ?_⟩
    exact q v H2 Hs2 _ (e1.trans e2) g2 (by rw [e]; rfl)
theorem evp_get2T {l : List (List Str × Dat)} {k : List Str} (h : TAt δ i l) (hk : EvP K m ta δ (Eq (adr k))) (hx : EvP K m tb δ (Eq x)) : EvP K m (tDGet2 (tVar i) ta tb) δ (Eq ((aget l k).getD x)) := fun Hs0 H0 Hs H σ r Q q => by
  obtain ⟨p, kvs, h1, h2, h3⟩ := r.tAt h
  refine ⟨.ref p, h1, p, rfl, .inr ⟨kvs, h2⟩, hk _ _ _ _ _ r _ fun v H1 Hs1 y e1 t1 p1 => hx _ _ _ _ _ (r.grow e1) _ fun u H2 Hs2 y2 e2 t2 p2 => ?_⟩
  cases p1; cases p2
  obtain ⟨b, rfl, hb⟩ := Tr.adr_inv t1
  obtain ⟨p', kvs', h1', h2', h3'⟩ := ((r.grow e1).grow e2).tAt h
  rw [h1] at h1'
  cases h1'
  have hb' := ((r.grow e1).grow e2).sub.tup (e2.le _ _ hb)
  cases e : aget l k with
  | none =>
    refine ⟨none, .inr ⟨kvs', k.map .inr, b, h2', rfl, hb', (h3'.getN e).symm⟩, ?_⟩
    exact q u H2 Hs2 _ (e1.trans e2) t2 (by rw [e]; rfl)
  | some d =>
    obtain ⟨v, g1, g2⟩ := h3'.get e
    refine ⟨some v, .inr ⟨kvs', k.map .inr, b, h2', rfl, hb', g1.symm⟩, ?_⟩
    exact q v H2 Hs2 _ (e1.trans e2) g2 (by rw [e]; rfl)
/-- k in d, k not in d -/
theorem evp_inK {l : List (Int × Dat)} {k : Int} (hk : EvP K m ta δ (Eq (.int k))) (h : KAt δ i l) : EvP K m (tDIn ta (tVar i)) δ (Eq (.bl (aget l k).isSome)) := fun Hs0 H0 Hs H σ r Q q => by
  refine hk _ _ _ _ _ r _ fun v H1 Hs1 y e1 t1 p1 => ?_
  cases p1; cases t1
  obtain ⟨p, kvs, h1, h2, h3⟩ := (r.grow e1).kAt h
  refine ⟨.ref p, h1, p, _, rfl, .inl ⟨kvs, .inl k, h2, rfl, rfl⟩, q _ H1 Hs1 _ e1 (.bl _) ?_⟩
  cases e : aget l k with
  | none => rw [h3.getN e]; rfl
  | some d => obtain ⟨v, g1, g2⟩ := h3.get e; rw [g1]; rfl
theorem evp_inT {l : List (List Str × Dat)} {k : List Str} (hk : EvP K m ta δ (Eq (adr k))) (h : TAt δ i l) : EvP K m (tDIn ta (tVar i)) δ (Eq (.bl (aget l k).isSome)) := fun Hs0 H0 Hs H σ r Q q => by
  refine hk _ _ _ _ _ r _ fun v H1 Hs1 y e1 t1 p1 => ?_
  cases p1
  obtain ⟨b, rfl, hb⟩ := Tr.adr_inv t1
  obtain ⟨p, kvs, h1, h2, h3⟩ := (r.grow e1).tAt h
  refine ⟨.ref p, h1, p, _, rfl, .inr ⟨kvs, k.map .inr, b, h2, rfl, (r.grow e1).sub.tup hb, rfl⟩, q _ H1 Hs1 _ e1 (.bl _) ?_⟩
  cases e : aget l k with
  | none => rw [h3.getN e]; rfl
  | some d => obtain ⟨v, g1, g2⟩ := h3.get e; rw [g1]; rfl
theorem evp_notInT {l : List (List Str × Dat)} {k : List Str} (hk : EvP K m ta δ (Eq (adr k))) (h : TAt δ i l) : EvP K m (tDNotIn ta (tVar i)) δ (Eq (.bl !(aget l k).isSome)) := fun Hs0 H0 Hs H σ r Q q => by
  refine hk _ _ _ _ _ r _ fun v H1 Hs1 y e1 t1 p1 => ?_
  cases p1
  obtain ⟨b, rfl, hb⟩ := Tr.adr_inv t1
  obtain ⟨p, kvs, h1, h2, h3⟩ := (r.grow e1).tAt h
  refine ⟨.ref p, h1, p, _, rfl, .inr ⟨kvs, k.map .inr, b, h2, rfl, (r.grow e1).sub.tup hb, rfl⟩, q _ H1 Hs1 _ e1 (.bl _) ?_⟩
  cases e : aget l k with
  | none => rw [h3.getN e]; rfl
  | some d => obtain ⟨v, g1, g2⟩ := h3.get e; rw [g1]; rfl
/-- d[k] = v -/
theorem t_putK {l : List (Int × Dat)} {k : Int} (ei : δ[i]? = some (some (.ok l))) (hv : EvP K m tb δ A) (hk : EvP K m ta δ (Eq (.int k))) (hl : l.length < 100000) (q : ∀ d, A d → P.nx (δ.set i (some (.ok (aput l k d))))) :
    T K m (sDPut (tVar i) ta tb) δ P := fun Hs0 H0 Hs H σ D r k1 k2 k3 k4 => by
  refine hv _ _ _ _ _ r _ fun v H1 Hs1 d e1 t1 p1 => ?_
  obtain ⟨v', h1, p, kvs, rfl, q1, q2, q3, q4⟩ := (r.grow e1).at_ i _ ei
  refine ⟨.ref p, h1, hk _ _ _ _ _ (r.grow e1) _ fun u H2 Hs2 y e2 t2 p2 => ?_⟩
  cases p2; cases t2
  obtain ⟨v', h1', p', kvs', ep, q1', q2', q3', q4'⟩ := ((r.grow e1).grow e2).at_ i _ ei
  rw [h1] at h1'
  cases h1'; cases ep
  refine ⟨p, _, rfl, .inl ⟨kvs', .inl k, q1', rfl, by rw [q2'.length]; exact Nat.lt_of_lt_of_le hl (by decide), rfl⟩, k1 _ _ Hs2 _ (((r.grow e1).grow e2).write (s' := .ok (aput l k d)) ei rfl h1 (by rw [q1']; simp) q3' q4' ⟨p, _, rfl, upd_same, q2'.put (t1.mono e2.le), q3', q4'⟩ rfl) (e1.le.trans e2.le) (q d p1)⟩
theorem t_putT {l : List (List Str × Dat)} {k : List Str} (ei : δ[i]? = some (some (.ot l))) (hv : EvP K m tb δ A) (hk : EvP K m ta δ (Eq (adr k))) (hl : l.length < 100000) (q : ∀ d, A d → P.nx (δ.set i (some (.ot (aput l k d))))) :
    T K m (sDPut (tVar i) ta tb) δ P := fun Hs0 H0 Hs H σ D r k1 k2 k3 k4 => by
  refine hv _ _ _ _ _ r _ fun v H1 Hs1 d e1 t1 p1 => ?_
  obtain ⟨v', h1, p, kvs, rfl, q1, q2, q3, q4⟩ := (r.grow e1).at_ i _ ei
  refine ⟨.ref p, h1, hk _ _ _ _ _ (r.grow e1) _ fun u H2 Hs2 y e2 t2 p2 => ?_⟩
  cases p2
  obtain ⟨b, rfl, hb⟩ := Tr.adr_inv t2
  obtain ⟨v', h1', p', kvs', ep, q1', q2', q3', q4'⟩ := ((r.grow e1).grow e2).at_ i _ ei
  rw [h1] at h1'
  cases h1'; cases ep
  refine ⟨p, _, rfl, .inr ⟨kvs', k.map .inr, b, q1', rfl, ((r.grow e1).grow e2).sub.tup hb, by rw [q2'.length]; exact Nat.lt_of_lt_of_le hl (by decide), rfl⟩, k1 _ _ Hs2 _ (((r.grow e1).grow e2).write (s' := .ot (aput l k d)) ei rfl h1 (by rw [q1']; simp) q3' q4' ⟨p, _, rfl, upd_same, q2'.put (t1.mono e2.le), q3', q4'⟩ rfl) (e1.le.trans e2.le) (q d p1)⟩
/-- xs[i] of a list that a slot holds, shared or not -/
theorem evp_ixO {k : Int} (h : LAt δ i ds) (hk : EvP K m ta δ (Eq (.int k))) (e : atI ds k = some d) : EvP K m (tOp (rIx K) (tVar i) ta) δ (Eq d) := fun Hs0 H0 Hs H σ r Q q => by
  obtain ⟨p, xs, h1, h2, h3⟩ := r.lAt h
  refine ⟨.ref p, h1, hk _ _ _ _ _ r _ fun v H1 Hs1 y e1 t1 p1 => ?_⟩
  cases p1; cases t1
  obtain ⟨p', xs', h1', h2', h3'⟩ := (r.grow e1).lAt h
  rw [h1] at h1'
  cases h1'
  obtain ⟨w, g1, g2⟩ := h3'.atI e
  exact .inl ⟨p, xs', k, w, rfl, rfl, h2', g1, q w H1 Hs1 d e1 g2 rfl⟩
end
end Tf
/-! text TfE -/
namespace Tf
open PySem PySem.Spec PyProof.Rows L2

/-! ### walking a list or a tuple; unpacking one -/
def iSeq (K : PySem.W.Frag) (tl : TE) : TI := fun σ H R => tl σ H fun x H1 => ∃ a, x = .ref a ∧ (((∃ xs, SqL K H1 a xs) ∧ R (Itl K a) H1) ∨ ((∃ xs, SqT K H1 a xs) ∧ R (Itt K a) H1))
theorem pi_seq {X : Cx} {K : PySem.W.Frag} {tg l : Expr} {tl : TE} (hl : PE X l tl) (hK : X.K = K := by rfl) : PI X tg l (iSeq K tl) := by
  subst hK
  refine ⟨fun pins s σ H R I h => thn (hl.run pins s σ H _ I h) ?_⟩
  rintro v s1 ⟨x, H1, I1, r1, a, rfl, q⟩
  cases r1
  have fr : ∀ b ∈ [s1.heap.objs.size], FpOk X pins H1 b := fun b hb => by
    rw [List.mem_singleton.mp hb]
    exact I1.fpOk (Nat.le_refl _) (I1.hok.fresh (Nat.le_refl _))
  rcases q with ⟨⟨xs, hq⟩, q⟩ | ⟨⟨xs, hq⟩, q⟩
  · obtain ⟨its, rv, p, hz⟩ := I1.list hq
    refine wpAny_pyIter_list p.isList ⟨s1.heap.objs.size, _, _, _, H1, rfl, ?_, turn_list a _, ⟨_, Heap.get?_push_size _ rfl, rfl, rfl⟩, fr, q⟩
    exact I1.kept (t' := s1.toks) fun b o e => Heap.get?_push_of_some _ e
  · obtain ⟨its, rv, p, hz⟩ := I1.tuple hq
    refine wpAny_pyIter_tuple (show s1.heap.IsTuple a its.toArray from p) ⟨s1.heap.objs.size, _, _, _, H1, rfl, ?_, turn_tuple a _, ⟨_, Heap.get?_push_size _ rfl, rfl, rfl⟩, fr, q⟩
    exact I1.kept (t' := s1.toks) fun b o e => Heap.get?_push_of_some _ e
def gSeq (K : PySem.W.Frag) (n : Nat) (t : TGs) : TG := fun v σ H Q => gTup K n t v σ H Q ∨ gUnl K n t v σ H Q
theorem pg_seq {X : Cx} {K : PySem.W.Frag} {pos : Pos} {es : List Expr} {k : Nat} {t : TGs} {n : Nat} (hc : X.calm = true) (h : PGs X es t)
    (hn : (assignEach es X.env).length = n := by rfl) (hst : (assignEach es X.env).findIdx? (·.1) = none := by rfl) (hK : X.K = K := by rfl) : PG X (.Tuple es k pos) (gSeq K n t) :=
  hK ▸ ⟨fun pins s σ H v u Q I r hw => hw.elim (fun hw => (pg_tup hc h hn hst).run pins s σ H v u Q I r hw) fun hw => (pg_unl hc h hn hst).run pins s σ H v u Q I r hw⟩

theorem same_sq {K : PySem.W.Frag} {Hs1 Hs H : Hp} {a : Addr} {xs : List V} (e : Same Hs1 Hs) (s : Sub Hs H) (h : SqL K Hs1 a xs) : SqL K H a xs := s.sqL (sqL_same e h)
section
variable {K : PySem.W.Frag} {m : Option LkM} {δ δ' δ'' : De} {te ta tb tc tl : TE} {tt tu : TT} {ts t1 t2 : TS} {A P' R : Dat → Prop} {P : Pt} {x y z d : Dat} {ds : List Dat} {i j : Nat} {S : List Dat → Prop}
theorem wk_list {Hs : Hp} {a : Addr} {xs : List V} (h : SqL K Hs a xs) (t : TrL K Hs xs ds) : Wk K m (Itl K a) Hs ds where
  stop := fun i Hs' H e s _ hl => ⟨xs, same_sq e s h, by rw [t.length]; exact hl⟩
  go := fun i x Hs' H e s _ hx => by
    obtain ⟨v, h1, _⟩ := t.get hx
    exact ⟨xs, v, same_sq e s h, h1⟩
  yld := fun i x Hs' H v H' e s _ hx hy => by
    obtain ⟨w, h1, h2⟩ := t.get hx
    obtain ⟨rfl, hy⟩ := hy
    have hv := hy xs (same_sq e s h)
    rw [h1] at hv
    cases hv
    exact ⟨Hs', .refl, h2.mono e⟩
theorem wk_tup {Hs : Hp} {a : Addr} {xs : List V} (h : SqT K Hs a xs) (t : TrL K Hs xs ds) : Wk K m (Itt K a) Hs ds where
  stop := fun i Hs' H e s _ hl => ⟨xs, s.sqT (sqT_same e h), by rw [t.length]; exact hl⟩
  go := fun i x Hs' H e s _ hx => by
    obtain ⟨v, h1, _⟩ := t.get hx
    exact ⟨xs, v, s.sqT (sqT_same e h), h1⟩
  yld := fun i x Hs' H v H' e s _ hx hy => by
    obtain ⟨w, h1, h2⟩ := t.get hx
    obtain ⟨rfl, hy⟩ := hy
    have hv := hy xs (s.sqT (sqT_same e h))
    rw [h1] at hv
    cases hv
    exact ⟨Hs', .refl, h2.mono e⟩
theorem evi_seq (h : EvP K m tl δ A) (hS : ∀ d, A d → ∃ ds, Sq d ds ∧ S ds) : EvI K m (iSeq K tl) δ S := fun Hs0 H0 Hs H σ r R k =>
  h _ _ _ _ _ r _ fun v H1 Hs1 d e1 t1 p1 => by
    obtain ⟨ds, sq, sd⟩ := hS d p1
    cases sq with
    | lst =>
      obtain ⟨a, xs, rfl, h1, h2⟩ := t1.lst_inv
      exact ⟨a, rfl, .inl ⟨⟨xs, (r.grow e1).sub.sqL h1⟩, k _ H1 Hs1 ds e1 sd (wk_list h1 h2)⟩⟩
    | scr ns =>
      obtain ⟨a, rfl, h1⟩ := t1.scr_inv
      exact ⟨a, rfl, .inl ⟨⟨_, (r.grow e1).sub.sqL h1⟩, k _ H1 Hs1 _ e1 sd (wk_list h1 (trL_ints ns))⟩⟩
    | tup =>
      obtain ⟨a, xs, rfl, h1, h2⟩ := t1.tup_inv
      exact ⟨a, rfl, .inr ⟨⟨xs, (r.grow e1).sub.sqT h1⟩, k _ H1 Hs1 ds e1 sd (wk_tup h1 h2)⟩⟩
theorem evi_sq (h : EvP K m tl δ (Eq d)) (q : Sq d ds) : EvI K m (iSeq K tl) δ (Eq ds) := evi_seq h fun e ee => by cases ee; exact ⟨ds, q, rfl⟩
def intR (lo : Int) (n : Nat) : List Dat := (List.range n).map fun (k : Nat) => Dat.int (lo + (k : Int))
theorem intR_get {lo : Int} {n k : Nat} {x : Dat} (h : (intR lo n)[k]? = some x) : k < n ∧ x = .int (lo + (k : Int)) := by
  unfold intR at h
  rw [List.getElem?_map] at h
  by_cases c : k < n
  · rw [List.getElem?_range c] at h
    cases h
    exact ⟨c, rfl⟩
  · rw [List.getElem?_eq_none (by simpa using c)] at h
    cases h
theorem intR_len {lo : Int} {n : Nat} : (intR lo n).length = n := by unfold intR; rw [List.length_map, List.length_range]
theorem wk_range {Hs : Hp} {lo : Int} {n : Nat} : Wk K m (Itr lo n) Hs (intR lo n) where
  stop := fun i Hs' H e s _ hl => by rw [intR_len] at hl; exact hl
  go := fun i x Hs' H e s _ hx => (intR_get hx).1
  yld := fun i x Hs' H v H' e s _ hx hy => by
    obtain ⟨h1, rfl⟩ := intR_get hx
    obtain ⟨rfl, rfl⟩ := hy
    exact ⟨Hs', .refl, .int _⟩
theorem evi_range {t : TA} {n : Int} (h : EvA K m t δ (Eq [.int n])) (h1 : -(2 ^ 62) ≤ n) (h2 : n < 2 ^ 62) : EvI K m (iRng1 t) δ (Eq (intR 0 n.toNat)) := fun Hs0 H0 Hs H σ r R k =>
  h _ _ _ _ _ r _ fun vs H1 Hs1 es e1 tt p1 => by
    cases p1
    obtain ⟨v, vs', rfl, hv, hr⟩ := tt.cons_inv
    cases hv
    cases hr
    exact ⟨n, rfl, h1, h2, k _ H1 Hs1 _ e1 rfl wk_range⟩
/-! ### targets -/
theorem wipe_set {σ : L2.St} {o : Option V} {j : Nat} : ∀ {vs : List Nat}, j ∈ vs → wipe (σ.set j o) vs = wipe σ vs
  | v :: vs, h => by
    show (wipe (σ.set j o) vs).set v none = (wipe σ vs).set v none
    by_cases c : j ∈ vs
    · rw [wipe_set c]
    · have e : j = v := by
        rcases List.mem_cons.mp h with e | e
        · exact e
        · exact absurd e c
      subst e
      have far : ∀ (us : List Nat), j ∉ us → wipe (σ.set j o) us = (wipe σ us).set j o := by
        intro us
        induction us with
        | nil => intro _; rfl
        | cons u us ih =>
          intro hn
          show (wipe (σ.set j o) us).set u none = ((wipe σ us).set u none).set j o
          rw [ih fun z => hn (List.mem_cons_of_mem _ z), List.set_comm _ _ fun z => hn (by rw [z]; exact List.mem_cons_self)]
      rw [far vs c, List.set_set]
theorem evg_name (n : Offm m j := by first | exact offm_none | exact offm_some (by decide)) : EvG K m (gName j) x δ (δ.set j (some (.imm x))) [j] := fun Hs0 H0 Hs H σ v r t Q k =>
  k _ (r.set_imm j t n) fun vs hv => wipe_set (hv j (List.mem_singleton.mpr rfl))
/-- a list or a tuple, not the script -/
inductive Sqx : Dat → List Dat → Prop
  | lst (ds : List Dat) : Sqx (.lst ds) ds
  | tup (ds : List Dat) : Sqx (.tup ds) ds
theorem Sqx.sq (h : Sqx d ds) : Sq d ds := by cases h; exact .lst _; exact .tup _
theorem evg_two {a b : Nat} (n1 : Offm m a := by first | exact offm_none | exact offm_some (by decide)) (n2 : Offm m b := by first | exact offm_none | exact offm_some (by decide)) (hd : Sqx d [x, y]) : EvG K m (gSeq K 2 (gCons (gName a) (gCons (gName b) gNil))) d δ ((δ.set a (some (.imm x))).set b (some (.imm y))) [a, b] := fun Hs0 H0 Hs H σ v r t Q k => by
  cases hd with
  | tup =>
    obtain ⟨p, xs, rfl, h1, h2⟩ := t.tup_inv
    obtain ⟨v1, r1, rfl, g1, h2⟩ := h2.cons_inv
    obtain ⟨v2, r2, rfl, g2, h2⟩ := h2.cons_inv
    cases h2
    refine .inl ⟨p, _, rfl, r.sub.sqT h1, rfl, v1, _, rfl, v2, _, rfl, rfl, k _ ((r.set_imm a g1 n1).set_imm b g2 n2) fun vs hv => ?_⟩
    rw [wipe_set (hv b (by simp)), wipe_set (hv a (by simp))]
  | lst =>
    obtain ⟨p, xs, rfl, h1, h2⟩ := t.lst_inv
    obtain ⟨v1, r1, rfl, g1, h2⟩ := h2.cons_inv
    obtain ⟨v2, r2, rfl, g2, h2⟩ := h2.cons_inv
    cases h2
    refine .inr ⟨p, _, rfl, r.sub.sqL h1, rfl, v1, _, rfl, v2, _, rfl, rfl, k _ ((r.set_imm a g1 n1).set_imm b g2 n2) fun vs hv => ?_⟩
    rw [wipe_set (hv b (by simp)), wipe_set (hv a (by simp))]
/-! ### loops -/
theorem t_for {wi : TI} {g : TG} {tb : TS} (I : List Dat → Nat → De → Prop) (hw : EvI K m wi δ S) (h0 : ∀ ds, S ds → I ds 0 δ)
    (hs : ∀ ds k x δ', S ds → ds[k]? = some x → I ds k δ' → ∃ δ'' js, EvG K m g x δ' δ'' js ∧ T K m tb δ'' { nx := I ds (k + 1), ct := I ds (k + 1), bk := P.nx, rt := P.rt, fr := P.fr })
    (hd : ∀ ds δ', S ds → I ds ds.length δ' → P.nx δ') : T K m (tFor wi g tb) δ P := fun Hs0 H0 Hs H σ D r k1 k2 k3 k4 =>
  hw _ _ _ _ _ r _ fun J H1 Hs1 ds e1 sd wk => by
    refine ⟨fun n mm σ' H' => ∃ Hs' δ', SR K m Hs0 H0 Hs' H' σ' δ' ∧ Same Hs1 Hs' ∧ I ds n δ' ∧ n + mm = ds.length, ⟨ds.length, Hs1, δ, r.grow e1, Same.refl _, h0 ds sd, by omega⟩, ?_⟩
    rintro n mm σ' H' ⟨Hs', δ', r', sm, hI, hn⟩
    by_cases c : n < ds.length
    · have hx : ds[n]? = some ds[n] := List.getElem?_eq_getElem c
      refine .inr ⟨wk.go n _ Hs' H' sm r'.sub r'.lk.h hx, fun σ2 H2 => ∃ Hs2 δ2, SR K m Hs0 H0 Hs2 H2 σ2 δ2 ∧ Same Hs1 Hs2 ∧ I ds (n + 1) δ2, ?_, fun v H2 hy => ?_⟩
      · rintro σ2 H2 ⟨Hs2, δ2, r2, sm2, hI2⟩
        exact ⟨mm - 1, by omega, Hs2, δ2, r2, sm2, hI2, by omega⟩
      · obtain ⟨Hs2, e2, t2⟩ := wk.yld n _ Hs' H' v H2 sm r'.sub r'.lk.h hx hy
        obtain ⟨δ'', js, hg, hb⟩ := hs ds n _ δ' sd hx hI
        refine hg _ _ _ _ _ v (r'.grow e2) t2 _ fun σ3 r3 _ => ?_
        have up : Same Hs1 Hs2 := sm.trans e2.le
        refine hb Hs0 H0 Hs2 H2 σ3 _ r3 (fun σ4 H4 Hs4 δ4 r4 e4 q4 => ⟨Hs4, δ4, r4, up.trans e4, q4⟩) k2 (fun σ4 H4 Hs4 δ4 r4 e4 q4 => ?_) (fun σ4 H4 Hs4 δ4 r4 e4 q4 => ⟨Hs4, δ4, r4, up.trans e4, q4⟩)
        exact k1 σ4 H4 Hs4 δ4 r4 ((e1.le.trans up).trans e4) q4
    · refine .inl ⟨wk.stop n Hs' H' sm r'.sub r'.lk.h (by omega), k1 _ _ Hs' δ' r' (e1.le.trans sm) (hd ds δ' sd ?_)⟩
      have : n = ds.length := by omega
      rw [← this]; exact hI
theorem t_while {c : TT} {tb : TS} (I : Nat → De → Prop) (n0 : Nat) (h0 : I n0 δ)
    (hs : ∀ n δ', I n δ' → ∃ b, EvB K m c δ' b ∧ (b = true → T K m tb δ' { nx := fun δ'' => ∃ n', n' < n ∧ I n' δ'', ct := fun δ'' => ∃ n', n' < n ∧ I n' δ'', bk := P.nx, rt := P.rt, fr := P.fr }) ∧ (b = false → P.nx δ')) :
    T K m (tWhile c tb) δ P := fun Hs0 H0 Hs H σ D r k1 k2 k3 k4 => by
  refine ⟨fun n σ' H' => ∃ Hs' δ', SR K m Hs0 H0 Hs' H' σ' δ' ∧ Same Hs Hs' ∧ I n δ', ⟨n0, Hs, δ, r, Same.refl _, h0⟩, ?_⟩
  rintro n σ' H' ⟨Hs', δ', r', sm, hI⟩
  obtain ⟨b, hb, h1, h2⟩ := hs n δ' hI
  refine hb _ _ _ _ _ r' _ fun H2 Hs2 e2 => ?_
  have up : Same Hs Hs2 := sm.trans e2.le
  cases b with
  | true =>
    refine iteT ⟨fun σ3 H3 => ∃ n', n' < n ∧ ∃ Hs3 δ3, SR K m Hs0 H0 Hs3 H3 σ3 δ3 ∧ Same Hs Hs3 ∧ I n' δ3, fun σ3 H3 q => q, ?_⟩
    refine h1 rfl Hs0 H0 Hs2 H2 σ' _ (r'.grow e2) ?_ k2 (fun σ4 H4 Hs4 δ4 r4 e4 q4 => k1 σ4 H4 Hs4 δ4 r4 (up.trans e4) q4) ?_
    · rintro σ4 H4 Hs4 δ4 r4 e4 ⟨n', l, q4⟩
      exact ⟨n', l, Hs4, δ4, r4, up.trans e4, q4⟩
    · rintro σ4 H4 Hs4 δ4 r4 e4 ⟨n', l, q4⟩
      exact ⟨n', l, Hs4, δ4, r4, up.trans e4, q4⟩
  | false => exact iteF (k1 _ _ _ _ (r'.grow e2) up (h2 rfl))
/-! ### comprehensions -/
def wipeD (δ : De) : List Nat → De
  | [] => δ
  | v :: vs => (wipeD δ vs).set v none
theorem wipeD_len (δ : De) : ∀ vs : List Nat, (wipeD δ vs).length = δ.length
  | [] => rfl
  | v :: vs => by show ((wipeD δ vs).set v none).length = _; rw [List.length_set, wipeD_len δ vs]
theorem wipeD_some {s : Sl} : ∀ {vs : List Nat}, (wipeD δ vs)[i]? = some (some s) → δ[i]? = some (some s) ∧ i ∉ vs
  | [], h => ⟨h, by simp⟩
  | v :: vs, h => by
    have h' : ((wipeD δ vs).set v none)[i]? = some (some s) := h
    by_cases hi : v = i
    · subst hi
      by_cases hv : v < (wipeD δ vs).length
      · rw [List.getElem?_set_self hv] at h'; cases h'
      · rw [List.getElem?_eq_none (by simpa using hv)] at h'; cases h'
    · rw [List.getElem?_set_ne hi] at h'
      obtain ⟨h1, h2⟩ := wipeD_some h'
      refine ⟨h1, fun hm => ?_⟩
      rcases List.mem_cons.mp hm with e | e
      · exact hi e.symm
      · exact h2 e
theorem Lk.wipe {Hs H : Hp} {σ : L2.St} {vs : List Nat} (h : Lk m Hs H σ) (n : ∀ v ∈ vs, Offm m v) : Lk m Hs H (wipe σ vs) := by
  cases m with
  | none => exact h
  | some l =>
    obtain ⟨h1, h2⟩ := h
    exact ⟨by rw [wipe_out fun hv => n _ hv l rfl rfl]; exact h1, h2⟩
theorem SR.wipe {Hs0 H0 Hs H : Hp} {σ : L2.St} {vs : List Nat} (r : SR K m Hs0 H0 Hs H σ δ) (n : ∀ v ∈ vs, Offm m v) : SR K m Hs0 H0 Hs H (L2.wipe σ vs) (wipeD δ vs) :=
  r.weak (by rw [wipe_length, wipeD_len, r.len]) (r.lk.wipe n) fun i s e => by
    obtain ⟨h1, h2⟩ := wipeD_some e
    exact ⟨h1, wipe_out h2⟩
theorem Paired.snoc {α β : Type} {F : α → β → Prop} {a : α} {b : β} (h : F a b) : ∀ {l₁ : List α} {l₂ : List β}, Paired F l₁ l₂ → Paired F (l₁ ++ [a]) (l₂ ++ [b])
  | _, _, .nil => .cons h .nil
  | _, _, .cons r t => .cons r (Paired.snoc h t)
theorem take_one {α : Type} {l : List α} {n : Nat} {x : α} (h : l[n]? = some x) : l.take (n + 1) = l.take n ++ [x] := by
  rw [List.take_add_one, h]; rfl
theorem paired_len {α β : Type} {F : α → β → Prop} : ∀ {l₁ : List α} {l₂ : List β}, Paired F l₁ l₂ → l₁.length = l₂.length
  | _, _, .nil => rfl
  | _, _, .cons _ t => by rw [List.length_cons, List.length_cons, paired_len t]
theorem lc_grow {A A' B B' : Hp} {D : Addr} {o : HO} (x : Ext A A' B B') (hA : A' D = none) (hB : B D = none) : Ext A A' B (upd B' D o) where
  nu := fun a u e => by
    rcases x.nu a u e with q | q
    · exact .inl q
    · exact .inr (by rw [upd_ne (ne_of_none e hB)]; exact q)
  same := fun b u e => by
    rw [upd_ne (ne_of_none e hA)]
    exact x.same b u e
  le := x.le
  out := x.out
theorem evp_lc {α : Type} {l : List α} {enc : α → Dat} {wi : TI} {g : TG} {vs : List Nat} (f : α → Bool) (F : α → Dat → Prop) (hw : EvI K m wi δ (Eq (l.map enc))) (hv : ∀ v ∈ vs, Offm m v) (hl : l.length ≤ 100000)
    (hs : ∀ x, x ∈ l → ∃ δx js, EvG K m g (enc x) (wipeD δ vs) δx js ∧ (∀ j ∈ js, j ∈ vs) ∧ EvB K m tt δx (f x) ∧ (f x = true → EvP K m te δx (F x)))
    (hR : ∀ ys, Paired F (l.filter f) ys → R (.lst ys)) : EvP K m (tLc wi g tt te vs) δ R := fun Hs0 H0 Hs H σ r Q k =>
  hw _ _ _ _ _ r _ fun J H1 Hs1 ds e1 sd wk D nD => by
    subst sd
    have r1 := r.grow e1
    have sD : Hs1 D = none := r1.sub.none nD
    refine ⟨fun n mm H' => ∃ Hs' ws ys, Ext Hs1 H1 Hs' H' ∧ H' D = some (.lst ws) ∧ Hs' D = none ∧ TrL K Hs' ws ys ∧ Paired F ((l.take n).filter f) ys ∧ n + mm = l.length,
      ⟨l.length, Hs1, [], [], Ext.own nD, upd_same, sD, .nil, .nil, by omega⟩, ?_⟩
    rintro n mm H' ⟨Hs', ws, ys, e', hD, nD', tr, pr, hn⟩
    have r' := r1.grow e'
    by_cases c : n < l.length
    · have hx0 : l[n]? = some l[n] := List.getElem?_eq_getElem c
      have hx : (l.map enc)[n]? = some (enc l[n]) := by rw [List.getElem?_map, hx0]; rfl
      obtain ⟨δx, js, hg, hj, hb, he⟩ := hs l[n] (List.getElem_mem c)
      refine .inr ⟨wk.go n _ Hs' H' e'.le r'.sub r'.lk.h hx, fun H2 => ∃ Hs2 ws ys, Ext Hs1 H1 Hs2 H2 ∧ H2 D = some (.lst ws) ∧ Hs2 D = none ∧ TrL K Hs2 ws ys ∧ Paired F ((l.take (n + 1)).filter f) ys, ?_, fun v H2 hy => ?_⟩
      · rintro H2 ⟨Hs2, ws2, ys2, a1, a2, a3, a4, a5⟩
        exact ⟨mm - 1, by omega, Hs2, ws2, ys2, a1, a2, a3, a4, a5, by omega⟩
      · obtain ⟨Hs2, e2, t2⟩ := wk.yld n _ Hs' H' v H2 e'.le r'.sub r'.lk.h hx hy
        refine hg _ _ _ _ _ v ((r'.grow e2).wipe hv) t2 _ fun σ3 r3 hwp => ⟨?_, ?_⟩
        · rw [hwp vs hj]
          have idem : ∀ us : List Nat, (∀ u ∈ us, u ∈ vs) → wipe (wipe σ us) vs = wipe σ vs := by
            intro us
            induction us with
            | nil => intro _; rfl
            | cons u us ih =>
              intro hu
              show wipe ((wipe σ us).set u none) vs = _
              rw [wipe_set (hu u List.mem_cons_self), ih fun z hz => hu z (List.mem_cons_of_mem _ hz)]
          exact idem vs fun _ h => h
        · refine hb _ _ _ _ _ r3 _ fun H3 Hs3 e3 => ?_
          have nt : ∀ xs, HO.lst ws ≠ .tup xs := fun xs e => nomatch e
          have e13 : Ext Hs1 H1 Hs3 H3 := (e'.trans e2).trans e3
          have hD2 : H2 D = some (.lst ws) := e2.same _ _ hD
          have hD3 : H3 D = some (.lst ws) := e3.same _ _ hD2
          have nD2 : Hs2 D = none := e2.out D _ hD nt nD'
          have nD3 : Hs3 D = none := e3.out D _ hD2 nt nD2
          have tk := take_one hx0
          cases hf : f l[n] with
          | true =>
            refine iteT (he hf _ _ _ _ _ (r3.grow e3) _ fun y H4 Hs4 d e4 t4 p4 => ?_)
            have nD4 : Hs4 D = none := e4.out D _ hD3 nt nD3
            refine ⟨ws, e4.same _ _ hD3, ?_, Hs4, ws ++ [y], ys ++ [d], lc_grow (e13.trans e4) nD nD4, upd_same, nD4, (tr.mono ((e2.le.trans e3.le).trans e4.le)).snoc t4, ?_⟩
            · rw [tr.length, ← paired_len pr]
              have h1 := List.length_filter_le f (l.take n)
              rw [List.length_take] at h1
              have h3 : (100000 : Nat) < sizeLine := by decide
              omega
            · rw [tk, List.filter_append]
              have e5 : [l[n]].filter f = [l[n]] := by simp [hf]
              rw [e5]
              exact Paired.snoc p4 pr
          | false =>
            refine iteF ⟨Hs3, ws, ys, e13, hD3, nD3, tr.mono (e2.le.trans e3.le), ?_⟩
            rw [tk, List.filter_append]
            have e5 : [l[n]].filter f = [] := by simp [hf]
            rw [e5, List.append_nil]
            exact pr
    · have hn' : n = l.length := by omega
      subst hn'
      rw [List.take_length] at pr
      refine .inl ⟨wk.stop _ Hs' H' e'.le r'.sub r'.lk.h (by rw [List.length_map]; exact Nat.le_refl _), ?_⟩
      have sm : Same Hs' (upd Hs' D (.lst ws)) := same_updN nD'
      refine k (.ref D) H' (upd Hs' D (.lst ws)) (.lst ys) (e1.trans ⟨fun a u q => ?_, e'.same, e'.le.trans sm, fun b u q nt q2 => ?_⟩) (.lst upd_same (tr.mono sm)) (hR ys pr)
      · by_cases ca : a = D
        · subst ca
          rw [upd_same] at q
          cases q
          exact .inr hD
        · rw [upd_ne ca] at q
          exact e'.nu a u q
      · rw [upd_ne (ne_of_none q nD)]
        exact e'.out b u q nt q2
/-- with exact values -/
theorem paired_eq {α β : Type} {g : α → β} : ∀ {l : List α} {ys : List β}, Paired (fun a y => g a = y) l ys → ys = l.map g
  | _, _, .nil => rfl
  | _, _, .cons h t => by rw [List.map_cons, ← h, ← paired_eq t]
theorem evp_lcE {α : Type} {l : List α} {enc : α → Dat} {wi : TI} {gt : TG} {vs : List Nat} (f : α → Bool) (g : α → Dat) (hw : EvI K m wi δ (Eq (l.map enc))) (hv : ∀ v ∈ vs, Offm m v) (hl : l.length ≤ 100000)
    (hs : ∀ x, x ∈ l → ∃ δx js, EvG K m gt (enc x) (wipeD δ vs) δx js ∧ (∀ j ∈ js, j ∈ vs) ∧ EvB K m tt δx (f x) ∧ (f x = true → EvP K m te δx (Eq (g x)))) : EvP K m (tLc wi gt tt te vs) δ (Eq (.lst ((l.filter f).map g))) :=
  evp_lc f (fun a y => g a = y) hw hv hl hs fun ys p => by rw [paired_eq p]
end
end Tf
/-! text TfF -/
namespace Tf
open PySem PySem.Spec PyProof.Rows L2

/-! ### a def by its body -/
def startD (n : Nat) (ds : List Dat) : De := ds.map (fun d => some (.imm d)) ++ List.replicate (n - ds.length) none
theorem start_SR {K : PySem.W.Frag} {N : List Str} {vs : List V} {ds : List Dat} {Hs H : Hp} (sm : Same Hs H) (tr : TrL K Hs vs ds) : SR K none Hs H Hs H (start N vs) (startD N.length ds) := by
  have ln := tr.length
  refine ⟨.refl, sm, ?_, fun i s e => ?_, fun i j s t v ne e o e2 o2 f1 f2 => ?_⟩
  · unfold L2.start startD
    rw [List.length_append, List.length_append, List.length_map, List.length_map, List.length_replicate, List.length_replicate, ln]
  · unfold startD at e
    by_cases c : i < ds.length
    · rw [List.getElem?_append_left (by rw [List.length_map]; exact c), List.getElem?_map] at e
      have e' : ds[i]? = some ds[i] := List.getElem?_eq_getElem c
      rw [e'] at e
      cases e
      obtain ⟨v, h1, h2⟩ := tr.get e'
      refine ⟨v, ?_, h2⟩
      unfold L2.start
      rw [List.getElem?_append_left (by rw [List.length_map, ln]; exact c), List.getElem?_map, h1]
      rfl
    · rw [List.getElem?_append_right (by rw [List.length_map]; omega)] at e
      have e' := List.mem_of_getElem? e
      rw [List.mem_replicate] at e'
      cases e'.2
  · unfold startD at e
    by_cases c : i < ds.length
    · rw [List.getElem?_append_left (by rw [List.length_map]; exact c), List.getElem?_map, List.getElem?_eq_getElem c] at e
      cases e
      cases o
    · rw [List.getElem?_append_right (by rw [List.length_map]; omega)] at e
      have e' := List.mem_of_getElem? e
      rw [List.mem_replicate] at e'
      cases e'.2
theorem run_D {K : PySem.W.Frag} {α : Type} {enc : α → List Dat} {pre : α → Prop} {post : α → Dat → Prop} {N : List Str} {vs : List V} {H : Hp} {Q : VK} {E : XK} {t : TS} (h : SpD K enc pre post vs H Q E)
    (ht : ∀ a, pre a → T K none t (startD N.length (enc a)) { nx := fun _ => post a .non, rt := post a }) : t { nx := fun _ H' => Q .non H', rt := Q } (start N vs) H := by
  obtain ⟨a, Hs, sm, tr, pa, q⟩ := h
  exact ht a pa Hs H Hs H _ _ (start_SR sm tr) (fun σ' H' Hs' δ' r' _ p => q .non H' Hs' .non r'.ext .non p) (fun v H' Hs' d e t p _ => q v H' Hs' d e t p) (fun _ _ _ _ _ _ p => p.elim) fun _ _ _ _ _ _ p => p.elim

/-! ### great ints -/
/-- below 2 ^ n, on both sides -/
def Lt2 (i : Int) (n : Nat) : Prop := i.natAbs < 2 ^ n
def CMulH (i j : Int) : Prop := ∃ a b, Lt2 i a ∧ Lt2 j b ∧ a + b ≤ 100000000
theorem log2_le_of {i : Int} {a : Nat} (h : Lt2 i a) : i.natAbs.log2 ≤ a := by
  by_cases z : i.natAbs = 0
  · rw [z]; exact Nat.zero_le _
  · exact Nat.le_of_lt ((Nat.log2_lt z).mpr h)
theorem CMulH.ok {i j : Int} (h : CMulH i j) : IntMulOk i j := by
  obtain ⟨a, b, h1, h2, h3⟩ := h
  have l1 := log2_le_of h1
  have l2 := log2_le_of h2
  have bits : ∀ x : Int, Builtin.Int.intBits x ≤ x.natAbs.log2 + 1 := fun x => by unfold Builtin.Int.intBits; split <;> omega
  have b1 := bits i
  have b2 := bits j
  have e : bitsLine = 134217728 := by decide
  intro z
  have z2 := (Bool.and_eq_true_iff.mp z).2
  unfold Builtin.Int.intTooBig at z2
  have z3 := of_decide_eq_true z2
  omega
section
variable {X : Cx}
theorem op_mulH : OpR X (binaryOp .Mult) (rI CMulH fun i j => .int (i * j)) := opI fun _ _ _ _ _ _ _ hc q => mul_int q hc.ok
/-- where a division of any length is done by the text of the machine itself -/
structure Big (X : Cx) : Prop where
  seer : X.base.NoSeer
  tree : X.prog.given.tree = none
  deep : X.A.depth + Builtin.pylongFrames < recursionLimit
  stk : ∃ env l, X.stack = env :: l ∧ env.scope.isGenerator = false ∧ env.scope.isCoroutine = false ∧ env.builtins = builtinsNs ∧ env.globals = mainGlobals
theorem Big.blk (B : Big X) {s : Shared} {H : Hp} {sc : Scope} {ce : Env} {fp : List Addr} : Big (X.blk s H sc ce fp) := ⟨B.seer, B.tree, B.deep, B.stk⟩
theorem ixK {K : PySem.W.Frag} (hK : X.K = K := by rfl) : IxR X (rIx K) := hK ▸ ix_seq
theorem op_fdivB (B : Big X) : OpR X (binaryOp .FloorDiv) (rI (fun _ j => 0 < j) fun i j => .int (i / j)) := by
  rintro pins s σ H x y v u Q I rx ry ⟨i, j, rfl, rfl, hj, q⟩
  obtain ⟨t, rfl⟩ := rx
  obtain ⟨t', rfl⟩ := ry
  have hj : (0 : Int) < j := hj
  obtain ⟨env, l, e1, e2, e3, e4, e5⟩ := B.stk
  have hfr : X.A.frames = some (env :: l) := I.ok.frames.trans (congrArg some e1)
  refine floordiv_int (by omega) ⟨.int (i.fdiv j), H, I.tok _, ⟨_, rfl⟩, ?_⟩ (.inr (PylongRoom.of I.nolimit B.deep (SeerAt.of (B.seer.keeps I.bk) B.tree hfr e2 e3 e4 e5)))
  rw [Int.fdiv_eq_ediv_of_nonneg i (by omega)]
  exact q
def rLcm : List V → Hp → VK → Prop := fun vs H Q => ∃ a b : Int, vs = [.int a, .int b] ∧ Lt2 a 6000 ∧ Lt2 b 6000 ∧ Q (.int ((Nat.lcm a.natAbs b.natAbs : Nat) : Int)) H
theorem lcm_lt {a b n k : Nat} (ha : a < 2 ^ n) (hb : b < 2 ^ k) : Nat.lcm a b < 2 ^ (n + k) := by
  by_cases z : a = 0
  · rw [z, Nat.lcm_zero_left]; exact Nat.two_pow_pos _
  by_cases w : b = 0
  · rw [w, Nat.lcm_zero_right]; exact Nat.two_pow_pos _
  have h : Nat.lcm a b ≤ a * b := Nat.le_of_dvd (Nat.mul_pos (Nat.pos_of_ne_zero z) (Nat.pos_of_ne_zero w)) (Nat.lcm_dvd (Nat.dvd_mul_right _ _) (Nat.dvd_mul_left _ _))
  rw [Nat.pow_add]
  exact Nat.lt_of_le_of_lt h (Nat.mul_lt_mul'' ha hb)
theorem cr_lcm : CallR X (.builtin "math.lcm") rLcm := by
  rintro pins s σ H vs us Q I r ⟨a, b, rfl, ha, hb, q⟩
  obtain ⟨t, u, rfl⟩ := Vals.int2 r
  have l1 : Nat.lcm 1 a.natAbs = a.natAbs := by simp [Nat.lcm]
  have la := log2_le_of ha
  have lb := log2_le_of hb
  have m1 : max 1 a.natAbs < 2 ^ 6000 := Nat.max_lt.mpr ⟨Nat.one_lt_two_pow (by decide), ha⟩
  have m2 : max a.natAbs b.natAbs < 2 ^ 6000 := Nat.max_lt.mpr ⟨ha, hb⟩
  have low : ∀ n : Nat, n < 2 ^ 6000 → ¬ n.log2 / 30 + 1 > 450 := fun n h => by
    have : n.log2 ≤ 6000 := by
      by_cases z : n = 0
      · rw [z]; exact Nat.zero_le _
      · exact Nat.le_of_lt ((Nat.log2_lt z).mpr h)
    omega
  have h3 := lcm_lt ha hb
  have hl : (((Nat.lcm a.natAbs b.natAbs : Nat) : Int)).natAbs.log2 < bitsLine := by
    have e : bitsLine = 134217728 := by decide
    have e2 : (((Nat.lcm a.natAbs b.natAbs : Nat) : Int)).natAbs = Nat.lcm a.natAbs b.natAbs := Int.natAbs_natCast _
    rw [e2, e]
    by_cases z : Nat.lcm a.natAbs b.natAbs = 0
    · rw [z]; decide
    · have := (Nat.log2_lt z).mpr h3
      omega
  refine PySem.call_function_meets PySem.W.MGF.kind_lcm PySem.W.MGF.plain_lcm PySem.W.MGF.entry_lcm (PySem.W.MGF.args_lcm _ _) (PySem.W.mg_run_lcm a t b u (low _ m1) (low _ m2) (by rw [l1]; exact hl)).meets ?_
  rw [l1]
  exact ⟨.int _, H, I.tok _, ⟨_, rfl⟩, q⟩
end
end Tf
/-! text TfT -/
namespace Tf
open PySem PySem.Spec PyProof.Rows L2
/-! ### the text by places -/
def topS (i : Nat) : Stmt := PySem.Challenge.pw_takenforms_k03_solve_whole.main.body.getD i (.Pass ⟨0, 0, 0, 0⟩)
abbrev sAmount : Stmt := topS 5
abbrev nAmount : List Str := ["top", "bottom", "divisor"]
theorem scAmount : FnScope nAmount ["top", "bottom"] (defScope sAmount) := ⟨rfl, rfl, rfl, by decide +kernel, rfl, by decide +kernel, by decide +kernel⟩
abbrev sPlus : Stmt := topS 6
abbrev nPlus : List Str := ["one", "two"]
theorem scPlus : FnScope nPlus ["one", "two"] (defScope sPlus) := ⟨rfl, rfl, rfl, by decide +kernel, rfl, by decide +kernel, by decide +kernel⟩
abbrev sTimes : Stmt := topS 7
abbrev nTimes : List Str := ["one", "two"]
theorem scTimes : FnScope nTimes ["one", "two"] (defScope sTimes) := ⟨rfl, rfl, rfl, by decide +kernel, rfl, by decide +kernel, by decide +kernel⟩
abbrev sOver : Stmt := topS 8
abbrev nOver : List Str := ["one", "two"]
theorem scOver : FnScope nOver ["one", "two"] (defScope sOver) := ⟨rfl, rfl, rfl, by decide +kernel, rfl, by decide +kernel, by decide +kernel⟩
abbrev sCompare : Stmt := topS 9
abbrev nCompare : List Str := ["one", "two", "left", "right"]
theorem scCompare : FnScope nCompare ["one", "two"] (defScope sCompare) := ⟨rfl, rfl, rfl, by decide +kernel, rfl, by decide +kernel, by decide +kernel⟩
abbrev sConstantSum : Stmt := topS 13
abbrev nConstantSum : List Str := ["one"]
theorem scConstantSum : FnScope nConstantSum ["one"] (defScope sConstantSum) := ⟨rfl, rfl, rfl, by decide +kernel, rfl, by decide +kernel, by decide +kernel⟩
abbrev sAddSums : Stmt := topS 14
abbrev nAddSums : List Str := ["one", "two", "found", "address", "factor", "place", "terms"]
theorem scAddSums : FnScope nAddSums ["one", "two"] (defScope sAddSums) := ⟨rfl, rfl, rfl, by decide +kernel, rfl, by decide +kernel, by decide +kernel⟩
abbrev sTimesSum : Stmt := topS 15
abbrev nTimesSum : List Str := ["factor", "one", "terms", "address", "inner"]
theorem scTimesSum : FnScope nTimesSum ["factor", "one"] (defScope sTimesSum) := ⟨rfl, rfl, rfl, by decide +kernel, rfl, by decide +kernel, by decide +kernel⟩
abbrev sSumValue : Stmt := topS 16
abbrev nSumValue : List Str := ["one", "point", "total", "address", "factor"]
theorem scSumValue : FnScope nSumValue ["one", "point"] (defScope sSumValue) := ⟨rfl, rfl, rfl, by decide +kernel, rfl, by decide +kernel, by decide +kernel⟩
abbrev sHolds : Stmt := topS 20
abbrev nHolds : List Str := ["bound", "point", "value"]
theorem scHolds : FnScope nHolds ["bound", "point"] (defScope sHolds) := ⟨rfl, rfl, rfl, by decide +kernel, rfl, by decide +kernel, by decide +kernel⟩
abbrev sRefutes : Stmt := topS 21
abbrev nRefutes : List Str := ["bounds", "weights", "total", "strict", "bound", "weight"]
theorem scRefutes : FnScope nRefutes ["bounds", "weights"] (defScope sRefutes) := ⟨rfl, rfl, rfl, by decide +kernel, rfl, by decide +kernel, by decide +kernel⟩
abbrev sWholeScale : Stmt := topS 22
abbrev nWholeScale : List Str := ["one", "scale", "term"]
theorem scWholeScale : FnScope nWholeScale ["one"] (defScope sWholeScale) := ⟨rfl, rfl, rfl, by decide +kernel, rfl, by decide +kernel, by decide +kernel⟩
abbrev sSlackRow : Stmt := topS 23
abbrev nSlackRow : List Str := ["bound", "slack", "numbers", "scale", "constant", "row", "address", "factor"]
theorem scSlackRow : FnScope nSlackRow ["bound", "slack", "numbers"] (defScope sSlackRow) := ⟨rfl, rfl, rfl, by decide +kernel, rfl, by decide +kernel, by decide +kernel⟩
abbrev sSlackToMend : Stmt := topS 24
abbrev nSlackToMend : List Str := ["table", "first", "quantity", "row"]
theorem scSlackToMend : FnScope nSlackToMend ["table", "first"] (defScope sSlackToMend) := ⟨rfl, rfl, rfl, by decide +kernel, rfl, by decide +kernel, by decide +kernel⟩
abbrev sQuantityToChange : Stmt := topS 25
abbrev nQuantityToChange : List Str := ["row", "first", "quantity"]
theorem scQuantityToChange : FnScope nQuantityToChange ["row", "first"] (defScope sQuantityToChange) := ⟨rfl, rfl, rfl, by decide +kernel, rfl, by decide +kernel, by decide +kernel⟩
abbrev sWithout : Stmt := topS 26
abbrev nWithout : List Str := ["row", "pivot", "quantity", "size", "factor", "found", "place", "divisor"]
theorem scWithout : FnScope nWithout ["row", "pivot", "quantity"] (defScope sWithout) := ⟨rfl, rfl, rfl, by decide +kernel, rfl, by decide +kernel, by decide +kernel⟩
abbrev sExchanged : Stmt := topS 27
abbrev nExchanged : List Str := ["table", "slack", "quantity", "pivot", "found", "other", "row", "place"]
theorem scExchanged : FnScope nExchanged ["table", "slack", "quantity"] (defScope sExchanged) := ⟨rfl, rfl, rfl, by decide +kernel, rfl, by decide +kernel, by decide +kernel⟩
abbrev sTinyAmount : Stmt := topS 28
abbrev nTinyAmount : List Str := ["table", "first", "found", "quantity", "row", "most"]
theorem scTinyAmount : FnScope nTinyAmount ["table", "first"] (defScope sTinyAmount) := ⟨rfl, rfl, rfl, by decide +kernel, rfl, by decide +kernel, by decide +kernel⟩
abbrev sPointOf : Stmt := topS 29
abbrev nPointOf : List Str := ["table", "numbers", "first", "tiny", "point", "address", "quantity", "row", "value"]
theorem scPointOf : FnScope nPointOf ["table", "numbers", "first"] (defScope sPointOf) := ⟨rfl, rfl, rfl, by decide +kernel, rfl, by decide +kernel, by decide +kernel⟩
abbrev sWeightsOf : Stmt := topS 30
abbrev nWeightsOf : List Str := ["row", "bounds", "first", "weights", "index", "bound"]
theorem scWeightsOf : FnScope nWeightsOf ["row", "bounds", "first"] (defScope sWeightsOf) := ⟨rfl, rfl, rfl, by decide +kernel, rfl, by decide +kernel, by decide +kernel⟩
abbrev sSolve : Stmt := topS 31
abbrev nSolve : List Str := ["bounds", "addresses", "numbers", "first", "table", "slack", "quantity", "address", "bound", "index", "term"]
theorem scSolve : FnScope nSolve ["bounds"] (defScope sSolve) := ⟨rfl, rfl, rfl, by decide +kernel, rfl, by decide +kernel, by decide +kernel⟩
abbrev sLawWhole : Stmt := topS 33
abbrev nLawWhole : List Str := ["_law_value_here"]
theorem scLawWhole : FnScope nLawWhole ["_law_value_here"] (defScope sLawWhole) := ⟨rfl, rfl, rfl, by decide +kernel, rfl, by decide +kernel, by decide +kernel⟩
abbrev sLawCell : Stmt := topS 34
abbrev nLawCell : List Str := ["_law_script", "_law_k", "_law_seed", "_law_cell_here"]
theorem scLawCell : FnScope nLawCell ["_law_script", "_law_k"] (defScope sLawCell) := ⟨rfl, rfl, rfl, by decide +kernel, rfl, by decide +kernel, by decide +kernel⟩
abbrev sLawRow : Stmt := topS 35
abbrev nLawRow : List Str := ["_law_cell_here", "_law_many_here", "_law_row_here", "_law_rest", "_law_seed", "_law_k", "_law_digit"]
theorem scLawRow : FnScope nLawRow ["_law_cell_here", "_law_many_here"] (defScope sLawRow) := ⟨rfl, rfl, rfl, by decide +kernel, rfl, by decide +kernel, by decide +kernel⟩
abbrev sLawAmount : Stmt := topS 36
abbrev nLawAmount : List Str := ["_law_top", "_law_low", "_law_one", "_law_two", "_law_k", "_law_rest", "_law_side"]
theorem scLawAmount : FnScope nLawAmount ["_law_top", "_law_low"] (defScope sLawAmount) := ⟨rfl, rfl, rfl, by decide +kernel, rfl, by decide +kernel, by decide +kernel⟩
abbrev sLawPlus : Stmt := topS 37
abbrev nLawPlus : List Str := ["_law_one", "_law_two"]
theorem scLawPlus : FnScope nLawPlus ["_law_one", "_law_two"] (defScope sLawPlus) := ⟨rfl, rfl, rfl, by decide +kernel, rfl, by decide +kernel, by decide +kernel⟩
abbrev sLawTimes : Stmt := topS 38
abbrev nLawTimes : List Str := ["_law_one", "_law_two"]
theorem scLawTimes : FnScope nLawTimes ["_law_one", "_law_two"] (defScope sLawTimes) := ⟨rfl, rfl, rfl, by decide +kernel, rfl, by decide +kernel, by decide +kernel⟩
abbrev sLawAdd : Stmt := topS 39
abbrev nLawAdd : List Str := ["_law_one", "_law_two", "_law_factor", "_law_found", "_law_pair", "_law_terms", "_law_address"]
theorem scLawAdd : FnScope nLawAdd ["_law_one", "_law_two", "_law_factor"] (defScope sLawAdd) := ⟨rfl, rfl, rfl, by decide +kernel, rfl, by decide +kernel, by decide +kernel⟩
abbrev sLawWord : Stmt := topS 40
abbrev nLawWord : List Str := ["_law_row_here", "_law_at", "_law_size", "_law_few", "_law_signs", "_law_word_here", "_law_k"]
theorem scLawWord : FnScope nLawWord ["_law_row_here", "_law_at", "_law_size", "_law_few"] (defScope sLawWord) := ⟨rfl, rfl, rfl, by decide +kernel, rfl, by decide +kernel, by decide +kernel⟩
abbrev sLawAddresses : Stmt := topS 41
abbrev nLawAddresses : List Str := ["_law_row_here", "_law_name", "_law_other", "_law_near", "_law_far", "_law_menu", "_law_found", "_law_k", "_law_address"]
theorem scLawAddresses : FnScope nLawAddresses ["_law_row_here"] (defScope sLawAddresses) := ⟨rfl, rfl, rfl, by decide +kernel, rfl, by decide +kernel, by decide +kernel⟩
abbrev sLawNumber : Stmt := topS 42
abbrev nLawNumber : List Str := ["_law_row_here", "_law_at", "_law_many_here", "_law_number_here", "_law_k"]
theorem scLawNumber : FnScope nLawNumber ["_law_row_here", "_law_at", "_law_many_here"] (defScope sLawNumber) := ⟨rfl, rfl, rfl, by decide +kernel, rfl, by decide +kernel, by decide +kernel⟩
abbrev sLawShare : Stmt := topS 43
abbrev nLawShare : List Str := ["_law_row_here", "_law_k", "_law_size", "_law_lows", "_law_top"]
theorem scLawShare : FnScope nLawShare ["_law_row_here", "_law_k", "_law_size"] (defScope sLawShare) := ⟨rfl, rfl, rfl, by decide +kernel, rfl, by decide +kernel, by decide +kernel⟩
abbrev sLawDrawn : Stmt := topS 44
abbrev nLawDrawn : List Str := ["_law_script", "_law_k", "_law_group", "_law_size", "_law_row_here", "_law_terms", "_law_j", "_law_one"]
theorem scLawDrawn : FnScope nLawDrawn ["_law_script", "_law_k", "_law_group", "_law_size"] (defScope sLawDrawn) := ⟨rfl, rfl, rfl, by decide +kernel, rfl, by decide +kernel, by decide +kernel⟩
abbrev sLawValue : Stmt := topS 45
abbrev nLawValue : List Str := ["_law_one", "_law_point", "_law_total", "_law_pair"]
theorem scLawValue : FnScope nLawValue ["_law_one", "_law_point"] (defScope sLawValue) := ⟨rfl, rfl, rfl, by decide +kernel, rfl, by decide +kernel, by decide +kernel⟩
abbrev sLawFitted : Stmt := topS 46
abbrev nLawFitted : List Str := ["_law_one", "_law_point", "_law_gap_here", "_law_value_here"]
theorem scLawFitted : FnScope nLawFitted ["_law_one", "_law_point", "_law_gap_here"] (defScope sLawFitted) := ⟨rfl, rfl, rfl, by decide +kernel, rfl, by decide +kernel, by decide +kernel⟩
abbrev sLawGap : Stmt := topS 47
abbrev nLawGap : List Str := ["_law_row_here", "_law_strict", "_law_gap_here"]
theorem scLawGap : FnScope nLawGap ["_law_row_here", "_law_strict"] (defScope sLawGap) := ⟨rfl, rfl, rfl, by decide +kernel, rfl, by decide +kernel, by decide +kernel⟩
abbrev sLawShift : Stmt := topS 48
abbrev nLawShift : List Str := ["_law_row_here"]
theorem scLawShift : FnScope nLawShift ["_law_row_here"] (defScope sLawShift) := ⟨rfl, rfl, rfl, by decide +kernel, rfl, by decide +kernel, by decide +kernel⟩
abbrev sLawAround : Stmt := topS 49
abbrev nLawAround : List Str := ["_law_sums", "_law_rows", "_law_point", "_law_found", "_law_k", "_law_strict"]
theorem scLawAround : FnScope nLawAround ["_law_sums", "_law_rows", "_law_point"] (defScope sLawAround) := ⟨rfl, rfl, rfl, by decide +kernel, rfl, by decide +kernel, by decide +kernel⟩
abbrev sLawHidden : Stmt := topS 50
abbrev nLawHidden : List Str := ["_law_sums", "_law_rows", "_law_more", "_law_groups", "_law_last", "_law_total", "_law_found", "_law_k", "_law_weight", "_law_closing"]
theorem scLawHidden : FnScope nLawHidden ["_law_sums", "_law_rows", "_law_more", "_law_groups"] (defScope sLawHidden) := ⟨rfl, rfl, rfl, by decide +kernel, rfl, by decide +kernel, by decide +kernel⟩
abbrev sLawThin : Stmt := topS 51
abbrev nLawThin : List Str := ["_law_sums", "_law_rows", "_law_more", "_law_point", "_law_groups", "_law_pairs", "_law_found", "_law_k", "_law_one", "_law_j"]
theorem scLawThin : FnScope nLawThin ["_law_sums", "_law_rows", "_law_more", "_law_point", "_law_groups"] (defScope sLawThin) := ⟨rfl, rfl, rfl, by decide +kernel, rfl, by decide +kernel, by decide +kernel⟩
abbrev sLawBox : Stmt := topS 52
abbrev nLawBox : List Str := ["_law_sums", "_law_rows", "_law_addresses_here", "_law_point", "_law_found", "_law_k", "_law_one", "_law_gap_here"]
theorem scLawBox : FnScope nLawBox ["_law_sums", "_law_rows", "_law_addresses_here", "_law_point"] (defScope sLawBox) := ⟨rfl, rfl, rfl, by decide +kernel, rfl, by decide +kernel, by decide +kernel⟩
abbrev sLawCycle : Stmt := topS 53
abbrev nLawCycle : List Str := ["_law_sums", "_law_rows", "_law_addresses_here", "_law_total", "_law_found", "_law_k", "_law_one", "_law_constant"]
theorem scLawCycle : FnScope nLawCycle ["_law_sums", "_law_rows", "_law_addresses_here"] (defScope sLawCycle) := ⟨rfl, rfl, rfl, by decide +kernel, rfl, by decide +kernel, by decide +kernel⟩
abbrev sLawMultiples : Stmt := topS 54
abbrev nLawMultiples : List Str := ["_law_sums", "_law_rows", "_law_half", "_law_found", "_law_k", "_law_one", "_law_factor"]
theorem scLawMultiples : FnScope nLawMultiples ["_law_sums", "_law_rows"] (defScope sLawMultiples) := ⟨rfl, rfl, rfl, by decide +kernel, rfl, by decide +kernel, by decide +kernel⟩
abbrev sLawFree : Stmt := topS 55
abbrev nLawFree : List Str := ["_law_sums", "_law_rows", "_law_bare", "_law_found", "_law_k", "_law_one"]
theorem scLawFree : FnScope nLawFree ["_law_sums", "_law_rows", "_law_bare"] (defScope sLawFree) := ⟨rfl, rfl, rfl, by decide +kernel, rfl, by decide +kernel, by decide +kernel⟩
abbrev sLawTurned : Stmt := topS 56
abbrev nLawTurned : List Str := ["_law_lot", "_law_rows", "_law_size", "_law_turn", "_law_found", "_law_k", "_law_factor", "_law_one"]
theorem scLawTurned : FnScope nLawTurned ["_law_lot", "_law_rows", "_law_size", "_law_turn"] (defScope sLawTurned) := ⟨rfl, rfl, rfl, by decide +kernel, rfl, by decide +kernel, by decide +kernel⟩
abbrev sLawMany : Stmt := topS 57
abbrev nLawMany : List Str := ["_law_plan", "_law_kind", "_law_size", "_law_few", "_law_split", "_law_limit"]
theorem scLawMany : FnScope nLawMany ["_law_plan", "_law_kind", "_law_size", "_law_few", "_law_split"] (defScope sLawMany) := ⟨rfl, rfl, rfl, by decide +kernel, rfl, by decide +kernel, by decide +kernel⟩
abbrev sLawEntries : Stmt := topS 58
abbrev nLawEntries : List Str := ["_law_script", "_law_plan", "_law_every", "_law_size", "_law_point", "_law_kind", "_law_groups", "_law_many_here", "_law_drawn_here", "_law_sums", "_law_rows", "_law_more", "_law_found", "_law_k", "_law_pair"]
theorem scLawEntries : FnScope nLawEntries ["_law_script", "_law_plan", "_law_every", "_law_size", "_law_point"] (defScope sLawEntries) := ⟨rfl, rfl, rfl, by decide +kernel, rfl, by decide +kernel, by decide +kernel⟩
abbrev sLawIsAmount : Stmt := topS 59
abbrev nLawIsAmount : List Str := ["_law_value_here"]
theorem scLawIsAmount : FnScope nLawIsAmount ["_law_value_here"] (defScope sLawIsAmount) := ⟨rfl, rfl, rfl, by decide +kernel, rfl, by decide +kernel, by decide +kernel⟩
abbrev sLawKeeps : Stmt := topS 60
abbrev nLawKeeps : List Str := ["_law_bounds", "_law_point", "_law_bound", "_law_value_here"]
theorem scLawKeeps : FnScope nLawKeeps ["_law_bounds", "_law_point"] (defScope sLawKeeps) := ⟨rfl, rfl, rfl, by decide +kernel, rfl, by decide +kernel, by decide +kernel⟩
abbrev sLawRefutes : Stmt := topS 61
abbrev nLawRefutes : List Str := ["_law_bounds", "_law_weights", "_law_total", "_law_strict", "_law_k"]
theorem scLawRefutes : FnScope nLawRefutes ["_law_bounds", "_law_weights"] (defScope sLawRefutes) := ⟨rfl, rfl, rfl, by decide +kernel, rfl, by decide +kernel, by decide +kernel⟩
abbrev sLawOccurring : Stmt := topS 62
abbrev nLawOccurring : List Str := ["_law_bounds", "_law_found", "_law_bound", "_law_pair"]
theorem scLawOccurring : FnScope nLawOccurring ["_law_bounds"] (defScope sLawOccurring) := ⟨rfl, rfl, rfl, by decide +kernel, rfl, by decide +kernel, by decide +kernel⟩
abbrev sLawRight : Stmt := topS 63
abbrev nLawRight : List Str := ["_law_actual", "_law_bounds", "_law_point", "_law_occurring_here", "_law_address", "_law_one"]
theorem scLawRight : FnScope nLawRight ["_law_actual", "_law_bounds"] (defScope sLawRight) := ⟨rfl, rfl, rfl, by decide +kernel, rfl, by decide +kernel, by decide +kernel⟩
abbrev sLawListed : Stmt := topS 64
abbrev nLawListed : List Str := ["_law_value_here", "_law_row_here", "_law_at", "_law_parts", "_law_k"]
theorem scLawListed : FnScope nLawListed ["_law_value_here", "_law_row_here", "_law_at"] (defScope sLawListed) := ⟨rfl, rfl, rfl, by decide +kernel, rfl, by decide +kernel, by decide +kernel⟩
abbrev sLawRuined : Stmt := topS 65
abbrev nLawRuined : List Str := ["_law_value_here", "_law_part"]
theorem scLawRuined : FnScope nLawRuined ["_law_value_here"] (defScope sLawRuined) := ⟨rfl, rfl, rfl, by decide +kernel, rfl, by decide +kernel, by decide +kernel⟩
abbrev sLawSolved : Stmt := topS 66
abbrev nLawSolved : List Str := ["_law_bounds", "_law_lists", "_law_given", "_law_actual", "_law_point", "_law_told", "_law_address"]
theorem scLawSolved : FnScope nLawSolved ["_law_bounds", "_law_lists"] (defScope sLawSolved) := ⟨rfl, rfl, rfl, by decide +kernel, rfl, by decide +kernel, by decide +kernel⟩
abbrev sLawConfirmed : Stmt := topS 67
abbrev nLawConfirmed : List Str := ["_law_bounds", "_law_told", "_law_point", "_law_pair", "_law_bound"]
theorem scLawConfirmed : FnScope nLawConfirmed ["_law_bounds", "_law_told"] (defScope sLawConfirmed) := ⟨rfl, rfl, rfl, by decide +kernel, rfl, by decide +kernel, by decide +kernel⟩
abbrev sLaw : Stmt := topS 68
abbrev nLaw : List Str := ["_law_script", "_law_plan", "_law_size", "_law_few", "_law_every", "_law_row_here", "_law_point", "_law_k", "_law_lot", "_law_bounds", "_law_weights", "_law_systems", "_law_lists", "_law_told", "_law_entry"]
theorem scLaw : FnScope nLaw ["_law_script"] (defScope sLaw) := ⟨rfl, rfl, rfl, by decide +kernel, rfl, by decide +kernel, by decide +kernel⟩
/-- a def of the text as the top has left it -/
def At (K : PySem.W.Frag) (mg : Str → Option Value) (x : Str) (st : Stmt) (dvs : List V) : Prop := ∃ (f : Addr) (fd : FuncData), mg x = some (.ref f) ∧ FunD K x x (defArgs st) (defBody st) (defScope st) dvs [] f fd
/-- what the top has left -/
structure Tx (P : Program) (K : PySem.W.Frag) (mg : Str → Option Value) (base : Heap) : Prop where
  seer : base.NoSeer
  tree : P.given.tree = none
  d_amount : At K mg "amount" sAmount [.int 1]
  d_plus : At K mg "plus" sPlus []
  d_times : At K mg "times" sTimes []
  d_over : At K mg "over" sOver []
  d_compare : At K mg "compare" sCompare []
  d_constant_sum : At K mg "constant_sum" sConstantSum []
  d_add_sums : At K mg "add_sums" sAddSums []
  d_times_sum : At K mg "times_sum" sTimesSum []
  d_sum_value : At K mg "sum_value" sSumValue []
  d_holds : At K mg "holds" sHolds []
  d_refutes : At K mg "refutes" sRefutes []
  d_whole_scale : At K mg "whole_scale" sWholeScale []
  d_slack_row : At K mg "slack_row" sSlackRow []
  d_slack_to_mend : At K mg "slack_to_mend" sSlackToMend []
  d_quantity_to_change : At K mg "quantity_to_change" sQuantityToChange []
  d_without : At K mg "without" sWithout []
  d_exchanged : At K mg "exchanged" sExchanged []
  d_tiny_amount : At K mg "tiny_amount" sTinyAmount []
  d_point_of : At K mg "point_of" sPointOf []
  d_weights_of : At K mg "weights_of" sWeightsOf []
  d_solve : At K mg "solve" sSolve []
  d_law_whole : At K mg "_law_whole" sLawWhole []
  d_law_cell : At K mg "_law_cell" sLawCell []
  d_law_row : At K mg "_law_row" sLawRow []
  d_law_amount : At K mg "_law_amount" sLawAmount []
  d_law_plus : At K mg "_law_plus" sLawPlus []
  d_law_times : At K mg "_law_times" sLawTimes []
  d_law_add : At K mg "_law_add" sLawAdd []
  d_law_word : At K mg "_law_word" sLawWord []
  d_law_addresses : At K mg "_law_addresses" sLawAddresses []
  d_law_number : At K mg "_law_number" sLawNumber []
  d_law_share : At K mg "_law_share" sLawShare []
  d_law_drawn : At K mg "_law_drawn" sLawDrawn []
  d_law_value : At K mg "_law_value" sLawValue []
  d_law_fitted : At K mg "_law_fitted" sLawFitted []
  d_law_gap : At K mg "_law_gap" sLawGap []
  d_law_shift : At K mg "_law_shift" sLawShift []
  d_law_around : At K mg "_law_around" sLawAround []
  d_law_hidden : At K mg "_law_hidden" sLawHidden []
  d_law_thin : At K mg "_law_thin" sLawThin []
  d_law_box : At K mg "_law_box" sLawBox []
  d_law_cycle : At K mg "_law_cycle" sLawCycle []
  d_law_multiples : At K mg "_law_multiples" sLawMultiples []
  d_law_free : At K mg "_law_free" sLawFree []
  d_law_turned : At K mg "_law_turned" sLawTurned []
  d_law_many : At K mg "_law_many" sLawMany []
  d_law_entries : At K mg "_law_entries" sLawEntries []
  d_law_is_amount : At K mg "_law_is_amount" sLawIsAmount []
  d_law_keeps : At K mg "_law_keeps" sLawKeeps []
  d_law_refutes : At K mg "_law_refutes" sLawRefutes []
  d_law_occurring : At K mg "_law_occurring" sLawOccurring []
  d_law_right : At K mg "_law_right" sLawRight []
  d_law_listed : At K mg "_law_listed" sLawListed []
  d_law_ruined : At K mg "_law_ruined" sLawRuined []
  d_law_solved : At K mg "_law_solved" sLawSolved []
  d_law_confirmed : At K mg "_law_confirmed" sLawConfirmed []
  d_law : At K mg "law" sLaw []
  n_list : mg "list" = none
  n_tuple : mg "tuple" = none
  n_sorted : mg "sorted" = none
  n_len : mg "len" = none
  n_zip : mg "zip" = none
  n_enumerate : mg "enumerate" = none
  n_range : mg "range" = none
  n_int : mg "int" = none
  n_abs : mg "abs" = none
  n_isinstance : mg "isinstance" = none
  n_min : mg "min" = none
  n_max : mg "max" = none
  n_bool : mg "bool" = none
  n_dict : mg "dict" = none
  mgcd : mg "gcd" = some (.builtin "math.gcd")
  mlcm : mg "lcm" = some (.builtin "math.lcm")
  mUNIT : ∃ t, mg "UNIT" = some (.int 0 t)
  mTINY : ∃ t, mg "TINY" = some (.int 1 t)
  mZERO : ∃ a, mg "ZERO" = some (.ref a) ∧ ∀ H, SqT K H a [.int 0, .int 1]
  mONE : ∃ a, mg "ONE" = some (.ref a) ∧ ∀ H, SqT K H a [.int 1, .int 1]
/-- a def that keeps its promise, by its name; dvs: the defaults that fill up -/
structure Cal (P : Program) (w : World) (K : PySem.W.Frag) (mg : Str → Option Value) (base : Heap) (k : Nat) (x : Str) (ps : List Str) (dvs : List V) (sp : Sp) : Prop where
  ex : ∃ (f : Addr) (fd : FuncData) (ds : List Value), mg x = some (.ref f) ∧ PySem.W.keepIn K (.ref f) = true ∧ Vals dvs ds ∧ Binds K fd ps ds ∧ FnOk P w K mg base CX0 k f fd ps sp
theorem pe_cal {X : Cx} {k : Nat} {x : Str} {ps : List Str} {dvs : List V} {sp : Sp} {p pos : Pos} {e : Expr} {es : List Expr} {t : TA} (C : Cal X.prog X.w X.K X.mg X.base k x ps dvs sp) (hr : Room k X.A) (hg : Gl X x) (ha : PA X (e :: es) t)
    (hdb : (x == ("__debug__" : Str)) = false := by decide) (he : starEach (e :: es) X.env = (false, eval e X.env) :: starEach es X.env := by rfl) (hpl : (backTo pos (starEach es X.env)).any (·.1) = false := by rfl) :
    PE X (.Call (.Name x p) (e :: es) [] pos) (tCall sp dvs E0 t) := by
  obtain ⟨f, fd, ds, h1, h2, h3, h4, h5⟩ := C.ex
  exact pe_call h5 hr hg h1 h2 h4 h3 pass0 ha hdb he hpl
/-- a global that is an int, a tuple of two ints -/
theorem pe_gint {X : Cx} {x : Str} {n : Int} {pos : Pos} (hg : Gl X x) (h : ∃ t, X.mg x = some (.int n t)) (hd : (x == ("__debug__" : Str)) = false := by decide) : PE X (.Name x pos) (tC (.int n)) := by
  obtain ⟨t, h⟩ := h
  exact pe_glob hg h ⟨t, rfl⟩ hd
def tGam (K : PySem.W.Frag) (i j : Int) : TE := fun σ H Q => ∀ a, (∀ H, SqT K H a [.int i, .int j]) → Q (.ref a) H
theorem pe_gam {X : Cx} {K : PySem.W.Frag} {x : Str} {i j : Int} {pos : Pos} (hg : Gl X x) (h : ∃ a, X.mg x = some (.ref a) ∧ ∀ H, SqT K H a [.int i, .int j]) (hd : (x == ("__debug__" : Str)) = false := by decide) : PE X (.Name x pos) (tGam K i j) := by
  obtain ⟨a, h, h2⟩ := h
  exact ⟨fun pins s σ H Q I q => (pe_glob (v := .ref a) hg h rfl hd).run pins s σ H Q I (q a h2)⟩
theorem evp_gam {K : PySem.W.Frag} {m : Option LkM} {δ : De} {i j : Int} : EvP K m (tGam K i j) δ (Eq (.tup [.int i, .int j])) := fun Hs0 H0 Hs H σ r Q k a h => k _ H Hs _ .refl (.am (h Hs)) rfl

theorem big_of {P : Program} {w : World} {K : PySem.W.Frag} {mg : Str → Option Value} {base : Heap} {N ps : List Str} {qual : Str} {scope : Scope} {f : Addr} {cd : Value} {A : Around} {outer : List Env} {s : Shared} {H : Hp} {E : XK} {k : Nat}
    (T : Tx P K mg base) (S : FnScope N ps scope) (hr : Room k (A.deeper (envOfC qual scope s.heap.objs.size f cd))) (hk : 35 ≤ k := by decide) : Big (cxOf CX0 P w K mg base N qual scope f cd A outer s H E).nox where
  seer := T.seer
  tree := T.tree
  deep := by
    have h := hr.dp
    show (A.deeper (envOfC qual scope s.heap.objs.size f cd)).depth + 100 < recursionLimit
    omega
  stk := ⟨_, _, rfl, S.gen, S.co, rfl, rfl⟩
/-- a def keeps a promise: from its body -/
theorem fnok_of {P : Program} {w : World} {K : PySem.W.Frag} {mg : Str → Option Value} {base : Heap} {x : Str} {st : Stmt} {N ps : List Str} {k : Nat} {α : Type} {enc : α → List Dat} {pre : α → Prop} {post : α → Dat → Prop} {dvs : List V} {f : Addr} {fd : FuncData}
    (F : FunD K x x (defArgs st) (defBody st) (defScope st) dvs [] f fd) (S : FnScope N ps (defScope st)) (hn : ∀ a, (enc a).length = ps.length)
    (body : ∀ (cdv : Value) (f : Addr) (A : Around) (outer : List Env) (s : Shared) (H : Hp) (Q : VK) (E : XK), Room k (A.deeper (envOfC x (defScope st) s.heap.objs.size f cdv)) →
      ∃ t, PSs (cxOf CX0 P w K mg base N x (defScope st) f cdv A outer s H E).nox (defBody st) t ∧ ∀ a, pre a → T K none t (startD N.length (enc a)) { nx := fun _ => post a .non, rt := post a }) :
    FnOk P w K mg base CX0 (k + 1) f fd ps (SpD K enc pre post) := by
  refine F.ok S (fun vs H Q E h => ?_) fun cdv A outer s H vs Q E hr h => ?_
  · obtain ⟨a, Hs, _, tr, _⟩ := h
    rw [tr.length, hn]
  · obtain ⟨t, h1, h2⟩ := body cdv f A outer s H Q E hr
    exact ⟨t, h1.nox, run_D h h2⟩
/-- a promise that tells of the returned value too: by the heap at the call and at the end -/
def SpF (K : PySem.W.Frag) {α : Type} (enc : α → List Dat) (pre : α → Prop) (post : α → Dat → Prop) (fr : Hp → Hp → V → Prop) : Sp := fun vs H Q _ => ∃ (a : α) (Hs : Hp), Same Hs H ∧ TrL K Hs vs (enc a) ∧ pre a ∧
  ∀ v H' Hs' d, Ext Hs H Hs' H' → Tr K Hs' v d → post a d → fr H Hs' v → Q v H'
theorem run_F {K : PySem.W.Frag} {α : Type} {enc : α → List Dat} {pre : α → Prop} {post : α → Dat → Prop} {fr : Hp → Hp → V → Prop} {N : List Str} {vs : List V} {H : Hp} {Q : VK} {E : XK} {t : TS} (h : SpF K enc pre post fr vs H Q E)
    (ht : ∀ a, pre a → T K none t (startD N.length (enc a)) { nx := fun _ => False, rt := post a, fr := fr }) : t { nx := fun _ H' => Q .non H', rt := Q } (start N vs) H := by
  obtain ⟨a, Hs, sm, tr, pa, q⟩ := h
  exact ht a pa Hs H Hs H _ _ (start_SR sm tr) (fun _ _ _ _ _ _ p => p.elim) (fun v H' Hs' d e t p f => q v H' Hs' d e t p f) (fun _ _ _ _ _ _ p => p.elim) fun _ _ _ _ _ _ p => p.elim
theorem cal_ofF {P : Program} {w : World} {K : PySem.W.Frag} {mg : Str → Option Value} {base : Heap} {x : Str} {st : Stmt} {N ps : List Str} {k : Nat} {α : Type} {enc : α → List Dat} {pre : α → Prop} {post : α → Dat → Prop} {fr : Hp → Hp → V → Prop}
    (D : At K mg x st []) (S : FnScope N ps (defScope st)) (hn : ∀ a, (enc a).length = ps.length)
    (hb : ∀ (kV doc pm : Value) (an : Option Addr) (cdv ct : Value) (us : List Value), us.length = ps.length → bindArgs (PySem.W.fnOf x x (defArgs st) (defBody st) (defScope st) .none kV doc pm an cdv ct) ⟨us, []⟩ = pure (ps.zip us))
    (body : ∀ (cdv : Value) (f : Addr) (A : Around) (outer : List Env) (s : Shared) (H : Hp) (Q : VK) (E : XK), Room k (A.deeper (envOfC x (defScope st) s.heap.objs.size f cdv)) →
      ∃ t, PSs (cxOf CX0 P w K mg base N x (defScope st) f cdv A outer s H E).nox (defBody st) t ∧ ∀ a, pre a → T K none t (startD N.length (enc a)) { nx := fun _ => False, rt := post a, fr := fr }) :
    Cal P w K mg base (k + 1) x ps [] (SpF K enc pre post fr) := by
  obtain ⟨f, fd, hf, F⟩ := D
  refine ⟨f, fd, [], hf, F.kp, .nil, F.bindsN hb, F.ok S (fun vs H Q E h => ?_) fun cdv A outer s H vs Q E hr h => ?_⟩
  · obtain ⟨a, Hs, _, tr, _⟩ := h
    rw [tr.length, hn]
  · obtain ⟨t, h1, h2⟩ := body cdv f A outer s H Q E hr
    exact ⟨t, h1.nox, run_F h h2⟩
theorem cal_of {P : Program} {w : World} {K : PySem.W.Frag} {mg : Str → Option Value} {base : Heap} {x : Str} {st : Stmt} {N ps : List Str} {k : Nat} {α : Type} {enc : α → List Dat} {pre : α → Prop} {post : α → Dat → Prop}
    (D : At K mg x st []) (S : FnScope N ps (defScope st)) (hn : ∀ a, (enc a).length = ps.length)
    (hb : ∀ (kV doc pm : Value) (an : Option Addr) (cdv ct : Value) (us : List Value), us.length = ps.length → bindArgs (PySem.W.fnOf x x (defArgs st) (defBody st) (defScope st) .none kV doc pm an cdv ct) ⟨us, []⟩ = pure (ps.zip us))
    (body : ∀ (cdv : Value) (f : Addr) (A : Around) (outer : List Env) (s : Shared) (H : Hp) (Q : VK) (E : XK), Room k (A.deeper (envOfC x (defScope st) s.heap.objs.size f cdv)) →
      ∃ t, PSs (cxOf CX0 P w K mg base N x (defScope st) f cdv A outer s H E).nox (defBody st) t ∧ ∀ a, pre a → T K none t (startD N.length (enc a)) { nx := fun _ => post a .non, rt := post a }) :
    Cal P w K mg base (k + 1) x ps [] (SpD K enc pre post) := by
  obtain ⟨f, fd, hf, F⟩ := D
  exact ⟨f, fd, [], hf, F.kp, .nil, F.bindsN hb, fnok_of F S hn body⟩
end Tf
/-! text TfHa -/
namespace Tf
open PySem PySem.Spec PyProof.Rows L2
/-! ### the top, by names -/
abbrev lawR : PySem.W.OpenRow := PySem.W.OpenLaw.row PySem.Challenge.rw_takenforms_k03_solve_whole
def fnL0 : List He.DefD := [⟨("amount", none), "amount", "amount", defArgs sAmount, defBody sAmount, defScope sAmount, [.int 1], []⟩, ⟨("plus", none), "plus", "plus", defArgs sPlus, defBody sPlus, defScope sPlus, [], []⟩, ⟨("times", none), "times", "times", defArgs sTimes, defBody sTimes, defScope sTimes, [], []⟩, ⟨("over", none), "over", "over", defArgs sOver, defBody sOver, defScope sOver, [], []⟩, ⟨("compare", none), "compare", "compare", defArgs sCompare, defBody sCompare, defScope sCompare, [], []⟩, ⟨("constant_sum", none), "constant_sum", "constant_sum", defArgs sConstantSum, defBody sConstantSum, defScope sConstantSum, [], []⟩, ⟨("add_sums", none), "add_sums", "add_sums", defArgs sAddSums, defBody sAddSums, defScope sAddSums, [], []⟩, ⟨("times_sum", none), "times_sum", "times_sum", defArgs sTimesSum, defBody sTimesSum, defScope sTimesSum, [], []⟩, ⟨("sum_value", none), "sum_value", "sum_value", defArgs sSumValue, defBody sSumValue, defScope sSumValue, [], []⟩, ⟨("holds", none), "holds", "holds", defArgs sHolds, defBody sHolds, defScope sHolds, [], []⟩, ⟨("refutes", none), "refutes", "refutes", defArgs sRefutes, defBody sRefutes, defScope sRefutes, [], []⟩, ⟨("whole_scale", none), "whole_scale", "whole_scale", defArgs sWholeScale, defBody sWholeScale, defScope sWholeScale, [], []⟩, ⟨("slack_row", none), "slack_row", "slack_row", defArgs sSlackRow, defBody sSlackRow, defScope sSlackRow, [], []⟩, ⟨("slack_to_mend", none), "slack_to_mend", "slack_to_mend", defArgs sSlackToMend, defBody sSlackToMend, defScope sSlackToMend, [], []⟩, ⟨("quantity_to_change", none), "quantity_to_change", "quantity_to_change", defArgs sQuantityToChange, defBody sQuantityToChange, defScope sQuantityToChange, [], []⟩, ⟨("without", none), "without", "without", defArgs sWithout, defBody sWithout, defScope sWithout, [], []⟩, ⟨("exchanged", none), "exchanged", "exchanged", defArgs sExchanged, defBody sExchanged, defScope sExchanged, [], []⟩]
def faG0 : List He.Fa := [.glo "amount", .glo "plus", .glo "times", .glo "over", .glo "compare", .glo "constant_sum", .glo "add_sums", .glo "times_sum", .glo "sum_value", .glo "holds", .glo "refutes", .glo "whole_scale", .glo "slack_row", .glo "slack_to_mend", .glo "quantity_to_change", .glo "without", .glo "exchanged"]
def fnL1 : List He.DefD := [⟨("tiny_amount", none), "tiny_amount", "tiny_amount", defArgs sTinyAmount, defBody sTinyAmount, defScope sTinyAmount, [], []⟩, ⟨("point_of", none), "point_of", "point_of", defArgs sPointOf, defBody sPointOf, defScope sPointOf, [], []⟩, ⟨("weights_of", none), "weights_of", "weights_of", defArgs sWeightsOf, defBody sWeightsOf, defScope sWeightsOf, [], []⟩, ⟨("solve", none), "solve", "solve", defArgs sSolve, defBody sSolve, defScope sSolve, [], []⟩, ⟨("_law_whole", none), "_law_whole", "_law_whole", defArgs sLawWhole, defBody sLawWhole, defScope sLawWhole, [], []⟩, ⟨("_law_cell", none), "_law_cell", "_law_cell", defArgs sLawCell, defBody sLawCell, defScope sLawCell, [], []⟩, ⟨("_law_row", none), "_law_row", "_law_row", defArgs sLawRow, defBody sLawRow, defScope sLawRow, [], []⟩, ⟨("_law_amount", none), "_law_amount", "_law_amount", defArgs sLawAmount, defBody sLawAmount, defScope sLawAmount, [], []⟩, ⟨("_law_plus", none), "_law_plus", "_law_plus", defArgs sLawPlus, defBody sLawPlus, defScope sLawPlus, [], []⟩, ⟨("_law_times", none), "_law_times", "_law_times", defArgs sLawTimes, defBody sLawTimes, defScope sLawTimes, [], []⟩, ⟨("_law_add", none), "_law_add", "_law_add", defArgs sLawAdd, defBody sLawAdd, defScope sLawAdd, [], []⟩, ⟨("_law_word", none), "_law_word", "_law_word", defArgs sLawWord, defBody sLawWord, defScope sLawWord, [], []⟩, ⟨("_law_addresses", none), "_law_addresses", "_law_addresses", defArgs sLawAddresses, defBody sLawAddresses, defScope sLawAddresses, [], []⟩, ⟨("_law_number", none), "_law_number", "_law_number", defArgs sLawNumber, defBody sLawNumber, defScope sLawNumber, [], []⟩, ⟨("_law_share", none), "_law_share", "_law_share", defArgs sLawShare, defBody sLawShare, defScope sLawShare, [], []⟩, ⟨("_law_drawn", none), "_law_drawn", "_law_drawn", defArgs sLawDrawn, defBody sLawDrawn, defScope sLawDrawn, [], []⟩, ⟨("_law_value", none), "_law_value", "_law_value", defArgs sLawValue, defBody sLawValue, defScope sLawValue, [], []⟩]
def faG1 : List He.Fa := [.glo "tiny_amount", .glo "point_of", .glo "weights_of", .glo "solve", .glo "_law_whole", .glo "_law_cell", .glo "_law_row", .glo "_law_amount", .glo "_law_plus", .glo "_law_times", .glo "_law_add", .glo "_law_word", .glo "_law_addresses", .glo "_law_number", .glo "_law_share", .glo "_law_drawn", .glo "_law_value"]
def fnL2 : List He.DefD := [⟨("_law_fitted", none), "_law_fitted", "_law_fitted", defArgs sLawFitted, defBody sLawFitted, defScope sLawFitted, [], []⟩, ⟨("_law_gap", none), "_law_gap", "_law_gap", defArgs sLawGap, defBody sLawGap, defScope sLawGap, [], []⟩, ⟨("_law_shift", none), "_law_shift", "_law_shift", defArgs sLawShift, defBody sLawShift, defScope sLawShift, [], []⟩, ⟨("_law_around", none), "_law_around", "_law_around", defArgs sLawAround, defBody sLawAround, defScope sLawAround, [], []⟩, ⟨("_law_hidden", none), "_law_hidden", "_law_hidden", defArgs sLawHidden, defBody sLawHidden, defScope sLawHidden, [], []⟩, ⟨("_law_thin", none), "_law_thin", "_law_thin", defArgs sLawThin, defBody sLawThin, defScope sLawThin, [], []⟩, ⟨("_law_box", none), "_law_box", "_law_box", defArgs sLawBox, defBody sLawBox, defScope sLawBox, [], []⟩, ⟨("_law_cycle", none), "_law_cycle", "_law_cycle", defArgs sLawCycle, defBody sLawCycle, defScope sLawCycle, [], []⟩, ⟨("_law_multiples", none), "_law_multiples", "_law_multiples", defArgs sLawMultiples, defBody sLawMultiples, defScope sLawMultiples, [], []⟩, ⟨("_law_free", none), "_law_free", "_law_free", defArgs sLawFree, defBody sLawFree, defScope sLawFree, [], []⟩, ⟨("_law_turned", none), "_law_turned", "_law_turned", defArgs sLawTurned, defBody sLawTurned, defScope sLawTurned, [], []⟩, ⟨("_law_many", none), "_law_many", "_law_many", defArgs sLawMany, defBody sLawMany, defScope sLawMany, [], []⟩, ⟨("_law_entries", none), "_law_entries", "_law_entries", defArgs sLawEntries, defBody sLawEntries, defScope sLawEntries, [], []⟩, ⟨("_law_is_amount", none), "_law_is_amount", "_law_is_amount", defArgs sLawIsAmount, defBody sLawIsAmount, defScope sLawIsAmount, [], []⟩, ⟨("_law_keeps", none), "_law_keeps", "_law_keeps", defArgs sLawKeeps, defBody sLawKeeps, defScope sLawKeeps, [], []⟩, ⟨("_law_refutes", none), "_law_refutes", "_law_refutes", defArgs sLawRefutes, defBody sLawRefutes, defScope sLawRefutes, [], []⟩, ⟨("_law_occurring", none), "_law_occurring", "_law_occurring", defArgs sLawOccurring, defBody sLawOccurring, defScope sLawOccurring, [], []⟩]
def faG2 : List He.Fa := [.glo "_law_fitted", .glo "_law_gap", .glo "_law_shift", .glo "_law_around", .glo "_law_hidden", .glo "_law_thin", .glo "_law_box", .glo "_law_cycle", .glo "_law_multiples", .glo "_law_free", .glo "_law_turned", .glo "_law_many", .glo "_law_entries", .glo "_law_is_amount", .glo "_law_keeps", .glo "_law_refutes", .glo "_law_occurring"]
def fnL3 : List He.DefD := [⟨("_law_right", none), "_law_right", "_law_right", defArgs sLawRight, defBody sLawRight, defScope sLawRight, [], []⟩, ⟨("_law_listed", none), "_law_listed", "_law_listed", defArgs sLawListed, defBody sLawListed, defScope sLawListed, [], []⟩, ⟨("_law_ruined", none), "_law_ruined", "_law_ruined", defArgs sLawRuined, defBody sLawRuined, defScope sLawRuined, [], []⟩, ⟨("_law_solved", none), "_law_solved", "_law_solved", defArgs sLawSolved, defBody sLawSolved, defScope sLawSolved, [], []⟩, ⟨("_law_confirmed", none), "_law_confirmed", "_law_confirmed", defArgs sLawConfirmed, defBody sLawConfirmed, defScope sLawConfirmed, [], []⟩, ⟨("law", none), "law", "law", defArgs sLaw, defBody sLaw, defScope sLaw, [], []⟩]
def faG3 : List He.Fa := [.glo "_law_right", .glo "_law_listed", .glo "_law_ruined", .glo "_law_solved", .glo "_law_confirmed", .glo "law"]
def faF : List He.Fa := [.free "list", .free "tuple", .free "sorted", .free "len", .free "zip", .free "enumerate", .free "range", .free "int", .free "abs", .free "isinstance", .free "min", .free "max", .free "bool", .free "dict", .int "UNIT" 0, .int "TINY" 1, .glo "ZERO", .glo "ONE"]
def fnL : List He.DefD := fnL0 ++ (fnL1 ++ (fnL2 ++ (fnL3)))
def faL : List He.Fa := faG0 ++ (faG1 ++ (faG2 ++ (faG3 ++ faF)))
def loose0 : List Str := ["FormError", "NoAmount", "ZERO", "ONE", "UNIT", "TINY", "amount", "plus", "times", "over", "compare", "constant_sum", "add_sums", "times_sum", "sum_value", "holds", "refutes"]
def loose1 : List Str := ["whole_scale", "slack_row", "slack_to_mend", "quantity_to_change", "without", "exchanged", "tiny_amount", "point_of", "weights_of", "solve", "_law_whole", "_law_cell", "_law_row", "_law_amount", "_law_plus", "_law_times", "_law_add"]
def loose2 : List Str := ["_law_word", "_law_addresses", "_law_number", "_law_share", "_law_drawn", "_law_value", "_law_fitted", "_law_gap", "_law_shift", "_law_around", "_law_hidden", "_law_thin", "_law_box", "_law_cycle", "_law_multiples", "_law_free", "_law_turned"]
def loose3 : List Str := ["_law_many", "_law_entries", "_law_is_amount", "_law_keeps", "_law_refutes", "_law_occurring", "_law_right", "_law_listed", "_law_ruined", "_law_solved", "_law_confirmed"]
def looseA : List Str := loose0 ++ (loose1 ++ (loose2 ++ (loose3)))
/-- what is looked at besides: the two of math, the two tuples, the objects that tell what the machine's own text leans on -/
def covK (K : PySem.W.Frag) : Bool := (K.lookup cStatics).isSome && ((K.lookup sysModules).isSome && ((K.lookup builtinsNs).isSome && ((K.lookup mainGlobals).isSome && (match PySem.W.nsIn K mainGlobals "__builtins__" with
  | some (some (.ref b)) => (K.lookup b).isSome
  | _ => false))))
def extraK (K : PySem.W.Frag) : Bool := covK K && ((He.eqO (PySem.W.nsIn K mainGlobals "gcd") (some (some (.builtin "math.gcd"))) && He.eqO (PySem.W.nsIn K mainGlobals "lcm") (some (some (.builtin "math.lcm")))) && (He.tupB K "ZERO" [.int 0, .int 1] && He.tupB K "ONE" [.int 1, .int 1]))
theorem extra_cov {K : PySem.W.Frag} (e : extraK K = true) : covK K = true := (Bool.and_eq_true_iff.mp e).1
theorem extra_gl {K : PySem.W.Frag} (e : extraK K = true) : He.eqO (PySem.W.nsIn K mainGlobals "gcd") (some (some (.builtin "math.gcd"))) = true ∧ He.eqO (PySem.W.nsIn K mainGlobals "lcm") (some (some (.builtin "math.lcm"))) = true :=
  Bool.and_eq_true_iff.mp (Bool.and_eq_true_iff.mp (Bool.and_eq_true_iff.mp e).2).1
theorem extra_tu {K : PySem.W.Frag} (e : extraK K = true) : He.tupB K "ZERO" [.int 0, .int 1] = true ∧ He.tupB K "ONE" [.int 1, .int 1] = true :=
  Bool.and_eq_true_iff.mp (Bool.and_eq_true_iff.mp (Bool.and_eq_true_iff.mp e).2).2
def partK (g : Addr → Option Obj) : PySem.W.Frag := He.frG g (He.asD g 2 ++ [cStatics, sysModules, builtinsNs])
def seeK (g : Addr → Option Obj) : He.AlD × Bool := (He.obsD faL fnL (partK g), extraK (partK g))
def hkA : PySem.W.Hook where
  α := He.AlD × Bool
  obs := fun s => seeK s.heap.get?
  val := fun _ => (He.valD fnL, true)
  says := fun _ h => ∃ K : PySem.W.Frag, K.In h ∧ (He.SaysD faL fnL K ∧ extraK K = true)
  of := fun _ s e => ⟨partK s.heap.get?, He.frG_in, congrArg (fun z : He.AlD × Bool => z.1) e, congrArg (fun z : He.AlD × Bool => z.2) e⟩
  keeps := fun _ _ _ ⟨K, k1, k2⟩ k => ⟨K, PySem.W.Frag.In.keeps k1 k, k2⟩
def seeT (s : PySem.W.SharedT) : He.AlD × Bool := seeK (HandSHeadRun.getT s)
theorem seeT_eq (s : PySem.W.SharedT) : seeT s = hkA.obs s.abs := by
  have e : HandSHeadRun.getT s = s.abs.heap.get? := funext fun a => HandSHeadRun.getT_eq s a
  unfold seeT
  rw [e]
  rfl
theorem runA (w : World) : HandSHeadRun.RunEqI lawR (PySem.W.view lawR.prog [0, 68]) hkA seeT 6000 looseA w := by
  unfold HandSHeadRun.RunEqI
  kernel_rfl
/-! ### facts of a base -/
section
variable {K : PySem.W.Frag} {h base : Heap} {mg : Str → Option Value}
theorem ns_move {a : Addr} {m : Str → Option Value} (X : K.In h) (Y : K.In base) (c : (K.lookup a).isSome = true) (n : h.Ns a m) : base.Ns a m := by
  obtain ⟨o, es, ep, h1, r⟩ := n
  obtain ⟨u, hu⟩ := Option.isSome_iff_exists.mp c
  have e := X a u hu
  rw [h1] at e
  cases e
  exact ⟨o, es, ep, Y a o hu, r⟩
theorem seer_move (X : K.In h) (Y : K.In base) (c : covK K = true) (S : h.NoSeer) : base.NoSeer := by
  unfold covK at c
  simp only [Bool.and_eq_true] at c
  obtain ⟨c1, c2, c3, c4, c5⟩ := c
  obtain ⟨m1, a1, a2⟩ := S.statics
  obtain ⟨m2, b1, b2⟩ := S.mods
  obtain ⟨m3, d1, d2⟩ := S.imp
  obtain ⟨m4, bm, ob, e1, e2, e3, e4⟩ := S.main
  refine ⟨⟨m1, ns_move X Y c1 a1, a2⟩, ⟨m2, ns_move X Y c2 b1, b2⟩, ⟨m3, ns_move X Y c3 d1, d2⟩, m4, bm, ob, ns_move X Y c4 e1, e2, ?_, e4⟩
  split at c5
  · next b hb =>
    have h1 := PySem.W.mg_of X e1 hb
    rw [e2] at h1
    cases h1
    obtain ⟨u, hu⟩ := Option.isSome_iff_exists.mp c5
    have h2 := X _ _ hu
    rw [e3] at h2
    cases h2
    exact Y _ _ hu
  · cases c5
theorem at_of {x : Str} {st : Stmt} {dfl : List He.Dv} (X : K.In h) (G : h.Ns mainGlobals mg) (c : He.SaysD faL fnL K) (i : Nat) (hd : fnL[i]? = some ⟨(x, none), x, x, defArgs st, defBody st, defScope st, dfl, []⟩) (hf : faL[i]? = some (.glo x)) :
    At K mg x st (dfl.map (He.Dv.v K)) := by
  obtain ⟨fd, F⟩ := c.def_ i hd
  exact ⟨He.ga K x, fd, He.glo_ok X G (c.fact i hf), F⟩
end

end Tf
/-! text TfG -/
namespace Tf
open PySem PySem.Spec PyProof.Rows L2
section
variable {K : PySem.W.Frag} {m : Option LkM} {δ δ' : De} {te ta tb tc : TE} {tt tu : TT} {ts t1 t2 t3 : TS} {A R : Dat → Prop} {P : Pt} {x y z d : Dat} {ds : List Dat} {i j : Nat}
/-! ### built-ins, by data -/
theorem rc_gcd {a b : Int} : RC K rGcd [.int a, .int b] (Eq (.int ((Nat.gcd a.natAbs b.natAbs : Nat) : Int))) := fun Hs H vs s t Q k => by
  obtain ⟨v, r, rfl, h1, t⟩ := t.cons_inv
  obtain ⟨u, r, rfl, h2, t⟩ := t.cons_inv
  cases t; cases h1; cases h2
  exact ⟨a, b, rfl, k _ H Hs _ .refl (.int _) rfl⟩
theorem rc_lcm {a b : Int} (ha : Lt2 a 6000) (hb : Lt2 b 6000) : RC K rLcm [.int a, .int b] (Eq (.int ((Nat.lcm a.natAbs b.natAbs : Nat) : Int))) := fun Hs H vs s t Q k => by
  obtain ⟨v, r, rfl, h1, t⟩ := t.cons_inv
  obtain ⟨u, r, rfl, h2, t⟩ := t.cons_inv
  cases t; cases h1; cases h2
  exact ⟨a, b, rfl, ha, hb, k _ H Hs _ .refl (.int _) rfl⟩
/-! ### statements in a row -/
theorem q_asg (h : EvP K none te δ (Eq d)) (q : T K none t2 (δ.set i (some (.imm d))) P) : T K none (tSeq (tAsg te (gName i)) t2) δ P :=
  t_seq (t_asg h (fun e ee => by cases ee; exact q) offm_none)
theorem q_asgP (h : EvP K none te δ A) (q : ∀ d, A d → T K none t2 (δ.set i (some (.imm d))) P) : T K none (tSeq (tAsg te (gName i)) t2) δ P :=
  t_seq (t_asg h q offm_none)
theorem q_asgM (h : EvP K m te δ (Eq d)) (n : Offm m i) (q : T K m t2 (δ.set i (some (.imm d))) P) : T K m (tSeq (tAsg te (gName i)) t2) δ P :=
  t_seq (t_asg h (fun e ee => by cases ee; exact q) n)
theorem q_if {b : Bool} (h : EvB K m tt δ b) (h1 : b = true → T K m t1 δ { P with nx := fun δ' => T K m t3 δ' P }) (h2 : b = false → T K m t2 δ { P with nx := fun δ' => T K m t3 δ' P }) : T K m (tSeq (tIfS tt t1 t2) t3) δ P := t_seq (t_if h h1 h2)
/-- an if without else -/
theorem q_when {b : Bool} (h : EvB K m tt δ b) (h1 : b = true → T K m t1 δ { P with nx := fun δ' => T K m t3 δ' P }) (h2 : b = false → T K m t3 δ P) : T K m (tSeq (tIfS tt t1 tNext) t3) δ P := t_seq (t_if h h1 fun e => t_next (h2 e))
theorem t_when {b : Bool} (h : EvB K m tt δ b) (h1 : b = true → T K m t1 δ P) (h2 : b = false → P.nx δ) : T K m (tIfS tt t1 tNext) δ P := t_if h h1 fun e => t_next (h2 e)
/-- a way that is not taken -/
theorem q_skip (h : EvB K m tt δ false) (q : T K m t3 δ P) : T K m (tSeq (tIfS tt t1 tNext) t3) δ P := q_when h (fun e => nomatch e) fun _ => q
theorem t_retE (h : EvP K m te δ (Eq d)) (q : P.rt d) (f : ∀ H0 H' v, P.fr H0 H' v := by intros; exact True.intro) : T K m (tRet te) δ P := t_ret h (fun e ee => by cases ee; exact q) f
theorem t_retE' {nx bk ct : De → Prop} {rt : Dat → Prop} (h : EvP K m te δ (Eq d)) (q : rt d) : T K m (tRet te) δ { nx := nx, rt := rt, bk := bk, ct := ct } := t_retE h q
theorem evp_tup' {t : TA} (h : EvA K m t δ (Eq ds)) (hl : ds.length ≤ 100000) : EvP K m (tTup t) δ (Eq (.tup ds)) := evp_tup h hl
theorem evp_callE {α : Type} {enc : α → List Dat} {pre : α → Prop} {post : α → Dat → Prop} {t : TA} {E : XK} {r : Dat} (a : α) (h : EvA K none t δ (Eq (enc a))) (hp : pre a) (hq : ∀ d, post a d → d = r) : EvP K none (tCall (SpD K enc pre post) [] E t) δ (Eq r) :=
  (evp_call a h hp).imp fun d q => (hq d q).symm
end

/-! ### amounts -/
abbrev Am := Int × Int
def am (a : Am) : Dat := .tup [.int a.1, .int a.2]
def amt (t b : Int) : Am := (t / ((Nat.gcd t.natAbs b.natAbs : Nat) : Int), b / ((Nat.gcd t.natAbs b.natAbs : Nat) : Int))
def pls (a b : Am) : Am := amt (a.1 * b.2 + b.1 * a.2) (a.2 * b.2)
def tms (a b : Am) : Am := amt (a.1 * b.1) (a.2 * b.2)
def ovr (a b : Am) : Am := amt (a.1 * b.2) (a.2 * b.1)
def cmpA (a b : Am) : Int := if a.1 * b.2 < b.1 * a.2 then -1 else if b.1 * a.2 < a.1 * b.2 then 1 else 0
/-- an amount that may be reckoned with -/
structure Pm (a : Am) : Prop where
  pos : 0 < a.2
  l1 : Lt2 a.1 40000000
  l2 : Lt2 a.2 40000000
theorem gcd_pos {t b : Int} (h : 0 < b) : (0 : Int) < ((Nat.gcd t.natAbs b.natAbs : Nat) : Int) := by
  have : 0 < Nat.gcd t.natAbs b.natAbs := Nat.gcd_pos_of_pos_right _ (by omega)
  omega
theorem mul_pos' {a b : Int} (h : 0 < a) (h' : 0 < b) : 0 < a * b := Int.mul_pos h h'
theorem cmul {a b : Int} (h : Lt2 a 40000000) (h' : Lt2 b 40000000) : CMulH a b := ⟨_, _, h, h', by decide⟩
theorem cxK {CX : CXT} {P : Program} {w : World} {K : PySem.W.Frag} {mg : Str → Option Value} {base : Heap} {N : List Str} {qual : Str} {scope : Scope} {f : Addr} {cd : Value} {A : Around} {outer : List Env} {s : Shared} {H : Hp} {E : XK} : (cxOf CX P w K mg base N qual scope f cd A outer s H E).nox.K = K := rfl
local macro_rules | `(tactic| walk_at "ev1") => `(tactic| first
  | with_reducible exact evp_int | with_reducible exact evp_bl | with_reducible exact evp_str | with_reducible exact evp_non | with_reducible exact evp_gam | (with_reducible apply evp_var; (with_unfolding_all exact rfl))
  | with_reducible exact eva_nil | with_reducible apply eva_cons
  | with_reducible apply evp_op | (with_reducible apply evp_un (hr := ru_int)) | with_reducible apply evp_cb
  | with_reducible apply evp_tup' | (with_reducible show List.length _ ≤ 100000; simp; done)
  | with_reducible exact rv_int | with_reducible exact rv_bl | with_reducible apply rv_intC | with_reducible exact rv_eq (.int _ _) | with_reducible exact rv_ne (.int _ _)
  | (with_reducible apply rv_ix; (with_unfolding_all exact Sq.tup _); (with_unfolding_all exact rfl))
  | with_reducible exact rc_gcd
  | with_reducible apply evb_test | with_reducible apply evb_B | with_reducible apply evb_not)
local macro_rules | `(tactic| walk_at "ev") => `(tactic| repeat' walk_at "ev1")
section
variable {P : Program} {w : World} {K : PySem.W.Frag} {mg : Str → Option Value} {base : Heap}
abbrev encII : Int × Int → List Dat := fun a => [.int a.1, .int a.2]
abbrev encAA : Am × Am → List Dat := fun a => [am a.1, am a.2]
abbrev preAA : Am × Am → Prop := fun a => Pm a.1 ∧ Pm a.2
abbrev SpAmount (K : PySem.W.Frag) : Sp := SpD K encII (fun a => 0 < a.2) (fun a d => d = am (amt a.1 a.2))
theorem ok_amount0 (T : Tx P K mg base) {f : Addr} {fd : FuncData} (F : FunD K "amount" "amount" (defArgs sAmount) (defBody sAmount) (defScope sAmount) [.int 1] [] f fd) :
    FnOk P w K mg base CX0 36 f fd ["top", "bottom"] (SpAmount K) := by
  refine fnok_of (k := 35) F scAmount (fun _ => rfl) fun cdv f A outer s H Q E hr => ?_
  have hB := big_of (f := f) (cd := cdv) (A := A) (outer := outer) (s := s) (H := H) (E := E) (w := w) (mg := mg) T scAmount hr
  refine ⟨_, (pss_cons (ps_if (pt_cmpR op_eq (pv 1) pe_int (nomark _)) (pss_one ps_never) pss_nil)
  (pss_cons (ps_set (i := 2) scAmount.nd rfl (Or.inl rfl) (pe_callBfun cr_gcd (by rfl) T.mgcd (pa_cons (pv 0) (pa_cons (pv 1) pa_nil))))
  (pss_cons (ps_if (pt_cmpR op_lt (pv 1) pe_int (nomark _)) (pss_one (ps_set (i := 2) scAmount.nd rfl (Or.inl rfl) (pe_un un_neg (pv 2)))) pss_nil)
  (pss_one (ps_ret (pe_tup (pa_cons (pe_op (op_fdivB hB) (pv 0) (pv 2)) (pa_cons (pe_op (op_fdivB hB) (pv 1) (pv 2)) pa_nil)))))))), fun a ha => ?_⟩
  have hg := gcd_pos (t := a.1) ha
  refine q_skip (EvB.to (by walk_at "ev") (by simp; omega)) ?_
  refine q_asg (by walk_at "ev") ?_
  refine q_skip (EvB.to (by walk_at "ev") (by simp; omega)) ?_
  apply t_retE'
  · walk_at "ev" <;> exact hg
  · rfl
theorem ok_amount (T : Tx P K mg base) : Cal P w K mg base 36 "amount" ["top", "bottom"] [] (SpAmount K) := by
  obtain ⟨f, fd, hf, F⟩ := T.d_amount
  obtain ⟨ds, h1, h2⟩ := F.binds1 (ps := ["top", "bottom"]) 2 1 (by simp) rfl fun T kV doc pm an cdv ct us its hu hi => match us, hu, its, hi with | [_, _], _, [_], _ => ⟨_, rfl, rfl⟩
  exact ⟨f, fd, ds, hf, F.kp, h1, h2, ok_amount0 T F⟩
theorem ok_amount1 (T : Tx P K mg base) : Cal P w K mg base 36 "amount" ["top", "bottom"] [.int 1] (SpAmount K) := by
  obtain ⟨f, fd, hf, F⟩ := T.d_amount
  obtain ⟨ds, h1, h2⟩ := F.binds1 (ps := ["top", "bottom"]) 1 0 (by simp) rfl fun T kV doc pm an cdv ct us its hu hi => match us, hu, its, hi with | [_], _, [_], _ => ⟨_, rfl, rfl⟩
  exact ⟨f, fd, ds, hf, F.kp, h1, h2, ok_amount0 T F⟩
theorem ok_plus (T : Tx P K mg base) (C_amount : Cal P w K mg base 36 "amount" ["top", "bottom"] [] (SpAmount K)) : Cal P w K mg base 37 "plus" ["one", "two"] [] (SpD K encAA preAA fun a d => d = am (pls a.1 a.2)) := by
  refine cal_of (k := 36) T.d_plus scPlus (fun _ => rfl) (fun _ _ _ _ _ _ us hl => match us, hl with | [_, _], _ => rfl) fun cdv f A outer s H Q E hr => ?_
  refine ⟨_, (pss_one (ps_ret (pe_cal C_amount hr (by rfl) (pa_cons (pe_op op_add (pe_op op_mulH (pe_ix (ixK (K := K)) (pv 0) pe_int (fun _ _ => rfl)) (pe_ix (ixK (K := K)) (pv 1) pe_int (fun _ _ => rfl))) (pe_op op_mulH (pe_ix (ixK (K := K)) (pv 1) pe_int (fun _ _ => rfl)) (pe_ix (ixK (K := K)) (pv 0) pe_int (fun _ _ => rfl)))) (pa_cons (pe_op op_mulH (pe_ix (ixK (K := K)) (pv 0) pe_int (fun _ _ => rfl)) (pe_ix (ixK (K := K)) (pv 1) pe_int (fun _ _ => rfl))) pa_nil))))), fun a ha => ?_⟩
  obtain ⟨a, b⟩ := a
  obtain ⟨h1, h2⟩ := ha
  try dsimp only [cxK]
  refine t_retE (evp_callE (a.1 * b.2 + b.1 * a.2, a.2 * b.2) ?_ (mul_pos' h1.pos h2.pos) fun d q => q) rfl
  walk_at "ev"
  · exact cmul h1.l1 h2.l2
  · exact cmul h2.l1 h1.l2
  · exact cmul h1.l2 h2.l2
theorem ok_times (T : Tx P K mg base) (C_amount : Cal P w K mg base 36 "amount" ["top", "bottom"] [] (SpAmount K)) : Cal P w K mg base 37 "times" ["one", "two"] [] (SpD K encAA preAA fun a d => d = am (tms a.1 a.2)) := by
  refine cal_of (k := 36) T.d_times scTimes (fun _ => rfl) (fun _ _ _ _ _ _ us hl => match us, hl with | [_, _], _ => rfl) fun cdv f A outer s H Q E hr => ?_
  refine ⟨_, (pss_one (ps_ret (pe_cal C_amount hr (by rfl) (pa_cons (pe_op op_mulH (pe_ix (ixK (K := K)) (pv 0) pe_int (fun _ _ => rfl)) (pe_ix (ixK (K := K)) (pv 1) pe_int (fun _ _ => rfl))) (pa_cons (pe_op op_mulH (pe_ix (ixK (K := K)) (pv 0) pe_int (fun _ _ => rfl)) (pe_ix (ixK (K := K)) (pv 1) pe_int (fun _ _ => rfl))) pa_nil))))), fun a ha => ?_⟩
  obtain ⟨a, b⟩ := a
  obtain ⟨h1, h2⟩ := ha
  try dsimp only [cxK]
  refine t_retE (evp_callE (a.1 * b.1, a.2 * b.2) ?_ (mul_pos' h1.pos h2.pos) fun d q => q) rfl
  walk_at "ev"
  · exact cmul h1.l1 h2.l1
  · exact cmul h1.l2 h2.l2
theorem ok_over (T : Tx P K mg base) (C_amount : Cal P w K mg base 36 "amount" ["top", "bottom"] [] (SpAmount K)) : Cal P w K mg base 37 "over" ["one", "two"] [] (SpD K encAA (fun a => preAA a ∧ 0 < a.2.1) fun a d => d = am (ovr a.1 a.2)) := by
  refine cal_of (k := 36) T.d_over scOver (fun _ => rfl) (fun _ _ _ _ _ _ us hl => match us, hl with | [_, _], _ => rfl) fun cdv f A outer s H Q E hr => ?_
  refine ⟨_, (pss_one (ps_ret (pe_cal C_amount hr (by rfl) (pa_cons (pe_op op_mulH (pe_ix (ixK (K := K)) (pv 0) pe_int (fun _ _ => rfl)) (pe_ix (ixK (K := K)) (pv 1) pe_int (fun _ _ => rfl))) (pa_cons (pe_op op_mulH (pe_ix (ixK (K := K)) (pv 0) pe_int (fun _ _ => rfl)) (pe_ix (ixK (K := K)) (pv 1) pe_int (fun _ _ => rfl))) pa_nil))))), fun a ha => ?_⟩
  obtain ⟨a, b⟩ := a
  obtain ⟨⟨h1, h2⟩, h3⟩ := ha
  try dsimp only [cxK]
  refine t_retE (evp_callE (a.1 * b.2, a.2 * b.1) ?_ (mul_pos' h1.pos h3) fun d q => q) rfl
  walk_at "ev"
  · exact cmul h1.l1 h2.l2
  · exact cmul h1.l2 h2.l1
theorem ok_compare (T : Tx P K mg base) : Cal P w K mg base 36 "compare" ["one", "two"] [] (SpD K encAA preAA fun a d => d = .int (cmpA a.1 a.2)) := by
  refine cal_of (k := 35) T.d_compare scCompare (fun _ => rfl) (fun _ _ _ _ _ _ us hl => match us, hl with | [_, _], _ => rfl) fun cdv f A outer s H Q E hr => ?_
  refine ⟨_, (pss_cons (ps_set (i := 2) scCompare.nd rfl (Or.inl rfl) (pe_op op_mulH (pe_ix (ixK (K := K)) (pv 0) pe_int (fun _ _ => rfl)) (pe_ix (ixK (K := K)) (pv 1) pe_int (fun _ _ => rfl))))
  (pss_cons (ps_set (i := 3) scCompare.nd rfl (Or.inl rfl) (pe_op op_mulH (pe_ix (ixK (K := K)) (pv 1) pe_int (fun _ _ => rfl)) (pe_ix (ixK (K := K)) (pv 0) pe_int (fun _ _ => rfl))))
  (pss_cons (ps_if (pt_cmpR op_lt (pv 2) (pv 3) (nomark _)) (pss_one (ps_ret (pe_un un_neg pe_int))) pss_nil)
  (pss_cons (ps_if (pt_cmpR op_gt (pv 2) (pv 3) (nomark _)) (pss_one (ps_ret pe_int)) pss_nil)
  (pss_one (ps_ret pe_int)))))), fun a ha => ?_⟩
  obtain ⟨a, b⟩ := a
  obtain ⟨h1, h2⟩ := ha
  try dsimp only [cxK]
  apply q_asg
  · walk_at "ev"
    · exact cmul h1.l1 h2.l2
  apply q_asg
  · walk_at "ev"
    · exact cmul h2.l1 h1.l2
  apply q_when
  · walk_at "ev"
  · intro c
    apply t_retE'
    · walk_at "ev"
    · have c' : a.1 * b.2 < b.1 * a.2 := of_decide_eq_true c
      simp [cmpA, c']
  intro c
  have c : ¬ a.1 * b.2 < b.1 * a.2 := of_decide_eq_false c
  apply q_when
  · walk_at "ev"
  · intro c2
    have c2 : b.1 * a.2 < a.1 * b.2 := of_decide_eq_true c2
    apply t_retE'
    · walk_at "ev"
    · simp [cmpA, c, c2]
  intro c2
  have c2 : ¬ b.1 * a.2 < a.1 * b.2 := of_decide_eq_false c2
  apply t_retE'
  · walk_at "ev"
  · simp [cmpA, c, c2]
end
end Tf
/-! text TfS -/
/-! sorted: of a dict with int keys, of a dict with addresses as keys, of a list of addresses -/
namespace Tf
open PySem PySem.Spec PyProof.Rows L2
/-! ### the order of addresses -/
def encA (l : List Str) : PyData := .tuple (l.map .str)
def adrLe : List Str → List Str → Bool := PySem.W.dataLe false encA
def sortA (l : List (List Str)) : List (List Str) := l.mergeSort adrLe
theorem adrLe_total : PySem.W.TotalLe adrLe := PySem.W.sortLe_total (PyProof.Rows.listOrd PyProof.Rows.itemOrd) false fun b => PySem.W.keyToks (encA b)
theorem toks_inj : ∀ {a b : List Str}, PySem.W.keyToksAll (a.map .str) = PySem.W.keyToksAll (b.map .str) → a = b
  | [], [], _ => rfl
  | [], y :: b, h => by
    have h : ([.inl 0] : List (Int ⊕ List Nat)) = .inl 1 :: (.inr y.cps.toList :: PySem.W.keyToksAll (b.map .str)) := h
    injection h with h1 h2
    cases h1
  | x :: a, [], h => by
    have h : .inl 1 :: (.inr x.cps.toList :: PySem.W.keyToksAll (a.map .str)) = ([.inl 0] : List (Int ⊕ List Nat)) := h
    injection h with h1 h2
    cases h1
  | x :: a, y :: b, h => by
    have h : (.inl 1 :: (.inr x.cps.toList :: PySem.W.keyToksAll (a.map .str)) : List (Int ⊕ List Nat)) = .inl 1 :: (.inr y.cps.toList :: PySem.W.keyToksAll (b.map .str)) := h
    injection h with h1 h2
    injection h2 with h2 h3
    have e : x = y := by
      have q := Array.toList_inj.mp (Sum.inr.inj h2)
      cases x; cases y; cases q; rfl
    rw [e, toks_inj h3]
theorem adrLe_anti {a b : List Str} (h1 : adrLe a b = true) (h2 : adrLe b a = true) : a = b := by
  have k1 : (!(PyProof.Rows.lexLt PyProof.Rows.itemOrd (PySem.W.keyToksAll (b.map .str)) (PySem.W.keyToksAll (a.map .str)))) = true := h1
  have k2 : (!(PyProof.Rows.lexLt PyProof.Rows.itemOrd (PySem.W.keyToksAll (a.map .str)) (PySem.W.keyToksAll (b.map .str)))) = true := h2
  exact toks_inj ((PyProof.Rows.listOrd PyProof.Rows.itemOrd).total _ _ (by simpa using k2) (by simpa using k1))
theorem sortA_perm (l : List (List Str)) : (sortA l).Perm l := List.mergeSort_perm _ _
/-- a set of addresses has one sorted list -/
theorem sortA_one {l l' : List (List Str)} (n : l.Nodup) (n' : l'.Nodup) (h : ∀ x, x ∈ l ↔ x ∈ l') : sortA l = sortA l' := by
  have p : l.Perm l' := (List.perm_ext_iff_of_nodup n n').mpr h
  refine PySem.W.sort_unique adrLe_total (PySem.W.sort_pairwise adrLe_total l) fun c => ?_
  have fl : ∀ k : List (List Str), k.filter (PySem.W.sameRank adrLe c) = k.filter (fun a => decide (c = a)) := fun k => by
    refine List.filter_congr fun a _ => ?_
    unfold PySem.W.sameRank
    by_cases e : c = a
    · subst e
      rw [adrLe_total.refl, decide_eq_true rfl]
      rfl
    · rw [decide_eq_false e]
      cases h1 : adrLe c a with
      | false => rfl
      | true =>
        cases h2 : adrLe a c with
        | false => rfl
        | true => exact absurd (adrLe_anti h1 h2) e
  rw [fl, fl]
  have q : (l.mergeSort adrLe).Perm l' := (List.mergeSort_perm _ _).trans p
  have both : ∀ k : List (List Str), k.filter (fun a => decide (c = a)) = List.replicate (k.count c) c := fun k => by
    induction k with
    | nil => rfl
    | cons a k ih =>
      by_cases e : c = a
      · subst e
        rw [List.filter_cons_of_pos (by simp), List.count_cons_self, ih]
        rfl
      · rw [List.filter_cons_of_neg (by simpa using e), ih, List.count_cons_of_ne (Ne.symm e)]
  rw [both, both]
  exact congrArg (fun n => List.replicate n c) (q.count_eq c)
theorem alike_strs : ∀ xs ys : List Str, PySem.W.alikeAll (xs.map .str) (ys.map .str) = true
  | [], _ => by simp [PySem.W.alikeAll]
  | _ :: _, [] => by simp [PySem.W.alikeAll]
  | x :: xs, y :: ys => by
    show PySem.W.alikeAll (.str x :: xs.map .str) (.str y :: ys.map .str) = true
    rw [PySem.W.alikeAll, alike_strs xs ys]
    simp [PySem.W.alike]
theorem depth_strs : ∀ xs : List Str, PyData.depthAll (xs.map .str) = 0
  | [] => by simp [PyData.depthAll]
  | x :: xs => by
    show PyData.depthAll (.str x :: xs.map .str) = 0
    rw [PyData.depthAll, depth_strs xs]
    simp [PyData.depth]
theorem depth_encA (l : List Str) : (encA l).depth ≤ 1 := by
  unfold encA
  rw [PyData.depth, depth_strs]
  exact Nat.le_refl _
/-- an item: where it stands, its texts -/
abbrev It2 := Addr × List Str
abbrev encI (b : It2) : PyData := encA b.2
theorem alikeI (bs : List It2) : PySem.W.AllAlike (bs.map encI) := PySem.W.AllAlike.of fun b b' => by
  show PySem.W.alikeAll _ _ = true
  exact alike_strs _ _
theorem sortableI {bs : List It2} (h : ∀ b ∈ bs, b.2 ≠ []) : PySem.W.Sortable (bs.map encI) := .inl fun d hd => by
  obtain ⟨b, hb, rfl⟩ := List.mem_map.mp hd
  cases e : b.2 with
  | nil => exact absurd e (h b hb)
  | cons x r => exact ⟨.str x, r.map .str, by show encA b.2 = _; rw [e]; rfl⟩
theorem sorted_keys (bs : List It2) : (bs.mergeSort (PySem.W.dataLe false encI)).map (·.2) = sortA (bs.map (·.2)) := by
  unfold sortA
  rw [← PySem.W.sort_maps (r := PySem.W.dataLe false encI) (s := adrLe) (f := fun b : It2 => b.2)]
  intro a _ b _
  rfl
theorem eachRef : ∀ bs : List It2, PySem.W.EachIs (fun v (b : It2) => v = Value.ref b.1) (bs.map fun b => Value.ref b.1) bs
  | [] => .nil
  | b :: bs => .cons rfl (eachRef bs)
theorem eachRef_out : ∀ {out : List Value} {bs : List It2}, PySem.W.EachIs (fun v (b : It2) => v = Value.ref b.1) out bs → out = bs.map fun b => Value.ref b.1
  | _, _, .nil => rfl
  | _, _, .cons h t => by rw [h, eachRef_out t]; rfl
theorem each_of {R : Value → It2 → Prop} : ∀ {bs : List It2}, (∀ b ∈ bs, R (Value.ref b.1) b) → PySem.W.EachIs R (bs.map fun b => Value.ref b.1) bs
  | [], _ => .nil
  | b :: bs, h => .cons (h b List.mem_cons_self) (each_of fun c hc => h c (List.mem_cons_of_mem _ hc))
theorem vals_ref2 : ∀ bs : List It2, Vals (bs.map fun b => V.ref b.1) (bs.map fun b => Value.ref b.1)
  | [] => .nil
  | _ :: bs => .cons rfl (vals_ref2 bs)
theorem readsAll_strs {h : Heap} : ∀ (l : List Str) {us : List Value}, Vals (l.map V.str) us → ReadsAll h us (l.map .str) []
  | [], _, r => by cases r; exact .nil
  | s :: l, _, r => by
    cases r with
    | cons r1 r2 =>
      obtain ⟨t, rfl⟩ := r1
      exact .cons (as := []) (.str _ _) (readsAll_strs l r2)
section
variable {X : Cx} {pins : List (Addr × Obj)} {σ : L2.St} {H : Hp} {s : Shared}
/-- a tracked tuple of texts reads as its data -/
theorem reads_adr (I : Inv X pins σ H s) {a : Addr} {l : List Str} (h : H a = some (.tup (l.map V.str))) : Reads s.heap (.ref a) (encA l) [] := by
  obtain ⟨hz, its, rv, o, ho, hc, n, hd⟩ := I.hok a _ h
  exact .tuple ho hc hd (readsAll_strs l rv)
theorem kVs_strs (l : List Str) : (l.map (Sum.inr (α := Int))).map kV = l.map V.str := by
  rw [List.map_map]
  rfl
/-- what is sorted: addresses that stand as tracked tuples -/
def ItemsA (H : Hp) (bs : List It2) : Prop := bs.length ≤ 1000 ∧ ∀ b ∈ bs, b.2 ≠ [] ∧ H b.1 = some (.tup (b.2.map V.str))
def sortI (bs : List It2) : List It2 := bs.mergeSort (PySem.W.dataLe false encI)
theorem sortI_mem {bs : List It2} {b : It2} : b ∈ sortI bs ↔ b ∈ bs := List.mem_mergeSort
def rSortL (K : PySem.W.Frag) : List V → Hp → VK → Prop := fun vs H Q => ∃ (a : Addr) (bs : List It2), vs = [V.ref a] ∧ SqL K H a (bs.map fun b => V.ref b.1) ∧ ItemsA H bs ∧
  ∀ p, H p = none → Q (.ref p) (upd H p (.lst ((sortI bs).map fun b => V.ref b.1)))
theorem deep_ok {k : Nat} {A : Around} (hr : Room k A) {n : Nat} (hn : n ≤ 4) (b : It2) : A.units + n + (encI b).depth < cLine := by
  have h1 := hr.units
  have h2 := depth_encA b.2
  show A.units + n + (encA b.2).depth < cLine
  omega
theorem vals_refs_inv : ∀ {bs : List It2} {us : List Value}, Vals (bs.map fun b => V.ref b.1) us → us = bs.map fun b => Value.ref b.1
  | [], _, r => by cases r; rfl
  | b :: bs, _, r => by
    cases r with
    | cons r1 r2 => cases r1; rw [vals_refs_inv r2]; rfl
theorem cr_sortL {K : PySem.W.Frag} {k : Nat} (hr : Room k X.A) (hK : X.K = K := by rfl) : CallR X (.builtin "sorted") (rSortL K) := by
  subst hK
  rintro pins s σ H vs us Q I r ⟨a, bs, rfl, hs, ⟨hl, hb⟩, q⟩
  obtain ⟨its, rv, hL, hz⟩ := I.list hs
  rw [Vals.ref1 r]
  have ei := vals_refs_inv rv
  have hL' : s.heap.IsList a (bs.map fun b => Value.ref b.1).toArray := by rw [← ei]; exact hL.isList
  refine PySem.W.sorted_data (R := fun v (b : It2) => v = Value.ref b.1) (bs := bs) (enc := encI) hL' (eachRef bs) (each_of fun b m => ⟨[], reads_adr I (hb b m).2⟩) (alikeI bs) (sortableI fun b m => (hb b m).1) (Nat.le_trans hl (by decide)) (fun b _ => deep_ok hr (by decide) b) fun out hlen ho => ?_
  have eo := eachRef_out ho
  obtain ⟨ep, he⟩ := PyProof.Rows.sortedAll_at s.heap (bs.map fun b => Value.ref b.1) out.toArray
  refine ⟨.ref _, upd H (s.heap.objs.size + 1) (.lst ((sortI bs).map fun b => V.ref b.1)), I.laid (t' := s.toks) (fun _ _ => PyProof.Rows.sortedAll_old) (Nat.le_succ _) ⟨?_, out, ep, ?_, he⟩, rfl, q _ (I.hok.fresh (Nat.le_succ _))⟩
  · rw [List.length_map]
    show (bs.mergeSort _).length ≤ _
    rw [List.length_mergeSort]
    exact Nat.le_trans hl (by decide)
  · rw [eo]
    exact vals_ref2 _
/-- sorted(d) of a dict with addresses as keys -/
def rSortT : List V → Hp → VK → Prop := fun vs H Q => ∃ (a : Addr) (kvs : List (List Key × V)) (ls : List (List Str)), vs = [V.ref a] ∧ Rd H a (.dT kvs) ∧ kvs.map (·.1) = ls.map (fun l => l.map Sum.inr) ∧ ls.length ≤ 1000 ∧ (∀ l ∈ ls, l ≠ []) ∧
  ∀ bs : List It2, bs.map (·.2) = ls → (∀ b ∈ bs, H b.1 = some (.tup (b.2.map V.str))) → ∀ p, H p = none → Q (.ref p) (upd H p (.lst ((sortI bs).map fun b => V.ref b.1)))
theorem keys_items {H : Hp} : ∀ {kvs : List (List Key × V)} {ks : List (List Key × Addr × Value)} {ls : List (List Str)}, KT H kvs ks → kvs.map (·.1) = ls.map (fun l => l.map Sum.inr) →
    ∃ bs : List It2, bs.map (·.2) = ls ∧ bs.map (·.1) = ks.map (fun x => x.2.1) ∧ ∀ b ∈ bs, H b.1 = some (.tup (b.2.map V.str))
  | _, _, [], .nil, _ => ⟨[], rfl, rfl, fun b hb => nomatch hb⟩
  | _, _, _ :: _, .nil, e => by simp at e
  | _, _, [], .cons _ _, e => by simp at e
  | p :: _, q :: _, l :: ls, .cons h t, e => by
    rw [List.map_cons, List.map_cons] at e
    injection e with e1 e2
    obtain ⟨bs, h1, h2, h3⟩ := keys_items t e2
    refine ⟨(q.2.1, l) :: bs, by rw [List.map_cons, h1], by rw [List.map_cons, List.map_cons, h2], fun b hb => ?_⟩
    rcases List.mem_cons.mp hb with rfl | hb
    · have h4 := h.2.1
      rw [e1, kVs_strs] at h4
      exact h4
    · exact h3 b hb
theorem cr_sortT {k : Nat} (hr : Room k X.A) (hc : X.calm = true := by rfl) : CallR X (.builtin "sorted") rSortT := by
  rintro pins s σ H vs us Q I r ⟨a, kvs, ls, rfl, hd, hk, hlen, hne, q⟩
  rw [Vals.ref1 r]
  obtain ⟨z, hs, ks, pr, o, es, ep, ho, hx, hdt, he, hn⟩ := (show ObjOk X.prog X.w H s.heap a (.dT kvs) from hd.ok I.hok)
  obtain ⟨bs, b1, b2, b3⟩ := keys_items pr hk
  have l1 : es.size = ks.length := size_of_entries he
  have l2 : kvs.length = ks.length := Paired.length pr
  have l3 : bs.length = ks.length := by
    have e := congrArg List.length b2
    rwa [List.length_map, List.length_map] at e
  have l4 : bs.length = ls.length := by
    have e := congrArg List.length b1
    rwa [List.length_map] at e
  refine Calls.call_function_entry PyProof.Rows.kind_sorted PyProof.Rows.plain_sorted PyProof.Rows.entry_sorted (PyProof.Rows.args_sorted1 _) ?_
  unfold Builtin.«sorted»
  refine wpAny_bind (m := checkCount "sorted" 1 1 _) (wpAny_pure ?_)
  refine wpAny_bind (PySem.W.kdu_collect (A := X.A.in1) (kdl_raw hs hx hdt) (I.ok.hd hc) ho (by omega) fun h' tk acc kp it => ?_)
  have ea : acc.toList = bs.map fun b => Value.ref b.1 := by
    have hl : acc.toList.length = ks.length := by rw [Array.length_toList, it.1]; exact l1
    apply List.ext_getElem?
    intro j
    have e2 : (bs.map fun b => Value.ref b.1)[j]? = ((ks.map fun x => x.2.1)[j]?).map Value.ref := by
      rw [← b2, List.getElem?_map, List.getElem?_map, Option.map_map]
      rfl
    rw [e2, List.getElem?_map]
    cases hj : acc.toList[j]? with
    | none =>
      rw [List.getElem?_eq_none (by have := List.getElem?_eq_none_iff.mp hj; omega)]
      rfl
    | some v =>
      obtain ⟨en, hen, hv⟩ := it.2 j v (by rw [← Array.getElem?_toList]; exact hj)
      have qe := entry_at he j
      rw [hen] at qe
      cases hb : ks[j]? with
      | none => rw [hb] at qe; cases qe
      | some x =>
        rw [hb] at qe
        have e3 : en = entryOfKey (tupleKind (mixKind X.prog X.w)) x := Option.some.inj qe
        rw [hv, e3]
        rfl
  have I1 : Inv X pins σ H { s with heap := h', toks := tk } := I.kept kp
  have hll : acc.toList.length ≤ 1000 := by rw [ea, List.length_map]; omega
  refine wpAny_bind (wpAny_newList ?_ (Nat.le_trans hll (by decide)))
  have hoL : (h'.push (seqObj "list" acc.toList.toArray 0)).get? h'.objs.size = some (seqObj "list" acc.toList.toArray 0) := Heap.get?_push_size _ rfl
  show wpAny _ _ _ _ _ { s with heap := h'.push (seqObj "list" acc.toList.toArray 0), toks := tk }
  have I2 : Inv X pins σ H { s with heap := h'.push (seqObj "list" acc.toList.toArray 0), toks := tk } := I1.kept (t' := tk) fun b o e => Heap.get?_push_of_some _ e
  have hr1 : X.A.in1.units + 1 + 1 < cLine := by
    have h1 := hr.units
    show X.A.units + 1 + 1 + 1 < cLine
    omega
  rw [ea] at hoL ⊢
  refine wpAny_bind (wpAny_holding (PySem.W.list_sort_data (s := { s with heap := h'.push (seqObj "list" (bs.map fun b => Value.ref b.1).toArray 0), toks := tk }) (R := fun v (b : It2) => v = Value.ref b.1) (bs := bs) (enc := encI) hoL (eachRef bs)
    (each_of fun b m => ⟨[], reads_adr (by rw [ea] at I2; exact I2) (b3 b m), fun z => nomatch z⟩) (alikeI bs) (sortableI fun b m => hne _ (by rw [← b1]; exact List.mem_map.mpr ⟨b, m, rfl⟩)) (Nat.le_trans (by omega : bs.length ≤ 1000) (by decide)) (fun b _ => ?_) fun out hlen2 hout => ?_))
  · have h2 := depth_encA b.2
    show X.A.in1.units + 1 + (encA b.2).depth < cLine
    omega
  · have eo := eachRef_out hout
    obtain ⟨e', he'⟩ := PyProof.Rows.sortedHeap_at (vs := bs.map fun b => Value.ref b.1) (out := out.toArray) hoL
    refine wpAny_pure ⟨_, rfl, .ref h'.objs.size, upd H h'.objs.size (.lst ((sortI bs).map fun b => V.ref b.1)), I1.laid (t' := tk) (fun b u e => ?_) (Nat.le_refl _) (show ObjOk X.prog X.w _ _ _ (.lst ((sortI bs).map fun b => V.ref b.1)) from ⟨?_, out, e', ?_, he'⟩), rfl, q bs b1 b3 _ (I1.hok.fresh (Nat.le_refl _))⟩
    · have hb : b < h'.objs.size := Heap.lt_size e
      rw [PyProof.Rows.sortedHeap_old (Nat.ne_of_lt hb) (by rw [size_push']; exact Nat.lt_succ_of_lt hb)]
      exact Heap.get?_push_of_some _ e
    · rw [List.length_map]
      show (bs.mergeSort _).length ≤ _
      rw [List.length_mergeSort]
      exact Nat.le_trans (by omega : bs.length ≤ 1000) (by decide)
    · rw [eo]
      exact vals_ref2 _
end
end Tf
/-! text TfH -/
/-! more rules by data: calls of built-ins, operators on lists and texts, sorts -/
namespace Tf
open PySem PySem.Spec PyProof.Rows L2
section
variable {X : Cx}
/-! ### names for the readings of the library's rules -/
def rTup (K : PySem.W.Frag) : List V → Hp → VK → Prop := fun xs H Q => ∃ p ys, xs = [V.ref p] ∧ ((SqL K H p ys ∧ ∀ l, H l = none → Q (.ref l) (upd H l (.tup ys))) ∨ (SqT K H p ys ∧ Q (.ref p) H))
theorem cr_tup {K : PySem.W.Frag} (hK : X.K = K := by rfl) : CallR X (.type "tuple") (rTup K) := hK ▸ call_tuple_of
def rLst (K : PySem.W.Frag) : List V → Hp → VK → Prop := fun xs H Q => ∃ p ys, xs = [V.ref p] ∧ (SqL K H p ys ∨ SqT K H p ys) ∧ ∀ l, H l = none → Q (.ref l) (upd H l (.lst ys))
theorem cr_lst {K : PySem.W.Frag} (hK : X.K = K := by rfl) : CallR X (.type "list") (rLst K) := hK ▸ call_list_of
def rLen (K : PySem.W.Frag) : List V → Hp → VK → Prop := fun xs H Q => ∃ p ys, xs = [V.ref p] ∧ (SqL K H p ys ∨ SqT K H p ys) ∧ Q (.int ys.length) H
theorem cr_len {K : PySem.W.Frag} (hK : X.K = K := by rfl) : CallR X (.builtin "len") (rLen K) := hK ▸ call_len_seq
def rAbs : List V → Hp → VK → Prop := fun xs H Q => ∃ i, xs = [V.int i] ∧ Q (.int (if i < 0 then -i else i)) H
theorem cr_abs : CallR X (.builtin "abs") rAbs := call_abs
def rInt : List V → Hp → VK → Prop := fun xs H Q => (∃ i, xs = [V.int i] ∧ Q (.int i) H) ∨ ∃ k, xs = [V.bl k] ∧ Q (.int (if k then 1 else 0)) H
theorem cr_int : CallR X (.type "int") rInt := call_int1
def rMax : List V → Hp → VK → Prop := fun xs H Q => ∃ i j, xs = [V.int i, .int j] ∧ Q (.int (if j > i then j else i)) H
def rMin : List V → Hp → VK → Prop := fun xs H Q => ∃ i j, xs = [V.int i, .int j] ∧ Q (.int (if j < i then j else i)) H
theorem cr_max2 (hc : X.calm = true) : CallR X (.builtin "max") Tf.rMax := call_max2 hc
theorem cr_min2 (hc : X.calm = true) : CallR X (.builtin "min") Tf.rMin := call_min2 hc
def rSortK : List V → Hp → VK → Prop := fun xs H Q => ∃ (a : Addr) (kvs : List (Key × V)) (ks : List Int), xs = [V.ref a] ∧ Rd H a (.dK kvs) ∧ kvs.map (·.1) = ks.map Sum.inl ∧ ks.length < 64 ∧
  ∀ (ys : List Int) (p : Addr), ys.Perm ks → ys.Pairwise (· ≤ ·) → H p = none → Q (.ref p) (upd H p (.lst (ys.map V.int)))
theorem cr_sortK {k : Nat} (_ : Room k X.A) (hc : X.calm = true := by rfl) : CallR X (.builtin "sorted") rSortK := call_sortedDI hc
theorem op_neX {K : PySem.W.Frag} {k : Nat} (hr : Room k X.A) (hK : X.K = K := by rfl) : OpR X (compareOp .NotEq) (rNeD K) := hK ▸ op_neD hr.units
theorem op_eqX {K : PySem.W.Frag} {k : Nat} (hr : Room k X.A) (hK : X.K = K := by rfl) : OpR X (compareOp .Eq) (rEqD K) := hK ▸ op_eqD hr.units
def rCatS : R2 := fun x y H Q => ∃ i j, x = V.str i ∧ y = V.str j ∧ i.length + j.length ≤ sizeLine ∧ Q (.str (i ++ j)) H
theorem op_catS : OpR X (binaryOp .Add) rCatS := op_add_str
def rIsN : R2 := fun x y H Q => y = V.non ∧ Q (.bl (decide (x = .non))) H
theorem op_isNo : OpR X (compareOp .Is) Tf.rIsN := op_isN
def rNotN : R2 := fun x y H Q => y = V.non ∧ Q (.bl (!decide (x = .non))) H
theorem op_notNo : OpR X (compareOp .IsNot) Tf.rNotN := op_notN
end
section
variable {K : PySem.W.Frag} {m : Option LkM} {δ δ' : De} {te ta tb tc : TE} {x y z d : Dat} {ds es : List Dat} {i j : Nat} {Hs H : Hp}
theorem one_inv {vs : List V} (t : TrL K Hs vs [x]) : ∃ v, vs = [v] ∧ Tr K Hs v x := by
  obtain ⟨v, r, rfl, h, t⟩ := t.cons_inv
  cases t
  exact ⟨v, rfl, h⟩
theorem two_inv {vs : List V} (t : TrL K Hs vs [x, y]) : ∃ v u, vs = [v, u] ∧ Tr K Hs v x ∧ Tr K Hs u y := by
  obtain ⟨v, r, rfl, h, t⟩ := t.cons_inv
  obtain ⟨u, rfl, h2⟩ := one_inv t
  exact ⟨v, u, rfl, h, h2⟩
theorem Tr.sq_inv {v : V} (t : Tr K Hs v x) (q : Sq x ds) : ∃ a xs, v = .ref a ∧ (SqL K Hs a xs ∨ SqT K Hs a xs) ∧ TrL K Hs xs ds := by
  cases q with
  | lst => obtain ⟨a, xs, h1, h2, h3⟩ := t.lst_inv; exact ⟨a, xs, h1, .inl h2, h3⟩
  | tup => obtain ⟨a, xs, h1, h2, h3⟩ := t.tup_inv; exact ⟨a, xs, h1, .inr h2, h3⟩
  | scr ns => obtain ⟨a, h1, h2⟩ := t.scr_inv; exact ⟨a, _, h1, .inl h2, trL_ints ns⟩
theorem rc_tup (q : Sq x ds) : RC K (rTup K) [x] (Eq (.tup ds)) := fun Hs H vs s t Q k => by
  obtain ⟨v, rfl, t1⟩ := one_inv t
  cases q with
  | lst =>
    obtain ⟨a, xs, rfl, h2, h3⟩ := t1.lst_inv
    exact ⟨a, xs, rfl, .inl ⟨s.sqL h2, fun l nl => by
      have e := Ext.new (o := .tup xs) s nl
      exact k _ _ _ _ e (.tup upd_same (h3.mono e.le)) rfl⟩⟩
  | tup =>
    obtain ⟨a, xs, rfl, h2, h3⟩ := t1.tup_inv
    exact ⟨a, xs, rfl, .inr ⟨s.sqT h2, k _ H Hs _ .refl t1 rfl⟩⟩
  | scr ns =>
    obtain ⟨a, rfl, h2⟩ := t1.scr_inv
    exact ⟨a, _, rfl, .inl ⟨s.sqL h2, fun l nl => by
      have e := Ext.new (o := .tup (ns.map V.int)) s nl
      exact k _ _ _ _ e (.tup upd_same (trL_ints ns)) rfl⟩⟩
theorem sq_sub {a : Addr} {xs : List V} (s : Sub Hs H) (h : SqL K Hs a xs ∨ SqT K Hs a xs) : SqL K H a xs ∨ SqT K H a xs := h.elim (fun h => .inl (s.sqL h)) fun h => .inr (s.sqT h)
theorem rc_lst (q : Sq x ds) : RC K (rLst K) [x] (Eq (.lst ds)) := fun Hs H vs s t Q k => by
  obtain ⟨v, rfl, t1⟩ := one_inv t
  obtain ⟨a, xs, rfl, h2, h3⟩ := t1.sq_inv q
  exact ⟨a, xs, rfl, sq_sub s h2, fun l nl => by
    have e := Ext.new (o := .lst xs) s nl
    exact k _ _ _ _ e (.lst upd_same (h3.mono e.le)) rfl⟩
theorem rc_len (q : Sq x ds) : RC K (rLen K) [x] (Eq (.int ds.length)) := fun Hs H vs s t Q k => by
  obtain ⟨v, rfl, t1⟩ := one_inv t
  obtain ⟨a, xs, rfl, h2, h3⟩ := t1.sq_inv q
  exact ⟨a, xs, rfl, sq_sub s h2, k _ H Hs _ .refl (.int _) (by rw [h3.length])⟩
theorem rc_abs {a : Int} : RC K rAbs [.int a] (Eq (.int (if a < 0 then -a else a))) := fun Hs H vs s t Q k => by
  obtain ⟨v, rfl, t1⟩ := one_inv t
  cases t1
  exact ⟨a, rfl, k _ H Hs _ .refl (.int _) rfl⟩
theorem rc_int {a : Int} : RC K rInt [.int a] (Eq (.int a)) := fun Hs H vs s t Q k => by
  obtain ⟨v, rfl, t1⟩ := one_inv t
  cases t1
  exact .inl ⟨a, rfl, k _ H Hs _ .refl (.int _) rfl⟩
theorem rc_intB {a : Bool} : RC K rInt [.bl a] (Eq (.int (if a then 1 else 0))) := fun Hs H vs s t Q k => by
  obtain ⟨v, rfl, t1⟩ := one_inv t
  cases t1
  exact .inr ⟨a, rfl, k _ H Hs _ .refl (.int _) rfl⟩
theorem rc_max {a b : Int} : RC K Tf.rMax [.int a, .int b] (Eq (.int (if b > a then b else a))) := fun Hs H vs s t Q k => by
  obtain ⟨v, u, rfl, t1, t2⟩ := two_inv t
  cases t1; cases t2
  exact ⟨a, b, rfl, k _ H Hs _ .refl (.int _) rfl⟩
theorem rc_min {a b : Int} : RC K Tf.rMin [.int a, .int b] (Eq (.int (if b < a then b else a))) := fun Hs H vs s t Q k => by
  obtain ⟨v, u, rfl, t1, t2⟩ := two_inv t
  cases t1; cases t2
  exact ⟨a, b, rfl, k _ H Hs _ .refl (.int _) rfl⟩
/-! ### operators -/
theorem rv_cat (hl : ds.length + es.length ≤ 100000) : RV K rCat (.lst ds) (.lst es) (Eq (.lst (ds ++ es))) := fun Hs H v u s t1 t2 Q k => by
  obtain ⟨a, xs, rfl, h1, h2⟩ := t1.lst_inv0
  obtain ⟨b, ys, rfl, h3, h4⟩ := t2.lst_inv0
  exact ⟨a, b, xs, ys, rfl, rfl, s.lst h1, s.lst h3, by rw [h2.length, h4.length]; exact Nat.le_trans hl (by decide), fun p np => by
    have e := Ext.new (o := .lst (xs ++ ys)) s np
    exact k _ _ _ _ e (.lst upd_same ((h2.append h4).mono e.le)) rfl⟩
theorem trL_rep {xs : List V} (t : TrL K Hs xs ds) : ∀ n : Nat, TrL K Hs (List.replicate n xs).flatten (List.replicate n ds).flatten
  | 0 => .nil
  | n + 1 => by
    rw [List.replicate_succ, List.replicate_succ, List.flatten_cons, List.flatten_cons]
    exact t.append (trL_rep t n)
theorem rv_rep {n : Int} (h0 : 0 ≤ n) (h1 : n ≤ 100000) (hl : ds.length * n.toNat ≤ 100000) : RV K rRep (.lst ds) (.int n) (Eq (.lst (List.replicate n.toNat ds).flatten)) := fun Hs H v u s t1 t2 Q k => by
  obtain ⟨a, xs, rfl, g1, g2⟩ := t1.lst_inv0
  cases t2
  exact ⟨a, n, xs, rfl, rfl, s.lst g1, by omega, by omega, by rw [g2.length]; exact Nat.le_trans hl (by decide), fun p np => by
    have e := Ext.new (o := .lst (List.replicate n.toNat xs).flatten) s np
    exact k _ _ _ _ e (.lst upd_same ((trL_rep g2 n.toNat).mono e.le)) rfl⟩
theorem rv_catS {a b : Str} (h : a.length + b.length ≤ 100000) : RV K rCatS (.str a) (.str b) (Eq (.str (a ++ b))) := fun Hs H v u s t1 t2 Q k => by
  cases t1; cases t2
  exact ⟨a, b, rfl, rfl, Nat.le_trans h (by decide), k _ H Hs _ .refl (.str _) rfl⟩
/-- is it None -/
def isNonD : Dat → Bool
  | .non => true
  | _ => false
theorem non_of {v : V} (t : Tr K Hs v x) : decide (v = V.non) = isNonD x := by cases t <;> rfl
theorem rv_isN : RV K Tf.rIsN x .non (Eq (.bl (isNonD x))) := fun Hs H v u s t1 t2 Q k => by
  cases t2
  exact ⟨rfl, by rw [non_of t1]; exact k _ H Hs _ .refl (.bl _) rfl⟩
theorem rv_notN : RV K Tf.rNotN x .non (Eq (.bl !(isNonD x))) := fun Hs H v u s t1 t2 Q k => by
  cases t2
  exact ⟨rfl, by rw [non_of t1]; exact k _ H Hs _ .refl (.bl _) rfl⟩
end

/-! ### data of the library -/
mutual
def toPy : Dat → PyData
  | .non => .none
  | .bl b => .bool b
  | .int i => .int i
  | .str s => .str s
  | .lst l => .list (toPyL l)
  | .tup l => .tuple (toPyL l)
  | .scr l => .list (l.map .int)
  | .dk _ => .none
  | .dt _ => .none
  | .at _ _ => .none
def toPyL : List Dat → List PyData
  | [] => []
  | d :: ds => toPy d :: toPyL ds
end
mutual
/-- no dict in it -/
def noD : Dat → Bool
  | .lst l => noDL l
  | .tup l => noDL l
  | .dk _ => false
  | .dt _ => false
  | .at _ _ => false
  | _ => true
def noDL : List Dat → Bool
  | [] => true
  | d :: ds => noD d && noDL ds
end
section
variable {K : PySem.W.Frag} {Hs H : Hp}
theorem dp_ints : ∀ ns : List Int, DpAll K H (ns.map V.int) (ns.map .int)
  | [] => .nil
  | n :: ns => .cons (.int n) (dp_ints ns)
mutual
theorem dp_of (s : Sub Hs H) : ∀ {v : V} {d : Dat}, Tr K Hs v d → noD d = true → Dp K H v (toPy d)
  | _, _, .non, _ => by rw [toPy]; exact .non
  | _, _, .bl b, _ => by rw [toPy]; exact .bl b
  | _, _, .int i, _ => by rw [toPy]; exact .int i
  | _, _, .str x, _ => by rw [toPy]; exact .str x
  | _, _, .am h, _ => by
    simp only [toPy, toPyL]
    exact .tup (s.sqT h) (.cons (.int _) (.cons (.int _) .nil))
  | _, _, .scr h, _ => by rw [toPy]; exact .lst (s.sqL h) (dp_ints _)
  | _, _, .lst h t, n => by rw [toPy]; exact .lst (.inl (.inl (s.lst h))) (dpL_of s t (by rw [noD] at n; exact n))
  | _, _, .tup h t, n => by rw [toPy]; exact .tup (.inl (.inl (s.tup h))) (dpL_of s t (by rw [noD] at n; exact n))
  | _, _, .dk h t, n => by rw [noD] at n; cases n
  | _, _, .dt h t, n => by rw [noD] at n; cases n
  | _, _, .at h, n => by rw [noD] at n; cases n
theorem dpL_of (s : Sub Hs H) : ∀ {v : List V} {d : List Dat}, TrL K Hs v d → noDL d = true → DpAll K H v (toPyL d)
  | _, _, .nil, _ => by rw [toPyL]; exact .nil
  | _, _, .cons h t, n => by
    rw [noDL, Bool.and_eq_true] at n
    rw [toPyL]
    exact .cons (dp_of s h n.1) (dpL_of s t n.2)
end
variable {x y : Dat}
theorem rv_neD (h1 : noD x = true) (h2 : noD y = true) (s1 : SeqAt.shaped (toPy x) = true) (s2 : SeqAt.shaped (toPy y) = true) : RV K (rNeD K) x y (Eq (.bl (!PyData.eqv (toPy x) (toPy y)))) := fun Hs H v u s t1 t2 Q k =>
  ⟨_, _, dp_of s t1 h1, dp_of s t2 h2, s1, s2, k _ H Hs _ .refl (.bl _) rfl⟩
theorem rv_eqD (h1 : noD x = true) (h2 : noD y = true) (s1 : SeqAt.shaped (toPy x) = true) (s2 : SeqAt.shaped (toPy y) = true) : RV K (rEqD K) x y (Eq (.bl (PyData.eqv (toPy x) (toPy y)))) := fun Hs H v u s t1 t2 Q k =>
  ⟨_, _, dp_of s t1 h1, dp_of s t2 h2, s1, s2, k _ H Hs _ .refl (.bl _) rfl⟩
theorem shaped_am (a : Am) : SeqAt.shaped (toPy (am a)) = true := by
  simp [am, toPy, toPyL, SeqAt.shaped, PyData.canLay0, PyData.canLayAll0, PyData.depth, PyData.depthAll]
theorem eqv_am (a b : Am) : PyData.eqv (toPy (am a)) (toPy (am b)) = decide (a = b) := by
  obtain ⟨a1, a2⟩ := a
  obtain ⟨b1, b2⟩ := b
  simp only [am, toPy, toPyL, PyData.eqv, PyData.eqvAll, Bool.and_true]
  by_cases h : a1 = b1 <;> by_cases h2 : a2 = b2 <;> simp [h, h2]
theorem rv_neAm (a b : Am) : RV K (rNeD K) (am a) (am b) (Eq (.bl (!decide (a = b)))) := by
  have h := rv_neD (K := K) (x := am a) (y := am b) rfl rfl (shaped_am a) (shaped_am b)
  rw [eqv_am] at h
  exact h
theorem rv_eqAm (a b : Am) : RV K (rEqD K) (am a) (am b) (Eq (.bl (decide (a = b)))) := by
  have h := rv_eqD (K := K) (x := am a) (y := am b) rfl rfl (shaped_am a) (shaped_am b)
  rw [eqv_am] at h
  exact h
theorem eqv_self {x : Dat} (s1 : SeqAt.shaped (toPy x) = true) : PyData.eqv (toPy x) (toPy x) = true := SeqAt.eqv_refl _ (SeqAt.canLay_of_shaped s1)
theorem rv_neSelf (h1 : noD x = true) (s1 : SeqAt.shaped (toPy x) = true) : RV K (rNeD K) x x (Eq (.bl false)) := by
  have h := rv_neD (K := K) h1 h1 s1 s1
  rw [eqv_self s1] at h
  exact h
/-! ### sorts -/
def sortZ (l : List Int) : List Int := l.mergeSort fun a b => decide (a ≤ b)
theorem sortZ_perm (l : List Int) : (sortZ l).Perm l := List.mergeSort_perm _ _
theorem sortZ_sorted (l : List Int) : (sortZ l).Pairwise (· ≤ ·) := by
  have h := List.pairwise_mergeSort (le := fun a b : Int => decide (a ≤ b)) (fun a b c h1 h2 => by simp at *; omega) (fun a b => by simp; omega) l
  exact h.imp fun h => of_decide_eq_true h
theorem sorted_one : ∀ {a b : List Int}, a.Perm b → a.Pairwise (· ≤ ·) → b.Pairwise (· ≤ ·) → a = b
  | [], b, p, _, _ => p.nil_eq
  | x :: a, b, p, h1, h2 => by
    cases b with
    | nil => exact absurd p.symm (by intro q; exact absurd q.nil_eq (by simp))
    | cons y b =>
      obtain ⟨p1, p2⟩ := List.pairwise_cons.mp h1
      obtain ⟨q1, q2⟩ := List.pairwise_cons.mp h2
      have e : x = y := by
        have m1 : x ∈ y :: b := p.mem_iff.mp List.mem_cons_self
        have m2 : y ∈ x :: a := p.mem_iff.mpr List.mem_cons_self
        have g1 : y ≤ x := by
          rcases List.mem_cons.mp m1 with e | e
          · omega
          · exact q1 x e
        have g2 : x ≤ y := by
          rcases List.mem_cons.mp m2 with e | e
          · omega
          · exact p1 y e
        omega
      subst e
      rw [sorted_one (List.perm_cons x |>.mp p) p2 q2]
theorem TrK.keys : ∀ {kvs : List (Key × V)} {l : List (Int × Dat)}, TrK K Hs kvs l → kvs.map (·.1) = (l.map (·.1)).map Sum.inl
  | _, _, .nil => rfl
  | _, _, .cons h t => by rw [List.map_cons, List.map_cons, List.map_cons, TrK.keys t]
theorem TrT.keys : ∀ {kvs : List (List Key × V)} {l : List (List Str × Dat)}, TrT K Hs kvs l → kvs.map (·.1) = (l.map (·.1)).map fun k => k.map Sum.inr
  | _, _, .nil => rfl
  | _, _, .cons h t => by rw [List.map_cons, List.map_cons, List.map_cons, TrT.keys t]
theorem rc_sortK {l : List (Int × Dat)} (hl : l.length < 64) : RC K rSortK [.dk l] (Eq (.lst ((sortZ (l.map (·.1))).map .int))) := fun Hs H vs s t Q k => by
  obtain ⟨v, rfl, t1⟩ := one_inv t
  obtain ⟨a, kvs, rfl, h1, h2⟩ := t1.dk_inv
  refine ⟨a, kvs, l.map (·.1), rfl, s.dK h1, h2.keys, by rw [List.length_map]; exact hl, fun ys p pm pw np => ?_⟩
  have e := Ext.new (o := .lst (ys.map V.int)) s np
  have ey : ys = sortZ (l.map (·.1)) := sorted_one (pm.trans (sortZ_perm _).symm) pw (sortZ_sorted _)
  exact k _ _ _ _ e (.lst upd_same (trL_ints ys)) (by rw [ey])
/-- tuples that stand may be shared -/
theorem ext_tups (s : Sub Hs H) : ∀ (bs : List It2), (∀ b ∈ bs, H b.1 = some (.tup (b.2.map V.str))) → ∃ Hs', Ext Hs H Hs' H ∧ ∀ b ∈ bs, Hs' b.1 = some (.tup (b.2.map V.str))
  | [], _ => ⟨Hs, .refl, fun b hb => nomatch hb⟩
  | b :: bs, h => by
    obtain ⟨Hs1, e1, h1⟩ := ext_tups s bs fun c hc => h c (List.mem_cons_of_mem _ hc)
    have hb := h b List.mem_cons_self
    cases q : Hs1 b.1 with
    | some u =>
      refine ⟨Hs1, e1, fun c hc => ?_⟩
      rcases List.mem_cons.mp hc with rfl | hc
      · rcases (e1.sub s).of _ _ q with z | ⟨z, o, w⟩
        · rw [hb] at z; cases z; exact q
        · rw [hb] at w; cases w
      · exact h1 c hc
    | none =>
      have sm : Same Hs1 (upd Hs1 b.1 (.tup (b.2.map V.str))) := same_updN q
      refine ⟨upd Hs1 b.1 (.tup (b.2.map V.str)), e1.trans ⟨fun a u z => ?_, Same.refl _, sm, fun c u z nt w => ?_⟩, fun c hc => ?_⟩
      · by_cases ca : a = b.1
        · subst ca
          rw [upd_same] at z
          cases z
          exact .inr hb
        · rw [upd_ne ca] at z
          exact .inl z
      · have ca : c ≠ b.1 := fun ca => by
          subst ca
          rw [hb] at z
          cases z
          exact nt _ rfl
        rw [upd_ne ca]
        exact w
      · rcases List.mem_cons.mp hc with rfl | hc
        · exact upd_same
        · exact sm _ _ (h1 c hc)
theorem tr_adr {a : Addr} {l : List Str} (h : Hs a = some (.tup (l.map V.str))) : Tr K Hs (.ref a) (adr l) := .tup h (by
  have e := trL_strs (K := K) (Hs := Hs) l
  rw [kVs_strs] at e
  exact e)
theorem trL_items : ∀ {bs : List It2}, (∀ b ∈ bs, Hs b.1 = some (.tup (b.2.map V.str))) → TrL K Hs (bs.map fun b => V.ref b.1) ((bs.map (·.2)).map adr)
  | [], _ => .nil
  | b :: bs, h => .cons (tr_adr (h b List.mem_cons_self)) (trL_items fun c hc => h c (List.mem_cons_of_mem _ hc))
theorem rc_sortT {l : List (List Str × Dat)} (hl : l.length ≤ 1000) (hn : ∀ p ∈ l, p.1 ≠ []) : RC K rSortT [.dt l] (Eq (.lst ((sortA (l.map (·.1))).map adr))) := fun Hs H vs s t Q k => by
  obtain ⟨v, rfl, t1⟩ := one_inv t
  obtain ⟨a, kvs, rfl, h1, h2⟩ := t1.dt_inv
  refine ⟨a, kvs, l.map (·.1), rfl, s.dT h1, h2.keys, by rw [List.length_map]; exact hl, fun x hx => ?_, fun bs e1 hb p np => ?_⟩
  · obtain ⟨q, hq, rfl⟩ := List.mem_map.mp hx
    exact hn q hq
  · obtain ⟨Hs1, x1, h3⟩ := ext_tups s bs hb
    have x2 := Ext.new (o := .lst ((sortI bs).map fun b => V.ref b.1)) (x1.sub s) np
    have tr : TrL K Hs1 ((sortI bs).map fun b => V.ref b.1) (((sortI bs).map (·.2)).map adr) := trL_items fun b hb => h3 b (sortI_mem.mp hb)
    have ek : (sortI bs).map (·.2) = sortA (l.map (·.1)) := by rw [← e1]; exact sorted_keys bs
    rw [ek] at tr
    exact k _ _ _ _ (x1.trans x2) (.lst upd_same (tr.mono x2.le)) rfl
theorem items_of : ∀ {ls : List (List Str)} {vs : List V}, TrL K Hs vs (ls.map adr) → ∃ bs : List It2, vs = bs.map (fun b => V.ref b.1) ∧ bs.map (·.2) = ls ∧ ∀ b ∈ bs, Hs b.1 = some (.tup (b.2.map V.str))
  | [], _, t => by cases t; exact ⟨[], rfl, rfl, fun b hb => nomatch hb⟩
  | l :: ls, _, t => by
    cases t with
    | cons h t =>
      obtain ⟨bs, e1, e2, e3⟩ := items_of t
      obtain ⟨a, rfl, h1⟩ := Tr.adr_inv h
      rw [kVs_strs] at h1
      refine ⟨(a, l) :: bs, by rw [e1]; rfl, by rw [List.map_cons, e2], fun b hb => ?_⟩
      rcases List.mem_cons.mp hb with rfl | hb
      · exact h1
      · exact e3 b hb
theorem rc_sortL {ls : List (List Str)} (hl : ls.length ≤ 1000) (hn : ∀ l ∈ ls, l ≠ []) : RC K (rSortL K) [.lst (ls.map adr)] (Eq (.lst ((sortA ls).map adr))) := fun Hs H vs s t Q k => by
  obtain ⟨v, rfl, t1⟩ := one_inv t
  obtain ⟨a, xs, rfl, h1, h2⟩ := t1.lst_inv
  obtain ⟨bs, rfl, e2, e3⟩ := items_of h2
  refine ⟨a, bs, rfl, s.sqL h1, ⟨by rw [← e2, List.length_map] at hl; exact hl, fun b hb => ⟨hn _ (by rw [← e2]; exact List.mem_map.mpr ⟨b, hb, rfl⟩), s.tup (e3 b hb)⟩⟩, fun p np => ?_⟩
  have x2 := Ext.new (o := .lst ((sortI bs).map fun b => V.ref b.1)) s np
  have tr : TrL K Hs ((sortI bs).map fun b => V.ref b.1) (((sortI bs).map (·.2)).map adr) := trL_items fun b hb => e3 b (sortI_mem.mp hb)
  have ek : (sortI bs).map (·.2) = sortA ls := by rw [← e2]; exact sorted_keys bs
  rw [ek] at tr
  exact k _ _ _ _ x2 (.lst upd_same (tr.mono x2.le)) rfl
end
end Tf
/-! text TfI -/
/-! a dict that a loop locks; dict comprehensions; zip, enumerate -/
namespace Tf
open PySem PySem.Spec PyProof.Rows L2
section
variable {K : PySem.W.Frag} {m : Option LkM} {δ δ' : De} {te ta tb tc tk tv : TE} {tt : TT} {ts : TS} {P : Pt} {x y z d : Dat} {ds es : List Dat} {i j : Nat} {S : List Dat → Prop} {R : Dat → Prop}
/-- a slot holds a dict that is shared -/
def IsDk (δ : De) (i : Nat) : Prop := (∃ l, δ[i]? = some (some (.imm (.dk l)))) ∨ ∃ l, δ[i]? = some (some (.imm (.dt l)))
theorem SR.isDk {Hs0 H0 Hs H : Hp} {σ : L2.St} (r : SR K none Hs0 H0 Hs H σ δ) (h : IsDk δ i) : ∃ p u, σ[i]? = some (some (.ref p)) ∧ Hs p = some u ∧ DictO u := by
  rcases h with ⟨l, h⟩ | ⟨l, h⟩
  · obtain ⟨v, h1, h2⟩ := r.imm h
    obtain ⟨p, kvs, rfl, q1, q2⟩ := h2.dk_inv
    exact ⟨p, _, h1, q1, .inl ⟨kvs, rfl⟩⟩
  · obtain ⟨v, h1, h2⟩ := r.imm h
    obtain ⟨p, kvs, rfl, q1, q2⟩ := h2.dt_inv
    exact ⟨p, _, h1, q1, .inr ⟨kvs, rfl⟩⟩
open Classical in
/-- what stood at the lock, without what may still change -/
noncomputable def lockH0 (Hs H0 Hl : Hp) : Hp := fun a => if Hs a = none ∧ H0 a = none then none else Hl a
theorem SR.lock {Hs0 H0 Hs H : Hp} {σ : L2.St} (r : SR K none Hs0 H0 Hs H σ δ) {p : Addr} {u : HO} (h1 : σ[i]? = some (some (.ref p))) (h2 : Hs p = some u) (h3 : DictO u) (od : Obj) :
    SR K (some ⟨i, p, od, u⟩) Hs (lockH0 Hs H0 (upd H p (.frz od u))) Hs (upd H p (.frz od u)) σ δ := by
  have ex : Same Hs H := r.lk
  have far : ∀ b, Hs b = none → b ≠ p := fun b e c => by rw [c, h2] at e; cases e
  have nn : ∀ b, Hs b = none → H0 b = none → lockH0 Hs H0 (upd H p (.frz od u)) b = none := fun b e1 e2 => by unfold lockH0; rw [if_pos ⟨e1, e2⟩]
  refine ⟨⟨fun a w e => .inl e, fun a w e => ?_, Same.refl _, fun b w _ _ e => e⟩, ⟨h1, upd_same, h2, h3, fun a w n e => by rw [upd_ne n]; exact ex _ _ e⟩, r.len, fun j t e => ?_, r.dis⟩
  · unfold lockH0 at e
    split at e
    · cases e
    · exact e
  · obtain ⟨v, q1, q2⟩ := r.at_ j t e
    refine ⟨v, q1, ?_⟩
    cases t with
    | imm d => exact q2
    | ol ds => obtain ⟨b, xs, a1, a2, a3, a4, a5⟩ := q2; exact ⟨b, xs, a1, by rw [upd_ne (far b a4)]; exact a2, a3, a4, nn b a4 a5⟩
    | ok ds => obtain ⟨b, xs, a1, a2, a3, a4, a5⟩ := q2; exact ⟨b, xs, a1, by rw [upd_ne (far b a4)]; exact a2, a3, a4, nn b a4 a5⟩
    | ot ds => obtain ⟨b, xs, a1, a2, a3, a4, a5⟩ := q2; exact ⟨b, xs, a1, by rw [upd_ne (far b a4)]; exact a2, a3, a4, nn b a4 a5⟩
/-- the lock is taken away -/
theorem SR.unlock {Hs0 H0 Hs H Hs' H' : Hp} {σ σ' : L2.St} {δ' : De} (r : SR K none Hs0 H0 Hs H σ δ) {p : Addr} {u : HO} (h1 : σ[i]? = some (some (.ref p))) (h2 : Hs p = some u) (h3 : DictO u) (od : Obj)
    (r' : SR K (some ⟨i, p, od, u⟩) Hs (lockH0 Hs H0 (upd H p (.frz od u))) Hs' H' σ' δ') : H' p = some (.frz od u) ∧ SR K none Hs0 H0 Hs' (upd H' p u) σ' δ' := by
  have ex : Same Hs H := r.lk
  obtain ⟨g1, g2, g3, g4, g5⟩ := r'.lk
  have g2 : H' p = some (.frz od u) := g2
  have g3 : Hs' p = some u := g3
  have old : ∀ a w, (Hs a ≠ none ∨ H0 a ≠ none) → a ≠ p → H a = some w → H' a = some w := fun a w c n e => by
    refine r'.ext.same a w ?_
    unfold lockH0
    rw [if_neg fun z => c.elim (fun c => c z.1) fun c => c z.2, upd_ne n]
    exact e
  refine ⟨g2, ⟨fun a w e => ?_, fun a w e => ?_, r.ext.le.trans r'.ext.le, fun b w e nt n => ?_⟩, fun a w e => ?_, r'.len, fun j t e => ?_, r'.dis⟩
  · by_cases c : a = p
    · subst c
      rw [g3] at e
      cases e
      exact .inr upd_same
    · rcases r'.ext.nu a w e with q | q
      · rcases r.ext.nu a w q with z | z
        · exact .inl z
        · exact .inr (by rw [upd_ne c]; exact old a w (.inl (by rw [q]; simp)) c z)
      · exact .inr (by rw [upd_ne c]; exact q)
  · have e1 := r.ext.same a w e
    by_cases c : a = p
    · subst c
      rw [ex _ _ h2] at e1
      cases e1
      exact upd_same
    · rw [upd_ne c]
      exact old a w (.inr (by rw [e]; simp)) c e1
  · have e1 := r.ext.same b w e
    have n1 : Hs b = none := r.ext.out b w e nt n
    have c : b ≠ p := fun c => by rw [c, h2] at n1; cases n1
    refine r'.ext.out b w ?_ nt n1
    unfold lockH0
    rw [if_neg fun z => by rw [e] at z; exact absurd z.2 (by simp), upd_ne c]
    exact e1
  · by_cases c : a = p
    · subst c
      rw [g3] at e
      cases e
      exact upd_same
    · rw [upd_ne c]
      exact g5 a w c e
  · obtain ⟨v, q1, q2⟩ := r'.at_ j t e
    refine ⟨v, q1, ?_⟩
    have far : ∀ b, Hs' b = none → b ≠ p := fun b e c => by rw [c, g3] at e; cases e
    have z : ∀ b, lockH0 Hs H0 (upd H p (.frz od u)) b = none → b ≠ p → H0 b = none := fun b e n => by
      unfold lockH0 at e
      split at e
      · next c => exact c.2
      · rw [upd_ne n] at e
        exact r.none0 e
    cases t with
    | imm d => exact q2
    | ol ds => obtain ⟨b, xs, a1, a2, a3, a4, a5⟩ := q2; exact ⟨b, xs, a1, by rw [upd_ne (far b a4)]; exact a2, a3, a4, z b a5 (far b a4)⟩
    | ok ds => obtain ⟨b, xs, a1, a2, a3, a4, a5⟩ := q2; exact ⟨b, xs, a1, by rw [upd_ne (far b a4)]; exact a2, a3, a4, z b a5 (far b a4)⟩
    | ot ds => obtain ⟨b, xs, a1, a2, a3, a4, a5⟩ := q2; exact ⟨b, xs, a1, by rw [upd_ne (far b a4)]; exact a2, a3, a4, z b a5 (far b a4)⟩
theorem mut_dict {u : HO} (h : DictO u) : Mut (some u) := by
  rcases h with ⟨k, rfl⟩ | ⟨k, rfl⟩ <;> trivial
/-- a statement that locks the dict of slot i -/
theorem t_lock (hi : IsDk δ i) (h : ∀ M : LkM, M.i = i → T K (some M) ts δ { nx := P.nx }) : T K none (tLock ts) δ P := fun Hs0 H0 Hs H σ D r k1 k2 k3 k4 => by
  obtain ⟨p, u, h1, h2, h3⟩ := r.isDk hi
  have ex : Same Hs H := r.lk
  refine ⟨p, u, ex _ _ h2, mut_dict h3, fun od => ?_⟩
  refine h ⟨i, p, od, u⟩ rfl Hs _ Hs (upd H p (.frz od u)) σ _ (r.lock h1 h2 h3 od) (fun σ' H' Hs' δ' r' e q => ?_) (fun _ _ _ _ _ _ q _ => q.elim) (fun _ _ _ _ _ _ q => q.elim) fun _ _ _ _ _ _ q => q.elim
  obtain ⟨g, r2⟩ := r.unlock h1 h2 h3 od r'
  exact ⟨g, k1 σ' _ Hs' δ' r2 e q⟩
/-- a new dict, made while the dict of slot i is locked -/
theorem evo_lock {R : List (Int × Dat) → Prop} (hi : IsDk δ i) (h : ∀ M : LkM, M.i = i → EvOK K (some M) te δ R) : EvOK K none (tLockE te) δ R := fun Hs0 H0 Hs H σ r Q k => by
  obtain ⟨p, u, h1, h2, h3⟩ := r.isDk hi
  have ex : Same Hs H := r.lk
  refine ⟨p, u, ex _ _ h2, mut_dict h3, fun od => ?_⟩
  have rl := r.lock h1 h2 h3 od
  refine h ⟨i, p, od, u⟩ rfl Hs _ Hs (upd H p (.frz od u)) σ rl _ fun q kvs H' Hs' ds nq e hs hH t b => ?_
  have hp : H' p = some (.frz od u) := e.same _ _ upd_same
  have nqp : q ≠ p := fun c => by rw [c, upd_same] at nq; cases nq
  refine ⟨hp, k q kvs (upd H' p u) Hs' ds (by rw [upd_ne nqp] at nq; exact nq) ⟨fun a w z => ?_, fun a w z => ?_, e.le, fun a w z nt n => ?_⟩ hs (by rw [upd_ne nqp]; exact hH) t b⟩
  · by_cases c : a = p
    · subst c
      rw [e.le _ _ h2] at z
      cases z
      exact .inl h2
    · rcases e.nu a w z with g | g
      · exact .inl g
      · exact .inr (by rw [upd_ne c]; exact g)
  · by_cases c : a = p
    · subst c
      rw [ex _ _ h2] at z
      cases z
      exact upd_same
    · rw [upd_ne c]
      exact e.same a w (by rw [upd_ne c]; exact z)
  · have c : a ≠ p := fun c => by rw [c, h2] at n; cases n
    exact e.out a w (by rw [upd_ne c]; exact z) nt n
/-- a new dict is shared at once -/
theorem evp_of_ok {A : List (Int × Dat) → Prop} (h : EvOK K m te δ A) (q : ∀ l, A l → R (.dk l)) : EvP K m te δ R := fun Hs0 H0 Hs H σ r Q k =>
  h _ _ _ _ _ r _ fun p kvs H' Hs' ds np e hs hH t a => by
    have sm : Same Hs' (upd Hs' p (.dK kvs)) := same_updN hs
    refine k (.ref p) H' (upd Hs' p (.dK kvs)) (.dk ds) ⟨fun b w z => ?_, e.same, e.le.trans sm, fun b w z nt n => ?_⟩ (.dk upd_same (t.mono sm)) (q ds a)
    · by_cases c : b = p
      · subst c
        rw [upd_same] at z
        cases z
        exact .inr hH
      · rw [upd_ne c] at z
        exact e.nu b w z
    · rw [upd_ne (ne_of_none z np)]
      exact e.out b w z nt n
/-- the keys of the locked dict -/
theorem evi_keysK {M : LkM} {l : List (Int × Dat)} (hM : M.i = i) (h : δ[i]? = some (some (.imm (.dk l)))) : EvI K (some M) (iKeys (tVar i)) δ (Eq (l.map fun p => .int p.1)) := fun Hs0 H0 Hs H σ r R k => by
  obtain ⟨v, h1, h2⟩ := r.imm h
  obtain ⟨p, kvs, rfl, q1, q2⟩ := h2.dk_inv
  subst hM
  obtain ⟨g1, g2, g3, g4, g5⟩ := r.lk
  rw [h1] at g1
  injection g1 with g1
  injection g1 with g1
  injection g1 with g1
  subst g1
  have eu : M.u = .dK kvs := by rw [q1] at g3; exact (Option.some.inj g3).symm
  refine ⟨_, h1, M.d, M.od, rfl, .inl ⟨kvs, by rw [g2, eu], k _ H Hs _ .refl rfl ⟨fun n Hs' H' e s lk hl => ?_, fun n x Hs' H' e s lk hx => ?_, fun n x Hs' H' w H2 e s lk hx hy => ?_⟩⟩⟩
  · have lk : H' M.d = some (.frz M.od M.u) := lk
    rw [eu] at lk
    exact ⟨lk, by rw [q2.length]; rw [List.length_map] at hl; exact hl⟩
  · have lk : H' M.d = some (.frz M.od M.u) := lk
    rw [eu] at lk
    have := (List.getElem?_eq_some_iff.mp hx).1
    exact ⟨lk, by rw [q2.length]; rw [List.length_map] at this; exact this⟩
  · obtain ⟨rfl, kk, vv, hk, rfl⟩ := hy
    rw [List.getElem?_map] at hx
    have e3 : (kvs.map (·.1))[n]? = some kk := by rw [List.getElem?_map, hk]; rfl
    rw [q2.keys, List.getElem?_map, List.getElem?_map] at e3
    cases hl : l[n]? with
    | none => rw [hl] at hx; cases hx
    | some pr =>
      rw [hl] at e3 hx
      cases hx
      cases e3
      exact ⟨Hs', .refl, .int _⟩
theorem evi_keysT {M : LkM} {l : List (List Str × Dat)} (hM : M.i = i) (h : δ[i]? = some (some (.imm (.dt l)))) : EvI K (some M) (iKeys (tVar i)) δ (Eq (l.map fun p => adr p.1)) := fun Hs0 H0 Hs H σ r R k => by
  obtain ⟨v, h1, h2⟩ := r.imm h
  obtain ⟨p, kvs, rfl, q1, q2⟩ := h2.dt_inv
  subst hM
  obtain ⟨g1, g2, g3, g4, g5⟩ := r.lk
  rw [h1] at g1
  injection g1 with g1
  injection g1 with g1
  injection g1 with g1
  subst g1
  have eu : M.u = .dT kvs := by rw [q1] at g3; exact (Option.some.inj g3).symm
  refine ⟨_, h1, M.d, M.od, rfl, .inr ⟨kvs, by rw [g2, eu], k _ H Hs _ .refl rfl ⟨fun n Hs' H' e s lk hl => ?_, fun n x Hs' H' e s lk hx => ?_, fun n x Hs' H' w H2 e s lk hx hy => ?_⟩⟩⟩
  · have lk : H' M.d = some (.frz M.od M.u) := lk
    rw [eu] at lk
    exact ⟨lk, by rw [q2.length]; rw [List.length_map] at hl; exact hl⟩
  · have lk : H' M.d = some (.frz M.od M.u) := lk
    rw [eu] at lk
    have := (List.getElem?_eq_some_iff.mp hx).1
    exact ⟨lk, by rw [q2.length]; rw [List.length_map] at this; exact this⟩
  · obtain ⟨rfl, kk, vv, b, hk, rfl, hb⟩ := hy
    rw [List.getElem?_map] at hx
    have e3 : (kvs.map (·.1))[n]? = some kk := by rw [List.getElem?_map, hk]; rfl
    rw [q2.keys, List.getElem?_map, List.getElem?_map] at e3
    cases hl : l[n]? with
    | none => rw [hl] at hx; cases hx
    | some pr =>
      rw [hl] at e3 hx
      cases hx
      cases e3
      rw [kVs_strs] at hb
      obtain ⟨Hs2, x1, h3⟩ := ext_tups s [(b, pr.1)] fun c hc => by rw [List.mem_singleton.mp hc]; exact hb
      exact ⟨Hs2, x1, tr_adr (h3 _ List.mem_cons_self)⟩
/-! ### dict comprehensions -/
theorem aput_len {κ α : Type} [DecidableEq κ] (l : List (κ × α)) (k : κ) (v : α) : (aput l k v).length ≤ l.length + 1 := by
  unfold aput
  split
  · rw [List.length_map]; omega
  · rw [List.length_append, List.length_singleton]; omega
theorem fold_len {κ α β : Type} [DecidableEq κ] (g : β → κ) (h : β → α) : ∀ (l : List β) (acc : List (κ × α)), (l.foldl (fun acc p => aput acc (g p) (h p)) acc).length ≤ acc.length + l.length
  | [], acc => by simp
  | p :: l, acc => by
    have h1 := fold_len g h l (aput acc (g p) (h p))
    have h2 := aput_len acc (g p) (h p)
    rw [List.foldl_cons, List.length_cons]
    omega
theorem evo_dc {α : Type} {l : List α} {enc : α → Dat} {wi : TI} {gt : TG} {vs : List Nat} (f : α → Bool) (g : α → Int) (F : α → Dat) (hw : EvI K m wi δ (Eq (l.map enc))) (hv : ∀ v ∈ vs, Offm m v) (hl : l.length ≤ 100000)
    (hs : ∀ x, x ∈ l → ∃ δx js, EvG K m gt (enc x) (wipeD δ vs) δx js ∧ (∀ j ∈ js, j ∈ vs) ∧ EvB K m tt δx (f x) ∧ (f x = true → EvP K m tk δx (Eq (.int (g x))) ∧ EvP K m tv δx (Eq (F x)))) :
    EvOK K m (tDc wi gt tt tk tv vs) δ (Eq ((l.filter f).foldl (fun acc x => aput acc (g x) (F x)) [])) := fun Hs0 H0 Hs H σ r Q k =>
  hw _ _ _ _ _ r _ fun J H1 Hs1 ds e1 sd wk D nD => by
    subst sd
    have r1 := r.grow e1
    have sD : Hs1 D = none := r1.sub.none nD
    refine ⟨fun n mm H' => ∃ Hs' ws, Ext Hs1 H1 Hs' H' ∧ H' D = some (.dK ws) ∧ Hs' D = none ∧ TrK K Hs' ws (((l.take n).filter f).foldl (fun acc x => aput acc (g x) (F x)) []) ∧ n + mm = l.length,
      ⟨l.length, Hs1, [], Ext.own nD, upd_same, sD, .nil, by omega⟩, ?_⟩
    rintro n mm H' ⟨Hs', ws, e', hD, nD', tr, hn⟩
    have r' := r1.grow e'
    by_cases c : n < l.length
    · have hx0 : l[n]? = some l[n] := List.getElem?_eq_getElem c
      have hx : (l.map enc)[n]? = some (enc l[n]) := by rw [List.getElem?_map, hx0]; rfl
      obtain ⟨δx, js, hg, hj, hb, he⟩ := hs l[n] (List.getElem_mem c)
      refine .inr ⟨wk.go n _ Hs' H' e'.le r'.sub r'.lk.h hx, fun H2 => ∃ Hs2 ws, Ext Hs1 H1 Hs2 H2 ∧ H2 D = some (.dK ws) ∧ Hs2 D = none ∧ TrK K Hs2 ws (((l.take (n + 1)).filter f).foldl (fun acc x => aput acc (g x) (F x)) []), ?_, fun v H2 hy => ?_⟩
      · rintro H2 ⟨Hs2, ws2, a1, a2, a3, a4⟩
        exact ⟨mm - 1, by omega, Hs2, ws2, a1, a2, a3, a4, by omega⟩
      · obtain ⟨Hs2, e2, t2⟩ := wk.yld n _ Hs' H' v H2 e'.le r'.sub r'.lk.h hx hy
        refine hg _ _ _ _ _ v ((r'.grow e2).wipe hv) t2 _ fun σ3 r3 hwp => ⟨?_, ?_⟩
        · rw [hwp vs hj]
          have idem : ∀ us : List Nat, (∀ u ∈ us, u ∈ vs) → wipe (wipe σ us) vs = wipe σ vs := by
            intro us
            induction us with
            | nil => intro _; rfl
            | cons u us ih =>
              intro hu
              show wipe ((wipe σ us).set u none) vs = _
              rw [wipe_set (hu u List.mem_cons_self), ih fun z hz => hu z (List.mem_cons_of_mem _ hz)]
          exact idem vs fun _ h => h
        · refine hb _ _ _ _ _ r3 _ fun H3 Hs3 e3 => ?_
          have nt : ∀ xs, HO.dK ws ≠ .tup xs := fun xs e => nomatch e
          have e13 : Ext Hs1 H1 Hs3 H3 := (e'.trans e2).trans e3
          have hD2 : H2 D = some (.dK ws) := e2.same _ _ hD
          have hD3 : H3 D = some (.dK ws) := e3.same _ _ hD2
          have nD2 : Hs2 D = none := e2.out D _ hD nt nD'
          have nD3 : Hs3 D = none := e3.out D _ hD2 nt nD2
          have tk := take_one hx0
          cases hf : f l[n] with
          | true =>
            obtain ⟨hk, hv2⟩ := he hf
            refine iteT (hk _ _ _ _ _ (r3.grow e3) _ fun y H4 Hs4 d e4 t4 p4 => hv2 _ _ _ _ _ ((r3.grow e3).grow e4) _ fun z H5 Hs5 d5 e5 t5 p5 => ?_)
            cases p4
            cases t4
            cases p5
            have hD4 : H4 D = some (.dK ws) := e4.same _ _ hD3
            have nD4 : Hs4 D = none := e4.out D _ hD3 nt nD3
            have nD5 : Hs5 D = none := e5.out D _ hD4 nt nD4
            have efl : (l.take (n + 1)).filter f = (l.take n).filter f ++ [l[n]] := by
              rw [tk, List.filter_append]
              have e5 : [l[n]].filter f = [l[n]] := by simp [hf]
              rw [e5]
            refine ⟨ws, .inl (g l[n]), rfl, e5.same _ _ hD4, ?_, Hs5, putK ws (.inl (g l[n])) z, lc_grow ((e13.trans e4).trans e5) nD nD5, upd_same, nD5, ?_⟩
            · have hz := tr.length
              have h0 := fold_len g F ((l.take n).filter f) []
              have h1 := List.length_filter_le f (l.take n)
              rw [List.length_take] at h1
              have h3 : (100000 : Nat) < sizeLine := by decide
              have h6 : ([] : List (Int × Dat)).length = 0 := rfl
              omega
            · rw [efl, List.foldl_append]
              exact (tr.mono (((e2.le.trans e3.le).trans e4.le).trans e5.le)).put t5
          | false =>
            have efl : (l.take (n + 1)).filter f = (l.take n).filter f := by
              rw [tk, List.filter_append]
              have e5 : [l[n]].filter f = [] := by simp [hf]
              rw [e5, List.append_nil]
            refine iteF ⟨Hs3, ws, e13, hD3, nD3, ?_⟩
            rw [efl]
            exact tr.mono (e2.le.trans e3.le)
    · have hn' : n = l.length := by omega
      subst hn'
      rw [List.take_length] at tr
      refine .inl ⟨wk.stop _ Hs' H' e'.le r'.sub r'.lk.h (by rw [List.length_map]; exact Nat.le_refl _), ?_⟩
      have nDH : H D = none := by
        cases q : H D with
        | none => rfl
        | some o => rw [e1.same _ _ q] at nD; cases nD
      exact k D ws H' Hs' _ nDH (e1.trans e') nD' hD tr rfl
end
end Tf
/-! text TfJ -/
/-! walking pairs: enumerate of a list or a tuple, zip of two tuples; a dict with one pair; comprehensions of dicts by addresses, into a local -/
namespace Tf
open PySem PySem.Spec PyProof.Rows L2

/-! ### enumerate of a tuple -/
set_option maxHeartbeats 1000000 in
theorem meets_enumT (l : Addr) (items : Array Value) (o : Obj) :
    Meets (Builtin.«enumerate.__new__» ⟨[.type "enumerate", .ref l], []⟩) (fun _ R s => s.heap.IsTuple l items ∧
      R (.ok (.ret (.ref (s.heap.push { cls := .type "tuple_iterator", data := .fields #[.ref l, .int 0 0] }).objs.size)))
        { s with heap := (s.heap.push { cls := .type "tuple_iterator", data := .fields #[.ref l, .int 0 0] }).push { cls := .type "enumerate", data := .fields #[.none, .bool false, .ref s.heap.objs.size, rawInt 0, .none, .none] } }) :=
  .of_wp fun prog w A R s h => by
    obtain ⟨hp, g, d, tk, os⟩ := s; obtain ⟨hL, h⟩ := h
    have hsub := sub_enumerate
    have q1 : ∀ {A' : Around} {E : Value → Shared → Prop} {Q : Value → Shared → Prop}, Q (.ref hp.objs.size) ⟨hp.push { cls := .type "tuple_iterator", data := .fields #[.ref l, .int 0 0] }, g, d, tk, os⟩ → wpAny (model prog w) A' (pyIter (.ref l)) Q E ⟨hp, g, d, tk, os⟩ :=
      fun q => wpAny_pyIter_tuple hL q
    wp_walk using q1
    refine wpAny_stack_any fun st => wpAny_pure ?_
    split
    · rename_i c _ _ _ _ _
      cases (c == Value.type "enumerate")
      · wp_walk using q1
        exact ⟨_, rfl, h⟩
      · wp_walk using q1
        exact ⟨_, rfl, h⟩
    · wp_walk using q1
      exact ⟨_, rfl, h⟩
theorem call_enumT {prog : Program} {w : World} {A : Around} {E : Value → Shared → Prop} {s : Shared} {l : Addr} {items : Array Value} {Q : Value → Shared → Prop} (hL : s.heap.IsTuple l items)
    (h : ∀ h', IsEnum h' (s.heap.objs.size + 1) s.heap.objs.size 0 .none → h'.IsTupleIter s.heap.objs.size l 0 → (∀ b o, s.heap.get? b = some o → h'.get? b = some o) → Q (.ref (s.heap.objs.size + 1)) { s with heap := h' }) :
    wpAny (model prog w) A (call (.type "enumerate") [.ref l]) Q E s := by
  obtain ⟨o, ho, _⟩ := id hL
  refine callType_new F.called_enumerate (by decide) (F.typeCall_enumerate_1 _) (F.newCall_enumerate_1 _) (fun obj => F.args_object_init_2 obj _) F.entry_enumerate_new (meets_enumT l items o) ⟨hL, ?_⟩
  generalize ei : ({ cls := .type "tuple_iterator", data := .fields #[.ref l, .int 0 0] } : Obj) = oi
  have fr : oi.isFreed = false := by rw [← ei]; rfl
  have hz : (s.heap.push oi).objs.size = s.heap.objs.size + 1 := Heap.size_push ..
  show _ ∧ _
  have he := Heap.get?_push_size (s.heap.push oi) (o := { cls := .type "enumerate", data := .fields #[.none, .bool false, .ref s.heap.objs.size, rawInt 0, .none, .none] }) rfl
  rw [hz] at he ⊢
  refine ⟨⟨_, he, rfl⟩, h _ he ⟨oi, Heap.get?_push_of_some _ (Heap.get?_push_size _ fr), by rw [← ei], by rw [← ei]; rfl⟩ fun b o x => Heap.get?_push_of_some _ (Heap.get?_push_of_some _ x)⟩
/-- the tuple at a, each item in a new pair with its place -/
def IteT (K : PySem.W.Frag) (a : Addr) : It :=
  ⟨fun i H => ∃ (xs : List V) (x : V), SqT K H a xs ∧ xs[i]? = some x, fun i H v H' => ∃ T x, v = .ref T ∧ H T = none ∧ H' = upd H T (.tup [.int (i : Nat), x]) ∧ ∀ xs, SqT K H a xs → xs[i]? = some x, fun i H => ∃ xs : List V, SqT K H a xs ∧ xs.length ≤ i⟩
theorem turn_enumT {P : Program} {w : World} {K : PySem.W.Frag} {elts : List Expr} {kk : Nat} {tpos : Pos} (a e it : Addr) :
    Turn P w K (.Tuple elts kk tpos) (IteT K a) [e, it] e (fun i h => (∃ old, IsEnum h e it ((i : Nat) : Int) old) ∧ h.IsTupleIter it a i ∧ e ≠ it ∧ a ≠ it ∧ e ≠ a) where
  mem := by simp
  obj := fun i h st b hb => by
    obtain ⟨⟨old, he⟩, ⟨o, ho, hc, hd⟩, _⟩ := st
    have e' : b = e ∨ b = it := by simpa using hb
    rcases e' with z | z
    · rw [z]; exact ⟨_, he, fun v q => nomatch q⟩
    · rw [z]; exact ⟨o, ho, fun v q => by rw [hd] at q; cases q⟩
  keep := fun i h h' st k => let ⟨⟨old, he⟩, hi, hne⟩ := st; ⟨⟨old, k e (by simp) _ he⟩, hi.at fun o q => k it (by simp) o q, hne⟩
  item := by
    intro X hP hw hK hc i pins s σ H E I hf st hg
    subst hP hw hK
    obtain ⟨⟨old, he⟩, hit, hne, hne2, hne3⟩ := st
    obtain ⟨xs, x, hq, hx⟩ := hg
    obtain ⟨its, rv, p, hz⟩ := I.tuple hq
    obtain ⟨u, hu, ru⟩ := rv.get hx
    have hel : e < s.heap.objs.size := Heap.lt_size he
    have hil : it < s.heap.objs.size := by obtain ⟨_, q, _⟩ := hit; exact Heap.lt_size q
    have hi' : i < its.toArray.size := by
      have := (List.getElem?_eq_some_iff.mp hu).1
      simpa using this
    have D : Draws X.prog X.w X.A.in1 it [it, a] its.toArray.size (fun i v => its.toArray[i]? = some v) (fun i h => h.IsTupleIter it a i ∧ h.IsTuple a its.toArray) := Draws.tuple (A := X.A.in1) (I.ok.hd hc) it a hne2 its.toArray
    refine wpAny_pyNext_enum_itemD D he ⟨hit, p⟩ hi' hne (by simp [hne, hne3]) fun x' h' tk hP ho hit' hT hsz hk => ?_
    have ex : x' = u := by
      have hP : its[i]? = some x' := by simpa using hP
      rw [hu] at hP
      exact (Option.some.inj hP).symm
    subst ex
    refine ⟨_, rfl, wpAny_letOwnedTupleGo_enum (s := { s with heap := h', toks := tk + 1 }) ho fun h'' he' sb => ?_⟩
    have hT2 : h''.get? s.heap.objs.size = some { cls := .type "tuple", data := .seq #[.int i tk, x'] } := (sb.2 _ (Nat.ne_of_gt hel)).trans hT
    have new : ObjOk X.prog X.w (upd H s.heap.objs.size (.tup [.int (i : Nat), x])) h'' s.heap.objs.size (.tup [.int (i : Nat), x]) :=
      ⟨by show 2 ≤ sizeLine; decide, [.int i tk, x'], .cons ⟨_, rfl⟩ (.cons ru .nil), ⟨_, hT2, rfl, _, rfl⟩⟩
    have I1 : Inv X pins σ (upd H s.heap.objs.size (.tup [.int (i : Nat), x])) { s with heap := h'', toks := tk + 1 } :=
      I.turnedNew (ch := [e, it]) (fun b ob hb q => (sb.2 b (fun z => hb (by simp [z]))).trans (hk b ob (fun z => hb (by simp [z])) (fun z => hb (by simp [z])) q)) hf (Nat.le_refl _) new
    refine ⟨.ref s.heap.objs.size, _, I1, rfl, ⟨_, x, rfl, I.hok.fresh (Nat.le_refl _), rfl, fun ys hy => by rw [I.tuple_inj hy hq]; exact hx⟩, ⟨⟨x', ?_⟩, hit'.1.at fun o q => (sb.2 it (Ne.symm hne)).trans q, hne, hne2, hne3⟩, fun b hb => ?_⟩
    · have e1 : ((i + 1 : Nat) : Int) = (i : Int) + 1 := by omega
      rw [e1]; exact he'
    · have hb' : b < s.heap.objs.size := by
        have e' : b = e ∨ b = it := by simpa using hb
        rcases e' with z | z
        · rw [z]; exact hel
        · rw [z]; exact hil
      rw [upd_ne (Nat.ne_of_lt hb')]
      exact (hf b hb).1
  done := by
    intro X hP hw hK hc i pins s σ H E I hf st hg
    subst hP hw hK
    obtain ⟨⟨old, he⟩, hit, hne, hne2, hne3⟩ := st
    obtain ⟨xs, hq, hx⟩ := hg
    obtain ⟨its, rv, p, hz⟩ := I.tuple hq
    obtain ⟨f0, f1, f2, f3, f4, f5⟩ := hf it (by simp)
    have hl := rv.length
    have fin : ∀ {h' : Heap}, Heap.ExtBut it s.heap h' → Inv X pins σ H { s with heap := h' } := fun eb => I.turned (t' := s.toks) (fun b o hb q => eb b o hb q) f0 f1 f3 f4 f5
    have hT : s.TypeIs (.ref e) "enumerate" := ⟨_, he, rfl⟩
    unfold pyNext
    refine wpAny_bind (wpAny_attempt (wpAny_callSpecial?_slot (name := Str.ofString "__next__") hT F.slot_enumerate_next (wpAny_call_entry F.slot_enumerate_next hT F.entry_enumerate_next ?_ (F.args_enumerate_next_1 _))))
    show wpAny _ _ (field (.ref e) 2 >>= _) _ _ _
    refine wpAny_bind (wpAny_field he rfl (x := .ref it) rfl ?_)
    refine wpAny_bind (wpAny_nextOf_tuple_end (I.ok.hd hc) hit p (by simp; omega) fun h' x he' hx' => ?_)
    obtain ⟨o, ho, hc⟩ := hx'
    refine wpAny_bind (wpAny_isInstance (T := "StopIteration") (b := true) ⟨o, ho, hc⟩ isSubtype_stop ?_)
    exact wpAny_pure ⟨rfl, fin he'⟩
  self := fun A i s Q E st h => let ⟨⟨_, he⟩, _⟩ := st; wpAny_pyIter_enum he h
def iEnumA (K : PySem.W.Frag) (ta : TA) : TI := fun σ H R => ta σ H fun vs H1 => ∃ a xs, vs = [.ref a] ∧ ((SqL K H1 a xs ∧ R (Ite K a) H1) ∨ (SqT K H1 a xs ∧ R (IteT K a) H1))
theorem pi_enumA {X : Cx} {e : Expr} {ta : TA} {p pos tpos : Pos} {elts : List Expr} {kk : Nat} (hg : Gl X "enumerate") (hm : X.mg "enumerate" = none) (ha : PA X [e] ta) (hs : starEach [e] X.env = [(false, eval e X.env)] := by rfl) :
    PI X (.Tuple elts kk tpos) (.Call (.Name "enumerate" p) [e] [] pos) (iEnumA X.K ta) := by
  refine ⟨fun pins s σ H R I h => ?_⟩
  refine Call_ (ld_blt I hg hm boot_enumerate (PyProof.Rows.callWith_type1 (thn (ha.run pos pins s σ H _ I h) fun us s1 ⟨vs, H1, I1, r1, q1⟩ => ?_) hs rfl))
  obtain ⟨a, xs, ex, q1⟩ := q1
  subst ex
  have fr : ∀ b ∈ [s1.heap.objs.size + 1, s1.heap.objs.size], FpOk X pins H1 b := fun b hb => by
    have e' : b = s1.heap.objs.size + 1 ∨ b = s1.heap.objs.size := by simpa using hb
    have hle : s1.heap.objs.size ≤ b := by
      rcases e' with z | z
      · rw [z]; exact Nat.le_add_right _ _
      · rw [z]; exact Nat.le_refl _
    exact I1.fpOk hle (I1.hok.fresh hle)
  rw [Vals.ref1 r1]
  rcases q1 with ⟨hq, q⟩ | ⟨hq, q⟩
  · obtain ⟨its, rv, p', hz⟩ := I1.list hq
    refine call_enumerate_list p'.isList fun h' he hit hsz hk => wpAny_pyIter_enum he ?_
    exact ⟨s1.heap.objs.size + 1, _, _, _, H1, rfl, I1.kept (t' := s1.toks) hk, turn_enum a (s1.heap.objs.size + 1) s1.heap.objs.size, ⟨⟨.none, he⟩, hit, Nat.succ_ne_self _⟩, fr, q⟩
  · obtain ⟨its, rv, p', hz⟩ := I1.tuple hq
    have al : a < s1.heap.objs.size := by obtain ⟨o, ho, _⟩ := id p'; exact Heap.lt_size ho
    refine call_enumT (show s1.heap.IsTuple a its.toArray from p') fun h' he hit hk => wpAny_pyIter_enum he ?_
    exact ⟨s1.heap.objs.size + 1, _, _, _, H1, rfl, I1.kept (t' := s1.toks) hk, turn_enumT a (s1.heap.objs.size + 1) s1.heap.objs.size, ⟨⟨.none, he⟩, hit, Nat.succ_ne_self _, Nat.ne_of_lt al, Nat.ne_of_gt (Nat.lt_succ_of_lt al)⟩, fr, q⟩

/-! ### by data -/
section
variable {K : PySem.W.Frag} {m : Option LkM} {δ δ' : De} {te ta tb tc tk tv : TE} {t : TA} {tt : TT} {ts : TS} {P : Pt} {x y z d : Dat} {ds es : List Dat} {i j : Nat} {S : List Dat → Prop} {R : Dat → Prop} {Hs H : Hp}
/-- each item with its place -/
def enumD (ds : List Dat) : List Dat := ds.mapIdx fun i d => .tup [.int (i : Nat), d]
theorem enumD_len (ds : List Dat) : (enumD ds).length = ds.length := by unfold enumD; rw [List.length_mapIdx]
theorem enumD_get {ds : List Dat} {i : Nat} {x : Dat} (h : (enumD ds)[i]? = some x) : ∃ d, ds[i]? = some d ∧ x = .tup [.int (i : Nat), d] := by
  unfold enumD at h
  rw [List.getElem?_mapIdx] at h
  cases e : ds[i]? with
  | none => rw [e] at h; cases h
  | some d => rw [e] at h; cases h; exact ⟨d, rfl, rfl⟩
theorem new_tup {vs : List V} {ds : List Dat} {T : Addr} (s : Sub Hs H) (n : H T = none) (t : TrL K Hs vs ds) : ∃ Hs', Ext Hs H Hs' (upd H T (.tup vs)) ∧ Tr K Hs' (.ref T) (.tup ds) := by
  have e := Ext.new (o := .tup vs) s n
  exact ⟨_, e, .tup upd_same (t.mono e.le)⟩
theorem wk_enumL {a : Addr} {xs : List V} (h : SqL K Hs a xs) (t : TrL K Hs xs ds) : Wk K m (Ite K a) Hs (enumD ds) where
  stop := fun i Hs' H e s _ hl => ⟨xs, same_sq e s h, by rw [t.length, ← enumD_len]; exact hl⟩
  go := fun i x Hs' H e s _ hx => by
    obtain ⟨d, h0, _⟩ := enumD_get hx
    obtain ⟨v, h1, _⟩ := t.get h0
    exact ⟨xs, v, same_sq e s h, h1⟩
  yld := fun i x Hs' H v H' e s _ hx hy => by
    obtain ⟨d, h0, rfl⟩ := enumD_get hx
    obtain ⟨w, h1, h2⟩ := t.get h0
    obtain ⟨T, y, rfl, hT, rfl, hy⟩ := hy
    have hv := hy xs (same_sq e s h)
    rw [h1] at hv
    cases hv
    exact new_tup s hT (.cons (.int _) (.cons (h2.mono e) .nil))
theorem wk_enumT {a : Addr} {xs : List V} (h : SqT K Hs a xs) (t : TrL K Hs xs ds) : Wk K m (IteT K a) Hs (enumD ds) where
  stop := fun i Hs' H e s _ hl => ⟨xs, s.sqT (sqT_same e h), by rw [t.length, ← enumD_len]; exact hl⟩
  go := fun i x Hs' H e s _ hx => by
    obtain ⟨d, h0, _⟩ := enumD_get hx
    obtain ⟨v, h1, _⟩ := t.get h0
    exact ⟨xs, v, s.sqT (sqT_same e h), h1⟩
  yld := fun i x Hs' H v H' e s _ hx hy => by
    obtain ⟨d, h0, rfl⟩ := enumD_get hx
    obtain ⟨w, h1, h2⟩ := t.get h0
    obtain ⟨T, y, rfl, hT, rfl, hy⟩ := hy
    have hv := hy xs (s.sqT (sqT_same e h))
    rw [h1] at hv
    cases hv
    exact new_tup s hT (.cons (.int _) (.cons (h2.mono e) .nil))
theorem evi_enum (h : EvA K m t δ (Eq [d])) (q : Sq d ds) : EvI K m (iEnumA K t) δ (Eq (enumD ds)) := fun Hs0 H0 Hs H σ r R k =>
  h _ _ _ _ _ r _ fun vs H1 Hs1 es e1 t1 p1 => by
    cases p1
    obtain ⟨v, rfl, tv⟩ := one_inv t1
    have s := (r.grow e1).sub
    cases q with
    | lst =>
      obtain ⟨a, xs, rfl, h1, h2⟩ := tv.lst_inv
      exact ⟨a, xs, rfl, .inl ⟨s.sqL h1, k _ H1 Hs1 _ e1 rfl (wk_enumL h1 h2)⟩⟩
    | scr ns =>
      obtain ⟨a, rfl, h1⟩ := tv.scr_inv
      exact ⟨a, _, rfl, .inl ⟨s.sqL h1, k _ H1 Hs1 _ e1 rfl (wk_enumL h1 (trL_ints ns))⟩⟩
    | tup =>
      obtain ⟨a, xs, rfl, h1, h2⟩ := tv.tup_inv
      exact ⟨a, xs, rfl, .inr ⟨s.sqT h1, k _ H1 Hs1 _ e1 rfl (wk_enumT h1 h2)⟩⟩
/-- two tuples side by side -/
def zipD (ds es : List Dat) : List Dat := (ds.zip es).map fun p => .tup [p.1, p.2]
theorem zipD_get {i : Nat} {x : Dat} (h : (zipD ds es)[i]? = some x) : ∃ d e, ds[i]? = some d ∧ es[i]? = some e ∧ x = .tup [d, e] := by
  unfold zipD at h
  rw [List.getElem?_map] at h
  cases e : (ds.zip es)[i]? with
  | none => rw [e] at h; cases h
  | some p =>
    rw [e] at h
    cases h
    obtain ⟨h1, h2⟩ := List.getElem?_zip_eq_some.mp e
    exact ⟨_, _, h1, h2, rfl⟩
theorem zipD_len : (zipD ds es).length = min ds.length es.length := by unfold zipD; rw [List.length_map, List.length_zip]
theorem wk_zip {a b : Addr} {xs ys : List V} (h : SqT K Hs a xs) (t : TrL K Hs xs ds) (h' : SqT K Hs b ys) (t' : TrL K Hs ys es) : Wk K m (RZ.ItzT K a b) Hs (zipD ds es) where
  stop := fun i Hs' H e s _ hl => by
    refine ⟨xs, ys, s.sqT (sqT_same e h), s.sqT (sqT_same e h'), ?_⟩
    rw [zipD_len] at hl
    rw [t.length, t'.length]
    omega
  go := fun i x Hs' H e s _ hx => by
    obtain ⟨d, d', h0, h0', _⟩ := zipD_get hx
    obtain ⟨v, h1, _⟩ := t.get h0
    obtain ⟨v', h1', _⟩ := t'.get h0'
    exact ⟨xs, ys, v, v', s.sqT (sqT_same e h), s.sqT (sqT_same e h'), h1, h1'⟩
  yld := fun i x Hs' H v H' e s _ hx hy => by
    obtain ⟨d, d', h0, h0', rfl⟩ := zipD_get hx
    obtain ⟨w, h1, h2⟩ := t.get h0
    obtain ⟨w', h1', h2'⟩ := t'.get h0'
    obtain ⟨T, y, y', rfl, hT, rfl, hy, hy'⟩ := hy
    have hv := hy xs (s.sqT (sqT_same e h))
    have hv' := hy' ys (s.sqT (sqT_same e h'))
    rw [h1] at hv
    rw [h1'] at hv'
    cases hv
    cases hv'
    exact new_tup s hT (.cons (h2.mono e) (.cons (h2'.mono e) .nil))
theorem evi_zip (h : EvA K m t δ (Eq [.tup ds, .tup es])) : EvI K m (RZ.iZipA K t) δ (Eq (zipD ds es)) := fun Hs0 H0 Hs H σ r R k =>
  h _ _ _ _ _ r _ fun vs H1 Hs1 qs e1 t1 p1 => by
    cases p1
    obtain ⟨v, u, rfl, tv, tu⟩ := two_inv t1
    have s := (r.grow e1).sub
    obtain ⟨a, xs, rfl, h1, h2⟩ := tv.tup_inv
    obtain ⟨b, ys, rfl, h3, h4⟩ := tu.tup_inv
    exact ⟨a, b, xs, ys, rfl, .inr ⟨s.sqT h1, s.sqT h3, k _ H1 Hs1 _ e1 rfl (wk_zip h1 h2 h3 h4)⟩⟩
/-- {k: v} -/
theorem eo_disp1 {k : Int} {R : Dat → Prop} (hk : EvP K m tk δ (Eq (.int k))) (hv : EvP K m tv δ R) : EvOK K m (tDisp [(tk, tv)]) δ (fun l => ∃ d, R d ∧ l = [(k, d)]) := fun Hs0 H0 Hs H σ r Q q p np => by
  have e0 : Ext Hs H Hs (upd H p (.dK [])) := Ext.own np
  have sp : Hs p = none := r.sub.none np
  have nt : ∀ xs, HO.dK [] ≠ .tup xs := fun xs e => nomatch e
  refine hk _ _ _ _ _ (r.grow e0) _ fun v H1 Hs1 d1 e1 t1 p1 => hv _ _ _ _ _ ((r.grow e0).grow e1) _ fun u H2 Hs2 d e2 t2 p2 => ?_
  cases p1; cases t1
  have h1 : H1 p = some (.dK []) := e1.same _ _ upd_same
  have h2 : H2 p = some (.dK []) := e2.same _ _ h1
  have n1 : Hs1 p = none := e1.out p _ upd_same nt sp
  have n2 : Hs2 p = none := e2.out p _ h1 nt n1
  refine ⟨h2, [(.inl k, u)], rfl, by show 1 ≤ 15; decide, q p _ _ Hs2 [(k, d)] np (lc_grow ((e0.trans e1).trans e2) np n2) n2 upd_same ?_ ⟨d, p2, rfl⟩⟩
  exact TrK.put .nil t2
end
/-! ### a dict comprehension into a local -/
section
variable {X : Cx}
theorem ps_setDc {i : Nat} {y : Str} {py : Pos} {kx vx tg iter : Expr} {ifs : List Expr} {scope : Scope} {own : List (Str × Nat)} {pos spos : Pos} {wi : TI} {g : TG} {tt : TT} {tk tv : TE} (hc : X.calm = true) (hN : X.N.Nodup) (hy : X.N[i]? = some y) (hyl : X.env.scope.names.lookup y = some .local)
    (hsw : swapsWith (.DictComp kx vx [⟨tg, iter, ifs, 0⟩] scope pos) (some (.Name y py)) spos.line X.env = pure true) (hi : PI X tg iter wi) (ok : BlkOk X.N X.env.scope scope own)
    (hg : ∀ (s : Shared) (H : Hp) (C : Addr) (cl : List (Str × Addr)) (fp : List Addr), PG (X.blk s H scope (compEnvC scope cl C X.env) fp) tg g) (ht : ∀ (s : Shared) (H : Hp) (C : Addr) (cl : List (Str × Addr)) (fp : List Addr), PTs (X.blk s H scope (compEnvC scope cl C X.env) fp) ifs tt)
    (hk : ∀ (s : Shared) (H : Hp) (C : Addr) (cl : List (Str × Addr)) (fp : List Addr), PE (X.blk s H scope (compEnvC scope cl C X.env) fp) kx tk)
    (he : ∀ (s : Shared) (H : Hp) (C : Addr) (cl : List (Str × Addr)) (fp : List Addr), PE (X.blk s H scope (compEnvC scope cl C X.env) fp) vx tv) (hs : ∀ x, foldedSetIterable iter X.env x = pure x := by intro _; rfl) :
    PS X (.Assign [.Name y py] (.DictComp kx vx [⟨tg, iter, ifs, 0⟩] scope pos) spos) (tAsg (tDc wi g tt tk tv (own.map (·.2))) (gName i)) := by
  refine ⟨fun pins s σ H D I h => ?_⟩
  have h : tDc wi g tt tk tv (own.map (·.2)) σ H (fun x H1 => gName i x σ H1 D.nx) := h
  rw [exec_Assign_Name_used _ _ _ _ hsw]
  refine wpAny_bind (wpAny_standAt (wpAny_bind (wpAny_bind (thn (dc_core (pos' := firstIterPos [⟨tg, iter, ifs, 0⟩] pos) (use := some (assign (.Name y py) X.env)) (Qf := fun _ s' => SP X pins D .next s') hc hN I hi ok hg ht hk he hs h fun L C s' m H' I' q hn f => ?_) fun _ s' hq => wpAny_pure (wpAny_pure hq)))))
  obtain ⟨f0, f1, f2, f3, f4, f5⟩ := f
  refine wpAny_assign_Name (store_ok2 (v := V.ref L) I' hN hy (.inl hyl) rfl (fun s2 I2 ⟨a, sb, ha⟩ => ?_) (.inr hyl))
  have haC : C ≠ a := by
    rcases ha with z | z
    · rw [z]; exact f1
    · exact fun e => f4 y a z e.symm
  exact ⟨m, hn.sameBut sb haC, fun h3 sb3 => ⟨_, H', I2.turned (t' := s2.toks) (fun b o hb e => (sb3.2 b hb).trans e) f0 f1 f3 f4 f5, q⟩⟩
end
end Tf
/-! text TfK -/
/-! sums, bounds: data and what the text does to them -/
namespace Tf
open PySem PySem.Spec PyProof.Rows L2
/-! ### typed data -/
abbrev Ad := List Str
abbrev Tm := Ad × Am
abbrev Su := List Tm × Am
abbrev Bd := Su × Bool
def mapV {κ α β : Type} (f : α → β) (l : List (κ × α)) : List (κ × β) := l.map fun p => (p.1, f p.2)
abbrev Pnt := List (Ad × Am)
abbrev Num := List (Ad × Int)
abbrev Row := List (Int × Int)
abbrev Tab := List (Int × Row)
def tmD (t : Tm) : Dat := .tup [adr t.1, am t.2]
def smD (s : Su) : Dat := .tup [.tup (s.1.map tmD), am s.2]
def bdD (b : Bd) : Dat := .tup [smD b.1, .bl b.2]
def ptD (p : Pnt) : Dat := .dt (mapV am p)
def nuD (p : Num) : Dat := .dt (mapV .int p)
def roD (p : Row) : Dat := .dk (mapV .int p)
def taD (t : Tab) : Dat := .dk (mapV roD t)
section
variable {κ α β : Type} [DecidableEq κ] {f : α → β} {l : List (κ × α)} {k : κ} {v : α}
theorem aget_mapV : aget (mapV f l) k = (aget l k).map f := by
  unfold aget mapV
  induction l with
  | nil => rfl
  | cons p l ih =>
    by_cases c : p.1 = k
    · rw [List.map_cons, List.find?_cons_of_pos (by simpa using c), List.find?_cons_of_pos (by simpa using c)]; rfl
    · rw [List.map_cons, List.find?_cons_of_neg (by simpa using c), List.find?_cons_of_neg (by simpa using c)]; exact ih
theorem aput_mapV : aput (mapV f l) k (f v) = mapV f (aput l k v) := by
  have e : ((mapV f l).any fun p => decide (p.1 = k)) = l.any fun p => decide (p.1 = k) := by
    unfold mapV
    rw [List.any_map]
    rfl
  unfold aput
  rw [e]
  split
  · unfold mapV
    rw [List.map_map, List.map_map]
    refine List.map_congr_left fun p _ => ?_
    show (if p.1 = k then (p.1, f v) else (p.1, f p.2)) = ((if p.1 = k then (p.1, v) else p).1, f (if p.1 = k then (p.1, v) else p).2)
    split <;> rfl
  · unfold mapV
    rw [List.map_append]
    rfl
theorem mapV_keys : (mapV f l).map (·.1) = l.map (·.1) := by unfold mapV; rw [List.map_map]; rfl
theorem mapV_len : (mapV f l).length = l.length := by unfold mapV; rw [List.length_map]
end
section
variable {K : PySem.W.Frag} {m : Option LkM} {δ δ' : De} {te ta tb tc : TE} {tt tu : TT} {ts t1 t2 t3 : TS} {A R : Dat → Prop} {P : Pt} {x y z d : Dat} {ds : List Dat} {i j : Nat}
theorem evp_gamA {i j : Int} : EvP K m (tGam K i j) δ (Eq (am (i, j))) := evp_gam
theorem rc_tupA {a : Ad} : RC K (rTup K) [adr a] (Eq (adr a)) := rc_tup (.tup _)
theorem rc_tupM {a : Am} : RC K (rTup K) [am a] (Eq (am a)) := rc_tup (.tup _)
/-! ### loops over typed lists -/
theorem q_forM {α : Type} {l : List α} {enc : α → Dat} {wi : TI} {g : TG} {tb : TS} (I : List α → De → Prop) (hw : EvI K m wi δ (Eq (l.map enc))) (h0 : I [] δ)
    (hs : ∀ pre x δ', pre ++ [x] <+: l → I pre δ' → ∃ δ'' js, EvG K m g (enc x) δ' δ'' js ∧ T K m tb δ'' { nx := I (pre ++ [x]), ct := I (pre ++ [x]), bk := fun δ' => T K m t3 δ' P, rt := P.rt, fr := P.fr })
    (hd : ∀ δ', I l δ' → T K m t3 δ' P) : T K m (tSeq (tFor wi g tb) t3) δ P := by
  refine t_seq (t_for (S := Eq (l.map enc)) (fun _ k δ' => I (l.take k) δ') hw (fun ds e => h0) (fun ds k x δ' e hx hI => ?_) (fun ds δ' e hI => ?_))
  · subst e
    rw [List.getElem?_map] at hx
    cases hl : l[k]? with
    | none => rw [hl] at hx; cases hx
    | some a =>
      rw [hl] at hx
      cases hx
      have e := take_one hl
      obtain ⟨δ'', js, h1, h2⟩ := hs (l.take k) a δ' (by rw [← e]; exact List.take_prefix _ _) hI
      rw [← e] at h2
      exact ⟨δ'', js, h1, h2⟩
  · subst e
    rw [List.length_map, List.take_length] at hI
    exact hd δ' hI
theorem t_forM {α : Type} {l : List α} {enc : α → Dat} {wi : TI} {g : TG} {tb : TS} (I : List α → De → Prop) (hw : EvI K m wi δ (Eq (l.map enc))) (h0 : I [] δ)
    (hs : ∀ pre x δ', pre ++ [x] <+: l → I pre δ' → ∃ δ'' js, EvG K m g (enc x) δ' δ'' js ∧ T K m tb δ'' { nx := I (pre ++ [x]), ct := I (pre ++ [x]), bk := P.nx, rt := P.rt, fr := P.fr })
    (hd : ∀ δ', I l δ' → P.nx δ') : T K m (tFor wi g tb) δ P := by
  refine t_for (S := Eq (l.map enc)) (fun _ k δ' => I (l.take k) δ') hw (fun ds e => h0) (fun ds k x δ' e hx hI => ?_) (fun ds δ' e hI => ?_)
  · subst e
    rw [List.getElem?_map] at hx
    cases hl : l[k]? with
    | none => rw [hl] at hx; cases hx
    | some a =>
      rw [hl] at hx
      cases hx
      have e := take_one hl
      obtain ⟨δ'', js, h1, h2⟩ := hs (l.take k) a δ' (by rw [← e]; exact List.take_prefix _ _) hI
      rw [← e] at h2
      exact ⟨δ'', js, h1, h2⟩
  · subst e
    rw [List.length_map, List.take_length] at hI
    exact hd δ' hI
theorem EvI.to {wi : TI} {ds es : List Dat} (h : EvI K m wi δ (Eq ds)) (e : ds = es) : EvI K m wi δ (Eq es) := e ▸ h
theorem eo_dt' : EvOT K m tDNewT δ (Eq []) := eo_dt
theorem q_asgOT {B : List (List Str × Dat) → Prop} (h : EvOT K none te δ B) (q : ∀ kvs, B kvs → T K none t3 (δ.set i (some (.ot kvs))) P) : T K none (tSeq (tAsg te (gName i)) t3) δ P := t_seq (t_asgOT h q offm_none)
theorem q_asgOK {B : List (Int × Dat) → Prop} (h : EvOK K none te δ B) (q : ∀ kvs, B kvs → T K none t3 (δ.set i (some (.ok kvs))) P) : T K none (tSeq (tAsg te (gName i)) t3) δ P := t_seq (t_asgOK h q offm_none)
theorem q_asgOL (h : EvOL K none te δ ds) (q : T K none t3 (δ.set i (some (.ol ds))) P) : T K none (tSeq (tAsg te (gName i)) t3) δ P := t_seq (t_asgOL h q offm_none)
theorem T.at (h : T K m ts δ' P) (e : δ = δ') : T K m ts δ P := e ▸ h
end
/-! ### sizes -/
structure Pn (n : Nat) (a : Am) : Prop where
  pos : 0 < a.2
  l1 : Lt2 a.1 n
  l2 : Lt2 a.2 n
theorem Lt2.mono {i : Int} {n k : Nat} (h : Lt2 i n) (e : n ≤ k) : Lt2 i k := Nat.lt_of_lt_of_le h (Nat.pow_le_pow_right (by decide) e)
theorem Pn.mono {n k : Nat} {a : Am} (h : Pn n a) (e : n ≤ k) : Pn k a := ⟨h.pos, h.l1.mono e, h.l2.mono e⟩
theorem Pn.pm {n : Nat} {a : Am} (h : Pn n a) (e : n ≤ 40000000) : Pm a := ⟨h.pos, h.l1.mono e, h.l2.mono e⟩
theorem Lt2.mul {i j : Int} {n k : Nat} (h : Lt2 i n) (h' : Lt2 j k) : Lt2 (i * j) (n + k) := by
  unfold Lt2 at *
  rw [Int.natAbs_mul, Nat.pow_add]
  exact Nat.mul_lt_mul'' h h'
theorem Lt2.add {i j : Int} {n : Nat} (h : Lt2 i n) (h' : Lt2 j n) : Lt2 (i + j) (n + 1) := by
  unfold Lt2 at *
  rw [Nat.pow_succ]
  omega
theorem Lt2.neg {i : Int} {n : Nat} (h : Lt2 i n) : Lt2 (-i) n := by
  unfold Lt2 at *
  rw [Int.natAbs_neg]
  exact h
theorem Lt2.div {i j : Int} {n : Nat} (h : Lt2 i n) (hj : 0 < j) : Lt2 (i / j) n := by
  unfold Lt2 at *
  have : (i / j).natAbs ≤ i.natAbs := Int.natAbs_ediv_le_natAbs i j
  omega
theorem pn_amt {t b : Int} {n : Nat} (hb : 0 < b) (h1 : Lt2 t n) (h2 : Lt2 b n) : Pn n (amt t b) := by
  have hg := gcd_pos (t := t) hb
  refine ⟨?_, h1.div hg, h2.div hg⟩
  have hd : ((Nat.gcd t.natAbs b.natAbs : Nat) : Int) ∣ b := Int.gcd_dvd_right t b
  show 0 < b / _
  exact Int.ediv_pos_of_pos_of_dvd hb (Int.le_of_lt hg) hd
theorem pn_pls {a b : Am} {n k : Nat} (h : Pn n a) (h' : Pn k b) : Pn (n + k + 1) (pls a b) :=
  pn_amt (mul_pos' h.pos h'.pos) ((h.l1.mul h'.l2).add (by have := h'.l1.mul h.l2; rwa [Nat.add_comm] at this)) ((h.l2.mul h'.l2).mono (by omega))
theorem pn_tms {a b : Am} {n k : Nat} (h : Pn n a) (h' : Pn k b) : Pn (n + k) (tms a b) := pn_amt (mul_pos' h.pos h'.pos) (h.l1.mul h'.l1) (h.l2.mul h'.l2)
theorem pn_zero : Pn 1 (0, 1) := ⟨by decide, by show (0 : Nat) < 2; decide, by show (1 : Nat) < 2; decide⟩
theorem pn_one : Pn 1 (1, 1) := ⟨by decide, by show (1 : Nat) < 2; decide, by show (1 : Nat) < 2; decide⟩
/-! ### what the text computes -/
def addF (f : Pnt) (t : Tm) : Pnt := aput f t.1 (pls ((aget f t.1).getD (0, 1)) t.2)
def termsOf (f : Pnt) : List Tm := ((sortA (f.map (·.1))).filter fun a => !decide ((aget f a).getD (0, 1) = (0, 1))).map fun a => (a, (aget f a).getD (0, 1))
def addS (a b : Su) : Su := (termsOf ((a.1 ++ b.1).foldl addF []), pls a.2 b.2)
def timS (f : Am) (s : Su) : Su := if f.1 = 0 then ([], (0, 1)) else (s.1.map fun t => (t.1, tms f t.2), tms f s.2)
def valS (s : Su) (p : Pnt) : Am := s.1.foldl (fun v t => pls v (tms t.2 ((aget p t.1).getD (0, 1)))) s.2
def hldS (b : Bd) (p : Pnt) : Bool := decide ((valS b.1 p).1 < 0) || (decide ((valS b.1 p).1 = 0) && !b.2)
def refG : List (Bd × Am) → Su → Bool → Bool
  | [], t, st => decide (t.1 = []) && (decide (0 < t.2.1) || (decide (t.2.1 = 0) && st))
  | (b, w) :: r, t, st => if w.1 < 0 then false else refG r (addS t (timS w b.1)) (st || (b.2 && decide (0 < w.1)))
def scaS (s : Su) : Int := s.1.foldl (fun n t => ((Nat.lcm n.natAbs t.2.2.natAbs : Nat) : Int)) s.2.2
theorem aget_mem {κ α : Type} [DecidableEq κ] {l : List (κ × α)} {k : κ} {v : α} (h : aget l k = some v) : (k, v) ∈ l := by
  unfold aget at h
  cases e : l.find? fun p => decide (p.1 = k) with
  | none => rw [e] at h; cases h
  | some p =>
    rw [e] at h
    cases h
    have h1 := List.find?_some e
    have h2 := List.mem_of_find?_eq_some e
    have h3 : p.1 = k := by simpa using h1
    rw [← h3]
    exact h2
theorem aget_key {κ α : Type} [DecidableEq κ] {l : List (κ × α)} {k : κ} (h : k ∈ l.map (·.1)) : ∃ v, aget l k = some v := by
  unfold aget
  cases e : l.find? fun p => decide (p.1 = k) with
  | some p => exact ⟨p.2, rfl⟩
  | none =>
    obtain ⟨p, hp, rfl⟩ := List.mem_map.mp h
    have := List.find?_eq_none.mp e p hp
    simp at this
theorem aput_key {κ α : Type} [DecidableEq κ] {l : List (κ × α)} {k x : κ} {v : α} (h : x ∈ (aput l k v).map (·.1)) : x ∈ l.map (·.1) ∨ x = k := by
  unfold aput at h
  split at h
  · left
    rw [List.map_map] at h
    obtain ⟨p, hp, e⟩ := List.mem_map.mp h
    refine List.mem_map.mpr ⟨p, hp, ?_⟩
    have e : (if p.1 = k then (p.1, v) else p).1 = x := e
    split at e <;> exact e
  · rw [List.map_append] at h
    rcases List.mem_append.mp h with h | h
    · exact .inl h
    · exact .inr (by simpa using h)
theorem addF_keys {l : List Tm} {f : Pnt} {x : Ad} (h : x ∈ (l.foldl addF f).map (·.1)) : x ∈ f.map (·.1) ∨ ∃ t ∈ l, t.1 = x := by
  induction l generalizing f with
  | nil => exact .inl h
  | cons t l ih =>
    rcases ih h with h | ⟨u, hu, e⟩
    · rcases aput_key h with h | h
      · exact .inl h
      · exact .inr ⟨t, List.mem_cons_self, h.symm⟩
    · exact .inr ⟨u, List.mem_cons_of_mem _ hu, e⟩
theorem addF_len (l : List Tm) (f : Pnt) : (l.foldl addF f).length ≤ f.length + l.length := by
  induction l generalizing f with
  | nil => exact Nat.le_refl _
  | cons t l ih =>
    have h1 := ih (addF f t)
    have h2 := aput_len f t.1 (pls ((aget f t.1).getD (0, 1)) t.2)
    rw [List.foldl_cons, List.length_cons]
    have h3 : (addF f t).length ≤ f.length + 1 := h2
    omega
local macro_rules | `(tactic| walk_at "ev1") => `(tactic| first
  | with_reducible exact evp_int | with_reducible exact evp_bl | with_reducible exact evp_str | with_reducible exact evp_non | with_reducible exact evp_gam | (with_reducible apply evp_var; (with_unfolding_all exact rfl))
  | with_reducible exact eva_nil | with_reducible apply eva_cons
  | with_reducible apply evp_op | (with_reducible apply evp_un (hr := ru_int)) | with_reducible apply evp_cb
  | with_reducible apply evp_tup' | (with_reducible show List.length _ ≤ 100000; simp; done)
  | with_reducible exact rv_int | with_reducible exact rv_bl | with_reducible apply rv_intC | with_reducible exact rv_eq (.int _ _) | with_reducible exact rv_ne (.int _ _)
  | (with_reducible apply rv_ix; (with_unfolding_all exact Sq.tup _); (with_unfolding_all exact rfl))
  | with_reducible exact rc_gcd
  | with_reducible exact rc_tupA | with_reducible exact rc_tupM
  | (with_reducible apply rc_tup; (with_unfolding_all exact Sq.tup _)) | (with_reducible apply rc_tup; (with_unfolding_all exact Sq.lst _))
  | (with_reducible apply rc_lst; (with_unfolding_all exact Sq.tup _)) | (with_reducible apply rc_lst; (with_unfolding_all exact Sq.lst _))
  | (with_reducible apply rc_len; (with_unfolding_all exact Sq.tup _)) | (with_reducible apply rc_len; (with_unfolding_all exact Sq.lst _))
  | with_reducible apply rv_cat
  | with_reducible apply evb_test | with_reducible apply evb_B | with_reducible apply evb_not)
local macro_rules | `(tactic| walk_at "ev") => `(tactic| repeat' walk_at "ev1")
section
variable {P : Program} {w : World} {K : PySem.W.Frag} {mg : Str → Option Value} {base : Heap}
theorem ok_constant_sum (T : Tx P K mg base) : Cal P w K mg base 36 "constant_sum" ["one"] [] (SpD K (fun a : Am => [am a]) (fun _ => True) fun a d => d = smD ([], a)) := by
  refine cal_of (k := 35) T.d_constant_sum scConstantSum (fun _ => rfl) (fun _ _ _ _ _ _ us hl => match us, hl with | [_], _ => rfl) fun cdv f A outer s H Q E hr => ?_
  refine ⟨_, (pss_one (ps_ret (pe_tup (pa_cons (pe_tup pa_nil) (pa_cons (pe_callTy (cr_tup (K := K)) (by rfl) T.n_tuple (by decide +kernel) (pa_cons (pv 0) pa_nil)) pa_nil))))), fun a ha => ?_⟩
  try dsimp only [cxK]
  apply t_retE'
  · walk_at "ev"
  · rfl
structure PreAdd (a : Su × Su) : Prop where
  nn : ∀ t ∈ a.1.1 ++ a.2.1, t.1 ≠ []
  len : a.1.1.length + a.2.1.length ≤ 1000
  mid : ∀ pre t, pre ++ [t] <+: a.1.1 ++ a.2.1 → Pm ((aget (pre.foldl addF []) t.1).getD (0, 1)) ∧ Pm t.2
  one : Pm a.1.2
  two : Pm a.2.2
theorem ok_add_sums (T : Tx P K mg base) (C_plus : Cal P w K mg base 37 "plus" ["one", "two"] [] (SpD K encAA preAA fun a d => d = am (pls a.1 a.2))) :
    Cal P w K mg base 38 "add_sums" ["one", "two"] [] (SpD K (fun a : Su × Su => [smD a.1, smD a.2]) PreAdd fun a d => d = smD (addS a.1 a.2)) := by
  refine cal_of (k := 37) T.d_add_sums scAddSums (fun _ => rfl) (fun _ _ _ _ _ _ us hl => match us, hl with | [_, _], _ => rfl) fun cdv f A outer s H Q E hr => ?_
  have hu := hu_of hr
  refine ⟨_, (pss_cons (ps_set (i := 2) scAddSums.nd rfl (Or.inr rfl) pe_dnewT)
  (pss_cons (ps_for PassesOwn.never rfl (pi_seq (K := K) (pe_op op_cat (pe_callTy (cr_lst (K := K)) (by rfl) T.n_list (by decide +kernel) (pa_cons (pe_ix (ixK (K := K)) (pv 0) pe_int (fun _ _ => rfl)) pa_nil)) (pe_callTy (cr_lst (K := K)) (by rfl) T.n_list (by decide +kernel) (pa_cons (pe_ix (ixK (K := K)) (pv 1) pe_int (fun _ _ => rfl)) pa_nil)))) (pg_seq (K := K) (n := 2) rfl (pgs_cons (pg_name (i := 3) scAddSums.nd rfl (Or.inl rfl)) (pgs_cons (pg_name (i := 4) scAddSums.nd rfl (Or.inl rfl)) pgs_nil))) (pss_cons (ps_set (i := 5) scAddSums.nd rfl (Or.inl rfl) (pe_callTy (cr_tup (K := K)) (by rfl) T.n_tuple (by decide +kernel) (pa_cons (pv 3) pa_nil)))
  (pss_one (ps_dput hu (pv 2) (pv 5) (pe_cal C_plus hr (by rfl) (pa_cons (pe_dget2 hu (pv 2) (pv 5) (pe_gam (K := K) (x := "ZERO") (by rfl) T.mZERO) ⟨by rfl, by rfl, by rfl, by rfl⟩) (pa_cons (pv 4) pa_nil))) rfl))))
  (pss_cons (ps_setLc (i := 6) (own := [("place", 5)]) rfl scAddSums.nd rfl rfl (sw_true rfl rfl rfl (by decide +kernel)) (pi_seq (K := K) (pe_callB (cr_sortT hr) (by rfl) T.n_sorted (by decide +kernel) (pa_cons (pv 2) pa_nil))) (blkOk_by (own := [("place", 5)]) (N := nAddSums) (sc := defScope sAddSums) (by decide +kernel)) (fun _ _ _ _ _ => (pg_name (i := 5) scAddSums.nd rfl (Or.inl rfl))) (fun _ _ _ _ _ => (pts_one (pt_cmpR (op_neX (K := K) hr) (pe_dget hu (pv 2) (pv 5) (fun _ _ => rfl)) (pe_gam (K := K) (x := "ZERO") (by rfl) T.mZERO) (nomark _)))) (fun _ _ _ _ _ => (pe_tup (pa_cons (pv 5) (pa_cons (pe_dget hu (pv 2) (pv 5) (fun _ _ => rfl)) pa_nil)))))
  (pss_one (ps_ret (pe_tup (pa_cons (pe_callTy (cr_tup (K := K)) (by rfl) T.n_tuple (by decide +kernel) (pa_cons (pv 6) pa_nil)) (pa_cons (pe_cal C_plus hr (by rfl) (pa_cons (pe_ix (ixK (K := K)) (pv 0) pe_int (fun _ _ => rfl)) (pa_cons (pe_ix (ixK (K := K)) (pv 1) pe_int (fun _ _ => rfl)) pa_nil))) pa_nil)))))))), fun a ha => ?_⟩
  obtain ⟨a, b⟩ := a
  try dsimp only [cxK]
  refine q_asgOT eo_dt fun kvs e => ?_
  subst e
  refine q_forM (l := a.1 ++ b.1) (enc := tmD) (fun pre δ' => ∃ x y z, δ' = [some (.imm (smD a)), some (.imm (smD b)), some (.ot (mapV am (pre.foldl addF []))), x, y, z, none]) ?_ ⟨_, _, _, rfl⟩ ?_ ?_
  · have h := ha.len
    refine EvI.to (evi_sq (d := .lst (a.1.map tmD ++ b.1.map tmD)) ?_ (.lst _)) (by rw [List.map_append])
    walk_at "ev"
    · rw [List.length_map, List.length_map]; exact Nat.le_trans h (by decide)
  · rintro pre t _ hp ⟨x, y, z, rfl⟩
    refine ⟨_, _, evg_two (hd := .tup _), ?_⟩
    obtain ⟨m1, m2⟩ := ha.mid pre t hp
    have hlen : pre.length < 1000 := by
      have h1 := hp.length_le
      rw [List.length_append, List.length_append, List.length_singleton] at h1
      have := ha.len
      have h3 : a.1.length + b.1.length ≤ 1000 := this
      omega
    refine q_asg (d := adr t.1) ?_ ?_
    · walk_at "ev"
    refine t_putT (A := Eq (am (pls ((aget (pre.foldl addF []) t.1).getD (0, 1)) t.2))) (l := mapV am (pre.foldl addF [])) (k := t.1) rfl ?_ ?_ ?_ ?_
    · refine evp_callE ((aget (pre.foldl addF []) t.1).getD (0, 1), t.2) (eva_cons ?_ (eva_cons ?_ eva_nil)) ⟨m1, m2⟩ fun d q => q
      · refine (evp_get2T (l := mapV am (pre.foldl addF [])) (k := t.1) (.inl rfl) (by walk_at "ev") (by walk_at "ev")).to ?_
        rw [aget_mapV]
        cases aget (pre.foldl addF []) t.1 <;> rfl
      · walk_at "ev"
    · walk_at "ev"
    · have := addF_len pre []
      rw [mapV_len]
      have e : ([] : Pnt).length = 0 := rfl
      omega
    · intro d e
      subst e
      rw [List.foldl_append, aput_mapV]
      exact ⟨_, _, _, rfl⟩
  · rintro _ ⟨x, y, z, rfl⟩
    refine t_freeze 2 rfl rfl ?_
    have hkeys : ∀ k ∈ ((a.1 ++ b.1).foldl addF []).map (·.1), k ≠ [] := fun k hk => by
      rcases addF_keys hk with h | ⟨t, ht, rfl⟩
      · simp at h
      · exact ha.nn t ht
    have hlen := addF_len (a.1 ++ b.1) []
    rw [List.length_append] at hlen
    have hl2 : a.1.length + b.1.length ≤ 1000 := ha.len
    have e0 : ([] : Pnt).length = 0 := rfl
    have fr : ((mapV am ((a.1 ++ b.1).foldl addF [])).map (·.1)) = ((a.1 ++ b.1).foldl addF []).map (·.1) := mapV_keys
    refine q_asg (d := .lst ((termsOf ((a.1 ++ b.1).foldl addF [])).map tmD)) ?_ ?_
    · refine EvP.to (evp_lcE (l := sortA (((a.1 ++ b.1).foldl addF []).map (·.1))) (enc := adr) (fun k => !decide ((aget ((a.1 ++ b.1).foldl addF []) k).getD (0, 1) = (0, 1))) (fun k => tmD (k, (aget ((a.1 ++ b.1).foldl addF []) k).getD (0, 1))) ?_ (fun _ _ => offm_none) ?_ ?_) ?_
      · refine evi_sq (evp_cb (eva_cons (evp_var rfl) eva_nil) (R := Eq (.lst ((sortA (((a.1 ++ b.1).foldl addF []).map (·.1))).map adr))) ?_) (.lst _)
        rw [← fr]
        refine rc_sortT ?_ fun p hp => ?_
        · rw [mapV_len]; omega
        · exact hkeys _ (by rw [← fr]; exact List.mem_map.mpr ⟨p, hp, rfl⟩)
      · rw [(sortA_perm _).length_eq, List.length_map]; omega
      · intro k hk
        have hk2 := (sortA_perm _).mem_iff.mp hk
        obtain ⟨v, hv⟩ := aget_key hk2
        have hg : aget (mapV am ((a.1 ++ b.1).foldl addF [])) k = some (am v) := by rw [aget_mapV, hv]; rfl
        refine ⟨_, _, evg_name, by decide, ?_, fun _ => ?_⟩
        · refine EvB.to (evb_test (evp_op (evp_getT (.inr rfl) (evp_var rfl) hg) evp_gam (rv_neAm v (0, 1)))) ?_
          rw [hv]; rfl
        · refine EvP.to (evp_tup' (eva_cons (evp_var rfl) (eva_cons (evp_getT (.inr rfl) (evp_var rfl) hg) eva_nil)) (by show 2 ≤ 100000; decide)) ?_
          rw [hv]; rfl
      · unfold termsOf
        rw [List.map_map]
        rfl
    refine t_retE (d := .tup [.tup ((termsOf ((a.1 ++ b.1).foldl addF [])).map tmD), am (pls a.2 b.2)]) ?_ ?_
    · refine evp_tup' (eva_cons ?_ (eva_cons (evp_callE (a.2, b.2) ?_ ⟨ha.one, ha.two⟩ fun d q => q) eva_nil)) (by show 2 ≤ 100000; decide)
      · walk_at "ev"
      · walk_at "ev"
    · rfl
end
end Tf
/-! text TfL -/
/-! the defs of sums and bounds, walked -/
namespace Tf
open PySem PySem.Spec PyProof.Rows L2
section
variable {K : PySem.W.Frag} {m : Option LkM} {δ δ' : De} {te ta tb tc : TE} {tt tu : TT} {ts t1 t2 t3 : TS} {A R : Dat → Prop} {P : Pt} {x y z d : Dat} {ds : List Dat} {i j : Nat}
theorem evb_yes : EvB K m tYes δ true := fun Hs0 H0 Hs H σ r Q k => k H Hs .refl
theorem evp_lcA {α : Type} {l : List α} {enc : α → Dat} {wi : TI} {gt : TG} {vs : List Nat} (g : α → Dat) (hw : EvI K m wi δ (Eq (l.map enc))) (hv : ∀ v ∈ vs, Offm m v) (hl : l.length ≤ 100000)
    (hs : ∀ x, x ∈ l → ∃ δx js, EvG K m gt (enc x) (wipeD δ vs) δx js ∧ (∀ j ∈ js, j ∈ vs) ∧ EvP K m te δx (Eq (g x))) : EvP K m (tLc wi gt tYes te vs) δ (Eq (.lst (l.map g))) :=
  (evp_lcE (fun _ => true) g hw hv hl fun x hx => by
    obtain ⟨δx, js, h1, h2, h3⟩ := hs x hx
    exact ⟨δx, js, h1, h2, evb_yes, fun _ => h3⟩).to (by rw [List.filter_eq_self.mpr fun _ _ => rfl])
theorem find_at {α : Type} {l pre : List α} {x : α} {p : α → Bool} (h : pre ++ [x] <+: l) (h1 : ∀ q ∈ pre, p q = false) (h2 : p x = true) : l.find? p = some x := by
  obtain ⟨r, rfl⟩ := h
  rw [List.find?_append, List.find?_append, List.find?_eq_none.mpr (by simpa using h1)]
  simp [h2]
theorem pre_mem {α : Type} {l pre : List α} {x : α} (h : pre ++ [x] <+: l) : x ∈ l := h.subset (by simp)
end
/-! ### loose data: lists or tuples -/
def AdX (d : Dat) (a : Ad) : Prop := Sqx d (a.map .str)
def AmX (d : Dat) (a : Am) : Prop := Sqx d [.int a.1, .int a.2]
def TmX (d : Dat) (t : Tm) : Prop := ∃ x y, Sqx d [x, y] ∧ AdX x t.1 ∧ AmX y t.2
def SmX (d : Dat) (s : Su) : Prop := ∃ (x y : Dat) (ps : List (Dat × Tm)), Sqx d [x, y] ∧ Sqx x (ps.map (·.1)) ∧ (∀ p ∈ ps, TmX p.1 p.2) ∧ ps.map (·.2) = s.1 ∧ AmX y s.2
def BdX (d : Dat) (b : Bd) : Prop := ∃ x, Sqx d [x, .bl b.2] ∧ SmX x b.1
def BsX (d : Dat) (bs : List Bd) : Prop := ∃ ps : List (Dat × Bd), Sqx d (ps.map (·.1)) ∧ (∀ p ∈ ps, BdX p.1 p.2) ∧ ps.map (·.2) = bs
local macro_rules | `(tactic| walk_at "ev1") => `(tactic| first
  | with_reducible exact evp_int | with_reducible exact evp_bl | with_reducible exact evp_str | with_reducible exact evp_non | with_reducible exact evp_gamA | with_reducible exact evp_gam | (with_reducible apply evp_var; (with_unfolding_all exact rfl))
  | with_reducible exact eva_nil | with_reducible apply eva_cons
  | with_reducible apply evp_op | (with_reducible apply evp_un (hr := ru_int)) | with_reducible apply evp_cb
  | with_reducible apply evp_tup' | (with_reducible show List.length _ ≤ 100000; simp; done)
  | with_reducible exact rv_int | with_reducible exact rv_bl | with_reducible apply rv_intC | with_reducible exact rv_eq (.int _ _) | with_reducible exact rv_ne (.int _ _)
  | (with_reducible apply rv_ix; (first | (with_unfolding_all exact Sq.tup _) | (with_unfolding_all exact Sq.lst _) | (with_reducible apply Sqx.sq; with_reducible assumption)); (with_unfolding_all exact rfl))
  | with_reducible exact rc_gcd
  | with_reducible exact rc_tupA | with_reducible exact rc_tupM
  | (with_reducible apply rc_tup; (first | (with_unfolding_all exact Sq.tup _) | (with_unfolding_all exact Sq.lst _) | (with_reducible apply Sqx.sq; with_reducible assumption)))
  | (with_reducible apply rc_lst; (first | (with_unfolding_all exact Sq.tup _) | (with_unfolding_all exact Sq.lst _) | (with_reducible apply Sqx.sq; with_reducible assumption)))
  | (with_reducible apply rc_len; (first | (with_unfolding_all exact Sq.tup _) | (with_unfolding_all exact Sq.lst _) | (with_reducible apply Sqx.sq; with_reducible assumption)))
  | with_reducible apply rv_cat
  | with_reducible exact evb_yes
  | with_reducible apply evb_test | with_reducible apply evb_B | with_reducible apply evb_not | with_reducible apply evb_and | with_reducible apply evb_or | with_reducible apply evp_and | with_reducible apply evp_or | with_reducible apply evp_not
  | (with_reducible refine fun _ => ?_))
local macro_rules | `(tactic| walk_at "ev") => `(tactic| repeat' walk_at "ev1")
section
variable {P : Program} {w : World} {K : PySem.W.Frag} {mg : Str → Option Value} {base : Heap}
structure PreTim (a : Am × Su) : Prop where
  f : Pm a.1
  t : ∀ t ∈ a.2.1, Pm t.2
  c : Pm a.2.2
  len : a.2.1.length ≤ 1000
theorem ok_times_sum (T : Tx P K mg base) (C_constant_sum : Cal P w K mg base 36 "constant_sum" ["one"] [] (SpD K (fun a : Am => [am a]) (fun _ => True) fun a d => d = smD ([], a)))
    (C_times : Cal P w K mg base 37 "times" ["one", "two"] [] (SpD K encAA preAA fun a d => d = am (tms a.1 a.2))) :
    Cal P w K mg base 38 "times_sum" ["factor", "one"] [] (SpD K (fun a : Am × Su => [am a.1, smD a.2]) PreTim fun a d => d = smD (timS a.1 a.2)) := by
  refine cal_of (k := 37) T.d_times_sum scTimesSum (fun _ => rfl) (fun _ _ _ _ _ _ us hl => match us, hl with | [_, _], _ => rfl) fun cdv f A outer s H Q E hr => ?_
  have hu := hu_of hr
  refine ⟨_, (pss_cons (ps_if (pt_cmpR op_eq (pe_ix (ixK (K := K)) (pv 0) pe_int (fun _ _ => rfl)) pe_int (nomark _)) (pss_one (ps_ret (pe_cal C_constant_sum (hr.mono (by decide)) (by rfl) (pa_cons (pe_gam (K := K) (x := "ZERO") (by rfl) T.mZERO) pa_nil)))) pss_nil)
  (pss_cons (ps_setLc (i := 2) (own := [("address", 3), ("inner", 4)]) rfl scTimesSum.nd rfl rfl (sw_true rfl rfl rfl (by decide +kernel)) (pi_seq (K := K) (pe_ix (ixK (K := K)) (pv 1) pe_int (fun _ _ => rfl))) (blkOk_by (own := [("address", 3), ("inner", 4)]) (N := nTimesSum) (sc := defScope sTimesSum) (by decide +kernel)) (fun _ _ _ _ _ => (pg_seq (K := K) (n := 2) rfl (pgs_cons (pg_name (i := 3) scTimesSum.nd rfl (Or.inl rfl)) (pgs_cons (pg_name (i := 4) scTimesSum.nd rfl (Or.inl rfl)) pgs_nil)))) (fun _ _ _ _ _ => pts_nil) (fun _ _ _ _ _ => (pe_tup (pa_cons (pe_callTy (cr_tup (K := K)) (by rfl) T.n_tuple (by decide +kernel) (pa_cons (pv 3) pa_nil)) (pa_cons (pe_cal C_times hr (by rfl) (pa_cons (pv 0) (pa_cons (pv 4) pa_nil))) pa_nil)))))
  (pss_one (ps_ret (pe_tup (pa_cons (pe_callTy (cr_tup (K := K)) (by rfl) T.n_tuple (by decide +kernel) (pa_cons (pv 2) pa_nil)) (pa_cons (pe_cal C_times hr (by rfl) (pa_cons (pv 0) (pa_cons (pe_ix (ixK (K := K)) (pv 1) pe_int (fun _ _ => rfl)) pa_nil))) pa_nil))))))), fun a ha => ?_⟩
  obtain ⟨f, s⟩ := a
  obtain ⟨h1, h2, h3, h4⟩ := ha
  have h4 : s.1.length ≤ 1000 := h4
  try dsimp only [cxK]
  apply q_when (b := decide (f.1 = 0))
  · refine EvB.to (by walk_at "ev") (by by_cases c : f.1 = 0 <;> simp [c])
  · intro c
    have c : f.1 = 0 := of_decide_eq_true c
    refine t_retE (evp_callE (0, 1) ?_ trivial fun d q => q) ?_
    · walk_at "ev"
    · show _ = smD (timS f s)
      unfold timS
      rw [if_pos c]
  intro c
  have c : ¬ f.1 = 0 := of_decide_eq_false c
  refine q_asg (evp_lcA (l := s.1) (enc := tmD) (fun t => tmD (t.1, tms f t.2)) (evi_sq (by walk_at "ev") (.tup _)) (fun _ _ => offm_none) (by omega) fun t ht => ?_) ?_
  · refine ⟨_, _, evg_two (hd := .tup _), by decide, ?_⟩
    refine evp_tup' (eva_cons (by walk_at "ev") (eva_cons (evp_callE (f, t.2) (by walk_at "ev") ⟨h1, h2 t ht⟩ fun d q => q) eva_nil)) (by show 2 ≤ 100000; decide)
  refine t_retE (d := .tup [.tup (s.1.map fun t => tmD (t.1, tms f t.2)), am (tms f s.2)]) (evp_tup' (eva_cons (by walk_at "ev") (eva_cons (evp_callE (f, s.2) (by walk_at "ev") ⟨h1, h3⟩ fun d q => q) eva_nil)) (by show 2 ≤ 100000; decide)) ?_
  show _ = smD (timS f s)
  unfold timS smD
  rw [if_neg c, List.map_map]
  rfl
structure PreVal (a : Su × Pnt) : Prop where
  mid : ∀ pre t, pre ++ [t] <+: a.1.1 → Pm (valS (pre, a.1.2) a.2) ∧ Pm t.2 ∧ ∃ v, aget a.2 t.1 = some v ∧ Pm v ∧ Pm (tms t.2 v)
theorem ok_sum_value (T : Tx P K mg base) (C_plus : Cal P w K mg base 37 "plus" ["one", "two"] [] (SpD K encAA preAA fun a d => d = am (pls a.1 a.2)))
    (C_times : Cal P w K mg base 37 "times" ["one", "two"] [] (SpD K encAA preAA fun a d => d = am (tms a.1 a.2))) :
    Cal P w K mg base 38 "sum_value" ["one", "point"] [] (SpD K (fun a : Su × Pnt => [smD a.1, ptD a.2]) PreVal fun a d => d = am (valS a.1 a.2)) := by
  refine cal_of (k := 37) T.d_sum_value scSumValue (fun _ => rfl) (fun _ _ _ _ _ _ us hl => match us, hl with | [_, _], _ => rfl) fun cdv f A outer s H Q E hr => ?_
  have hu := hu_of hr
  refine ⟨_, (pss_cons (ps_set (i := 2) scSumValue.nd rfl (Or.inl rfl) (pe_callTy (cr_tup (K := K)) (by rfl) T.n_tuple (by decide +kernel) (pa_cons (pe_ix (ixK (K := K)) (pv 0) pe_int (fun _ _ => rfl)) pa_nil)))
  (pss_cons (ps_for PassesOwn.never rfl (pi_seq (K := K) (pe_ix (ixK (K := K)) (pv 0) pe_int (fun _ _ => rfl))) (pg_seq (K := K) (n := 2) rfl (pgs_cons (pg_name (i := 3) scSumValue.nd rfl (Or.inl rfl)) (pgs_cons (pg_name (i := 4) scSumValue.nd rfl (Or.inl rfl)) pgs_nil))) (pss_one (ps_set (i := 2) scSumValue.nd rfl (Or.inl rfl) (pe_cal C_plus hr (by rfl) (pa_cons (pv 2) (pa_cons (pe_cal C_times hr (by rfl) (pa_cons (pv 4) (pa_cons (pe_dget hu (pv 1) (pe_callTy (cr_tup (K := K)) (by rfl) T.n_tuple (by decide +kernel) (pa_cons (pv 3) pa_nil)) (fun _ _ => rfl)) pa_nil))) pa_nil))))))
  (pss_one (ps_ret (pv 2))))), fun a ha => ?_⟩
  obtain ⟨s, p⟩ := a
  try dsimp only [cxK]
  refine q_asg (by walk_at "ev") ?_
  refine q_forM (l := s.1) (enc := tmD) (fun pre δ' => ∃ x y, δ' = [some (.imm (smD s)), some (.imm (ptD p)), some (.imm (am (valS (pre, s.2) p))), x, y]) (evi_sq (by walk_at "ev") (.tup _)) ⟨_, _, rfl⟩ ?_ ?_
  · rintro pre t _ hp ⟨x, y, rfl⟩
    obtain ⟨m1, m2, v, hv, m3, m4⟩ := ha.mid pre t hp
    refine ⟨_, _, evg_two (hd := .tup _), ?_⟩
    refine t_asg (A := Eq (am (valS (pre ++ [t], s.2) p))) (EvP.to (evp_callE (valS (pre, s.2) p, tms t.2 v) (eva_cons (by walk_at "ev") (eva_cons (evp_callE (t.2, v) (eva_cons (by walk_at "ev") (eva_cons ?_ eva_nil)) ⟨m2, m3⟩ fun d q => q) eva_nil)) ⟨m1, m4⟩ fun d q => q) ?_) (fun d e => ?_)
    · exact evp_getT (l := mapV am p) (k := t.1) (.inr rfl) (by walk_at "ev") (by rw [aget_mapV, hv]; rfl)
    · unfold valS
      rw [List.foldl_append]
      simp [hv]
    · subst e
      exact ⟨_, _, rfl⟩
  · rintro _ ⟨x, y, rfl⟩
    exact t_retE (by walk_at "ev") rfl
theorem ok_holds (T : Tx P K mg base) (C_sum_value : Cal P w K mg base 38 "sum_value" ["one", "point"] [] (SpD K (fun a : Su × Pnt => [smD a.1, ptD a.2]) PreVal fun a d => d = am (valS a.1 a.2))) :
    Cal P w K mg base 39 "holds" ["bound", "point"] [] (SpD K (fun a : Bd × Pnt => [bdD a.1, ptD a.2]) (fun a => PreVal (a.1.1, a.2)) fun a d => d = .bl (hldS a.1 a.2)) := by
  refine cal_of (k := 38) T.d_holds scHolds (fun _ => rfl) (fun _ _ _ _ _ _ us hl => match us, hl with | [_, _], _ => rfl) fun cdv f A outer s H Q E hr => ?_
  have hu := hu_of hr
  refine ⟨_, (pss_cons (ps_set (i := 2) scHolds.nd rfl (Or.inl rfl) (pe_cal C_sum_value hr (by rfl) (pa_cons (pe_ix (ixK (K := K)) (pv 0) pe_int (fun _ _ => rfl)) (pa_cons (pv 1) pa_nil))))
  (pss_one (ps_ret (pe_or (pe_cmpR op_lt (pe_ix (ixK (K := K)) (pv 2) pe_int (fun _ _ => rfl)) pe_int (nomark _)) (pe_one (pe_and (pe_cmpR op_eq (pe_ix (ixK (K := K)) (pv 2) pe_int (fun _ _ => rfl)) pe_int (nomark _)) (pe_one (pe_not (pe_ix (ixK (K := K)) (pv 0) pe_int (fun _ _ => rfl)))))))))), fun a ha => ?_⟩
  obtain ⟨b, p⟩ := a
  try dsimp only [cxK]
  refine q_asg (evp_callE (b.1, p) (by walk_at "ev") ha fun d q => q) ?_
  refine t_retE (by walk_at "ev") ?_
  show _ = Dat.bl (hldS b p)
  unfold hldS
  congr 1
/-- what must be so for the sum of refutes -/
def RefOk : List (Bd × Am) → Su → Prop
  | [], _ => True
  | (b, w) :: r, t => w.1 < 0 ∨ (PreTim (w, b.1) ∧ PreAdd (t, timS w b.1) ∧ RefOk r (addS t (timS w b.1)))
theorem ok_refutes (T : Tx P K mg base) (C_constant_sum : Cal P w K mg base 36 "constant_sum" ["one"] [] (SpD K (fun a : Am => [am a]) (fun _ => True) fun a d => d = smD ([], a)))
    (C_add_sums : Cal P w K mg base 38 "add_sums" ["one", "two"] [] (SpD K (fun a : Su × Su => [smD a.1, smD a.2]) PreAdd fun a d => d = smD (addS a.1 a.2)))
    (C_times_sum : Cal P w K mg base 38 "times_sum" ["factor", "one"] [] (SpD K (fun a : Am × Su => [am a.1, smD a.2]) PreTim fun a d => d = smD (timS a.1 a.2))) :
    Cal P w K mg base 39 "refutes" ["bounds", "weights"] [] (SpD K (fun a : List (Bd × Am) => [.tup (a.map fun p => bdD p.1), .tup (a.map fun p => am p.2)]) (fun a => RefOk a ([], (0, 1))) fun a d => d = .bl (refG a ([], (0, 1)) false)) := by
  refine cal_of (k := 38) T.d_refutes scRefutes (fun _ => rfl) (fun _ _ _ _ _ _ us hl => match us, hl with | [_, _], _ => rfl) fun cdv f A outer s H Q E hr => ?_
  have hu := hu_of hr
  refine ⟨_, (pss_cons (ps_if (pt_cmpR op_ne (pe_callB (cr_len (K := K)) (by rfl) T.n_len (by decide +kernel) (pa_cons (pv 1) pa_nil)) (pe_callB (cr_len (K := K)) (by rfl) T.n_len (by decide +kernel) (pa_cons (pv 0) pa_nil)) (nomark _)) (pss_one (ps_ret pe_bl)) pss_nil)
  (pss_cons (ps_set (i := 2) scRefutes.nd rfl (Or.inl rfl) (pe_cal C_constant_sum (hr.mono (by decide)) (by rfl) (pa_cons (pe_gam (K := K) (x := "ZERO") (by rfl) T.mZERO) pa_nil)))
  (pss_cons (ps_set (i := 3) scRefutes.nd rfl (Or.inl rfl) pe_bl)
  (pss_cons (ps_for PassesOwn.never rfl (RZ.pi_zipA (by rfl) T.n_zip (pa_cons (pv 0) (pa_cons (pv 1) pa_nil))) (pg_seq (K := K) (n := 2) rfl (pgs_cons (pg_name (i := 4) scRefutes.nd rfl (Or.inl rfl)) (pgs_cons (pg_name (i := 5) scRefutes.nd rfl (Or.inl rfl)) pgs_nil))) (pss_cons (ps_if (pt_cmpR op_lt (pe_ix (ixK (K := K)) (pv 5) pe_int (fun _ _ => rfl)) pe_int (nomark _)) (pss_one (ps_ret pe_bl)) pss_nil)
  (pss_cons (ps_set (i := 2) scRefutes.nd rfl (Or.inl rfl) (pe_cal C_add_sums hr (by rfl) (pa_cons (pv 2) (pa_cons (pe_cal C_times_sum hr (by rfl) (pa_cons (pv 5) (pa_cons (pe_ix (ixK (K := K)) (pv 4) pe_int (fun _ _ => rfl)) pa_nil))) pa_nil))))
  (pss_one (ps_if (PW.pt (pw_and (pt_val (pe_ix (ixK (K := K)) (pv 4) pe_int (fun _ _ => rfl))) (pw_and1 (pt_cmpR op_gt (pe_ix (ixK (K := K)) (pv 5) pe_int (fun _ _ => rfl)) pe_int (nomark _))))) (pss_one (ps_set (i := 3) scRefutes.nd rfl (Or.inl rfl) pe_bl)) pss_nil)))))
  (pss_cons (ps_if (pt_cmpR op_gt (pe_callB (cr_len (K := K)) (by rfl) T.n_len (by decide +kernel) (pa_cons (pe_ix (ixK (K := K)) (pv 2) pe_int (fun _ _ => rfl)) pa_nil)) pe_int (nomark _)) (pss_one (ps_ret pe_bl)) pss_nil)
  (pss_one (ps_ret (pe_or (pe_cmpR op_gt (pe_ix (ixK (K := K)) (pe_ix (ixK (K := K)) (pv 2) pe_int (fun _ _ => rfl)) pe_int (fun _ _ => rfl)) pe_int (nomark _)) (pe_one (pe_and (pe_cmpR op_eq (pe_ix (ixK (K := K)) (pe_ix (ixK (K := K)) (pv 2) pe_int (fun _ _ => rfl)) pe_int (fun _ _ => rfl)) pe_int (nomark _)) (pe_one (pv 3)))))))))))), fun l ha => ?_⟩
  try dsimp only [cxK]
  refine q_skip (EvB.to (by walk_at "ev") (by simp)) ?_
  refine q_asg (evp_callE (0, 1) (by walk_at "ev") trivial fun d q => q) ?_
  refine q_asg (by walk_at "ev") ?_
  refine q_forM (l := l) (enc := fun p => .tup [bdD p.1, am p.2]) (fun pre δ' => ∃ r t st x y, l = pre ++ r ∧ refG l ([], (0, 1)) false = refG r t st ∧ RefOk r t ∧ δ' = [some (.imm (.tup (l.map fun p => bdD p.1))), some (.imm (.tup (l.map fun p => am p.2))), some (.imm (smD t)), some (.imm (.bl st)), x, y]) ?_ ⟨l, _, _, _, _, rfl, rfl, ha, rfl⟩ ?_ ?_
  · refine (evi_zip (by walk_at "ev")).to ?_
    unfold zipD
    rw [List.zip_map', List.map_map]
    rfl
  · rintro pre ⟨b, w⟩ _ hp ⟨r, t, st, x, y, hl, hG, hO, rfl⟩
    obtain ⟨r', hr'⟩ := hp
    have er : r = (b, w) :: r' := by
      have : pre ++ r = pre ++ ((b, w) :: r') := by rw [← hl, ← hr', List.append_assoc]; rfl
      exact List.append_cancel_left this
    subst er
    refine ⟨_, _, evg_two (hd := .tup _), ?_⟩
    apply q_when (b := decide (w.1 < 0))
    · walk_at "ev"
    · intro c
      have c : w.1 < 0 := of_decide_eq_true c
      refine t_retE (by walk_at "ev") ?_
      show _ = Dat.bl _
      rw [hG]
      unfold refG
      rw [if_pos c]
    intro c
    have c : ¬ w.1 < 0 := of_decide_eq_false c
    rcases hO with hO | ⟨o1, o2, o3⟩
    · exact absurd hO c
    refine q_asg (evp_callE (t, timS w b.1) (eva_cons (by walk_at "ev") (eva_cons (evp_callE (w, b.1) (by walk_at "ev") o1 fun d q => q) eva_nil)) o2 fun d q => q) ?_
    have e2 : refG l ([], (0, 1)) false = refG r' (addS t (timS w b.1)) (st || (b.2 && decide (0 < w.1))) := by
      rw [hG]
      conv => lhs; unfold refG
      rw [if_neg c]
    have e3 : l = (pre ++ [(b, w)]) ++ r' := hr'.symm
    apply t_when (b := b.2 && decide (0 < w.1))
    · walk_at "ev"
    · intro c2
      rw [c2, Bool.or_true] at e2
      refine t_asg (by walk_at "ev") fun d e => ?_
      subst e
      exact ⟨r', _, _, _, _, e3, e2, o3, rfl⟩
    · intro c2
      rw [c2, Bool.or_false] at e2
      exact ⟨r', _, _, _, _, e3, e2, o3, rfl⟩
  · rintro _ ⟨r, t, st, x, y, hl, hG, hO, rfl⟩
    have er : r = [] := by
      have : l ++ [] = l ++ r := by rw [List.append_nil]; exact hl
      exact (List.append_cancel_left this).symm
    subst er
    have hG : refG l ([], (0, 1)) false = (decide (t.1 = []) && (decide (0 < t.2.1) || (decide (t.2.1 = 0) && st))) := hG
    apply q_when (b := decide (0 < t.1.length))
    · refine EvB.to (by walk_at "ev") ?_
      rw [List.length_map]
      simp
    · intro c
      have c : 0 < t.1.length := of_decide_eq_true c
      refine t_retE (by walk_at "ev") ?_
      show _ = Dat.bl _
      rw [hG]
      have : t.1 ≠ [] := fun e => by rw [e] at c; exact absurd c (by decide)
      simp [this] <;> rfl
    · intro c
      have c : ¬ 0 < t.1.length := of_decide_eq_false c
      refine t_retE (by walk_at "ev") ?_
      show _ = Dat.bl _
      rw [hG]
      have : t.1 = [] := List.length_eq_zero_iff.mp (by omega)
      simp [this] <;> rfl
structure PreSca (a : Dat × Su) : Prop where
  x : SmX a.1 a.2
  mid : ∀ pre t, pre ++ [t] <+: a.2.1 → Lt2 (scaS (pre, a.2.2)) 6000 ∧ Lt2 t.2.2 6000
theorem ok_whole_scale (T : Tx P K mg base) : Cal P w K mg base 36 "whole_scale" ["one"] [] (SpD K (fun a : Dat × Su => [a.1]) PreSca fun a d => d = .int (scaS a.2)) := by
  refine cal_of (k := 35) T.d_whole_scale scWholeScale (fun _ => rfl) (fun _ _ _ _ _ _ us hl => match us, hl with | [_], _ => rfl) fun cdv f A outer s H Q E hr => ?_
  have hu := hu_of hr
  refine ⟨_, (pss_cons (ps_set (i := 1) scWholeScale.nd rfl (Or.inl rfl) (pe_ix (ixK (K := K)) (pe_ix (ixK (K := K)) (pv 0) pe_int (fun _ _ => rfl)) pe_int (fun _ _ => rfl)))
  (pss_cons (ps_for PassesOwn.never rfl (pi_seq (K := K) (pe_ix (ixK (K := K)) (pv 0) pe_int (fun _ _ => rfl))) (pg_name (i := 2) scWholeScale.nd rfl (Or.inl rfl)) (pss_one (ps_set (i := 1) scWholeScale.nd rfl (Or.inl rfl) (pe_callBfun cr_lcm (by rfl) T.mlcm (pa_cons (pv 1) (pa_cons (pe_ix (ixK (K := K)) (pe_ix (ixK (K := K)) (pv 2) pe_int (fun _ _ => rfl)) pe_int (fun _ _ => rfl)) pa_nil))))))
  (pss_one (ps_ret (pv 1))))), fun a ha => ?_⟩
  obtain ⟨d, s⟩ := a
  obtain ⟨⟨x, y, ps, g1, g2, g3, g4, g5⟩, mid⟩ := ha
  have g5 : Sqx y [.int s.2.1, .int s.2.2] := g5
  have g1 : Sqx d [x, y] := g1
  try dsimp only [cxK]
  refine q_asg (by walk_at "ev") ?_
  refine q_forM (l := ps) (enc := (·.1)) (fun pre δ' => ∃ z, δ' = [some (.imm d), some (.imm (.int (scaS (pre.map (·.2), s.2)))), z]) (evi_sq (by walk_at "ev") g2.sq) ⟨_, rfl⟩ ?_ ?_
  · rintro pre p _ hp ⟨z, rfl⟩
    obtain ⟨x', y', k1, k2, k3⟩ := g3 p (pre_mem hp)
    have k3 : Sqx y' [.int p.2.2.1, .int p.2.2.2] := k3
    refine ⟨_, _, evg_name, ?_⟩
    obtain ⟨m1, m2⟩ := mid (pre.map (·.2)) p.2 (by
      obtain ⟨r, hr⟩ := hp
      refine ⟨r.map (·.2), ?_⟩
      show _ = s.1
      rw [← g4, ← hr, List.map_append, List.map_append]
      rfl)
    refine t_asg (A := Eq (.int (scaS ((pre ++ [p]).map (·.2), s.2)))) (EvP.to (evp_cb (eva_cons (by walk_at "ev") (eva_cons (by walk_at "ev") eva_nil)) (rc_lcm m1 m2)) ?_) fun d e => ?_
    · unfold scaS
      rw [List.map_append, List.foldl_append]
      rfl
    · subst e
      exact ⟨_, rfl⟩
  · rintro _ ⟨z, rfl⟩
    refine t_retE (by walk_at "ev") ?_
    show _ = Dat.int (scaS s)
    rw [g4]
end
end Tf
/-! text TfM -/
/-! more rules: locked loops over keys, calls while a dict is locked, rows -/
namespace Tf
open PySem PySem.Spec PyProof.Rows L2
def gt (r : Row) (k : Int) : Int := (aget r k).getD 0
section
variable {K : PySem.W.Frag} {m : Option LkM} {δ δ' : De} {te ta tb tc : TE} {tt tu : TT} {ts t1 t2 t3 : TS} {A R : Dat → Prop} {P : Pt} {x y z d : Dat} {ds : List Dat} {i j : Nat} {g : TG}
theorem q_join {b : Bool} (δ2 : De) (h : EvB K m tt δ b) (h1 : b = true → T K m t1 δ { P with nx := fun δ' => δ' = δ2 }) (h2 : b = false → δ = δ2) (k : T K m t3 δ2 P) : T K m (tSeq (tIfS tt t1 tNext) t3) δ P :=
  q_when h (fun c => (h1 c).imp (fun δ' e => by have e : δ' = δ2 := e; subst e; exact k) (fun _ q => q) (fun _ q => q) fun _ q => q) fun c => (h2 c) ▸ k
/-- a new dict is handed back -/
def NewD : Hp → Hp → V → Prop := fun H0 _ v => ∃ p, v = .ref p ∧ H0 p = none
theorem t_retOT {l : List (List Str × Dat)} (e : δ[i]? = some (some (.ot l))) (q : P.rt (.dt l)) (f : ∀ H0 H' p, H0 p = none → P.fr H0 H' (.ref p)) : T K m (tRet (tVar i)) δ P := fun Hs0 H0 Hs H σ D r k1 k2 k3 k4 => by
  obtain ⟨v, h1, p, kvs, rfl, q1, q2, q3, q4⟩ := r.at_ i _ e
  obtain ⟨Hs', r', le⟩ := r.freeze e rfl
  have hl : i < δ.length := (List.getElem?_eq_some_iff.mp e).1
  obtain ⟨v', h2, t⟩ := r'.imm (List.getElem?_set_self hl)
  rw [h1] at h2
  cases h2
  exact ⟨_, h1, k2 _ H Hs' _ r'.ext t q (f _ _ _ q4)⟩
/-- (a new dict, None), (None, x) -/
def NewP : Hp → Hp → V → Prop := fun H0 Hs' v => ∃ a x y, v = .ref a ∧ Hs' a = some (.tup [x, y]) ∧ (x = .non ∨ ∃ p, x = .ref p ∧ H0 p = none)
theorem t_retPt {α : Type} {enc : α → List Dat} {pre : α → Prop} {post : α → Dat → Prop} {t : TA} {E : XK} (a : α) (h : EvA K none t δ (Eq (enc a))) (hp : pre a) (q : ∀ d, post a d → P.rt (.tup [d, .non])) (f : ∀ H0 H' v, NewP H0 H' v → P.fr H0 H' v) :
    T K none (tRet (tTup (tCons (tCall (SpF K enc pre post NewD) [] E t) (tCons (tC .non) tNil)))) δ P := fun Hs0 H0 Hs H σ D r k1 k2 k3 k4 =>
  h _ _ _ _ _ r _ fun vs H1 Hs1 ds e1 t1 p1 => by
    subst p1
    refine ⟨a, Hs1, (r.grow e1).lk, by rw [List.append_nil]; exact t1, hp, fun v H2 Hs2 d e2 t2 p2 ⟨p, ev, np⟩ => ⟨by show 2 ≤ sizeLine; decide, fun ad na => ?_⟩⟩
    have r2 := (r.grow e1).grow e2
    have x := Ext.new (o := .tup [v, .non]) r2.sub na
    exact k2 _ _ _ _ (r2.ext.trans x) (.tup upd_same (.cons (t2.mono x.le) (.cons .non .nil))) (q d p2) (f _ _ _ ⟨ad, v, .non, rfl, upd_same, .inr ⟨p, ev, (r.grow e1).none0 np⟩⟩)
theorem t_retNon {A : Dat → Prop} (h : EvP K m tb δ A) (q : ∀ d, A d → P.rt (.tup [.non, d])) (f : ∀ H0 H' v, NewP H0 H' v → P.fr H0 H' v) : T K m (tRet (tTup (tCons (tC .non) (tCons tb tNil)))) δ P := fun Hs0 H0 Hs H σ D r k1 k2 k3 k4 =>
  h _ _ _ _ _ r _ fun v H1 Hs1 d e1 t1 p1 => ⟨by show 2 ≤ sizeLine; decide, fun ad na => by
    have r1 := r.grow e1
    have x := Ext.new (o := .tup [.non, v]) r1.sub na
    exact k2 _ _ _ _ (r1.ext.trans x) (.tup upd_same (.cons .non (.cons (t1.mono x.le) .nil))) (q d p1) (f _ _ _ ⟨ad, .non, v, rfl, upd_same, .inl rfl⟩)⟩
theorem offm_of {M : LkM} (h : M.i = i) (n : i ≠ j) : Offm (some M) j := offm_some (h ▸ n)
theorem evp_gK {r : Row} {k v : Int} (h : KAt δ i (mapV .int r)) (hk : EvP K m ta δ (Eq (.int k))) (e : aget r k = some v) : EvP K m (tDGet (tVar i) ta) δ (Eq (.int v)) := evp_getK h hk (by rw [aget_mapV, e]; rfl)
theorem evp_gtK {r : Row} {k : Int} (h : KAt δ i (mapV .int r)) (hk : EvP K m ta δ (Eq (.int k))) (e : k ∈ r.map (·.1)) : EvP K m (tDGet (tVar i) ta) δ (Eq (.int (gt r k))) := by
  obtain ⟨v, hv⟩ := aget_key e
  unfold gt
  rw [hv]
  exact evp_gK h hk hv
theorem evp_g2K {r : Row} {k : Int} (h : KAt δ i (mapV .int r)) (hk : EvP K m ta δ (Eq (.int k))) : EvP K m (tDGet2 (tVar i) ta (tC (.int 0))) δ (Eq (.int (gt r k))) := (evp_get2K h hk evp_int).to (by
  rw [aget_mapV]
  unfold gt
  cases aget r k <;> rfl)
theorem fold_mapV {κ α β γ : Type} [DecidableEq κ] (h : α → β) (gk : γ → κ) (F : γ → α) : ∀ (l : List γ) (acc : List (κ × α)), l.foldl (fun acc x => aput acc (gk x) (h (F x))) (mapV h acc) = mapV h (l.foldl (fun acc x => aput acc (gk x) (F x)) acc)
  | [], _ => rfl
  | x :: l, acc => by
    rw [List.foldl_cons, List.foldl_cons, aput_mapV]
    exact fold_mapV h gk F l _
theorem map_keys {l : List (Int × Dat)} : (l.map fun p => Dat.int p.1) = (l.map (·.1)).map .int := by rw [List.map_map]; rfl
/-- a loop over the keys of a dict that is locked -/
theorem q_lockK {l : List (Int × Dat)} {tb : TS} (hi : δ[i]? = some (some (.imm (.dk l)))) (I : List Int → De → Prop) (h0 : I [] δ)
    (hs : ∀ M : LkM, M.i = i → ∀ pre k δ', pre ++ [k] <+: l.map (·.1) → I pre δ' → ∃ δ'' js, EvG K (some M) g (.int k) δ' δ'' js ∧ T K (some M) tb δ'' { nx := I (pre ++ [k]), ct := I (pre ++ [k]) })
    (hd : ∀ δ', I (l.map (·.1)) δ' → T K none t3 δ' P) : T K none (tSeq (tLock (tFor (iKeys (tVar i)) g tb)) t3) δ P := by
  refine t_seq (t_lock (.inl ⟨l, hi⟩) fun M hM => ?_)
  refine t_forM (l := l.map (·.1)) (enc := .int) I ((evi_keysK hM hi).to map_keys) h0 (fun pre k δ' hp hI => ?_) hd
  obtain ⟨δ'', js, h1, h2⟩ := hs M hM pre k δ' hp hI
  exact ⟨δ'', js, h1, h2.imp (fun _ q => q) (fun _ q => q) (fun _ q => q.elim) fun _ q => q⟩
theorem q_lockT {l : List (List Str × Dat)} {tb : TS} (hi : δ[i]? = some (some (.imm (.dt l)))) (I : List Ad → De → Prop) (h0 : I [] δ)
    (hs : ∀ M : LkM, M.i = i → ∀ pre k δ', pre ++ [k] <+: l.map (·.1) → I pre δ' → ∃ δ'' js, EvG K (some M) g (adr k) δ' δ'' js ∧ T K (some M) tb δ'' { nx := I (pre ++ [k]), ct := I (pre ++ [k]) })
    (hd : ∀ δ', I (l.map (·.1)) δ' → T K none t3 δ' P) : T K none (tSeq (tLock (tFor (iKeys (tVar i)) g tb)) t3) δ P := by
  refine t_seq (t_lock (.inr ⟨l, hi⟩) fun M hM => ?_)
  refine t_forM (l := l.map (·.1)) (enc := adr) I ((evi_keysT hM hi).to (by rw [List.map_map]; rfl)) h0 (fun pre k δ' hp hI => ?_) hd
  obtain ⟨δ'', js, h1, h2⟩ := hs M hM pre k δ' hp hI
  exact ⟨δ'', js, h1, h2.imp (fun _ q => q) (fun _ q => q) (fun _ q => q.elim) fun _ q => q⟩
/-- {k: v for k in d if ..} of a dict that a slot holds, ints -/
theorem evo_rowC {r : Row} {vs : List Nat} {tk tv : TE} (f : Int → Bool) (F : Int → Int) (hi : δ[i]? = some (some (.imm (roD r)))) (hv : ∀ v ∈ vs, i ≠ v) (hl : r.length ≤ 100000)
    (hs : ∀ M : LkM, M.i = i → ∀ k, k ∈ r.map (·.1) → ∃ δx js, EvG K (some M) g (.int k) (wipeD δ vs) δx js ∧ (∀ j ∈ js, j ∈ vs) ∧ EvB K (some M) tt δx (f k) ∧ (f k = true → EvP K (some M) tk δx (Eq (.int k)) ∧ EvP K (some M) tv δx (Eq (.int (F k))))) :
    EvOK K none (tLockE (tDc (iKeys (tVar i)) g tt tk tv vs)) δ (Eq (mapV .int (((r.map (·.1)).filter f).foldl (fun acc k => aput acc k (F k)) []))) := by
  refine evo_lock (.inl ⟨_, hi⟩) fun M hM => ?_
  have e := fold_mapV Dat.int (fun k : Int => k) F ((r.map (·.1)).filter f) []
  have e0 : mapV Dat.int ([] : Row) = [] := rfl
  rw [e0] at e
  rw [← e]
  refine evo_dc (l := r.map (·.1)) (enc := .int) f (fun k => k) (fun k => .int (F k)) ((evi_keysK hM hi).to (by rw [map_keys, mapV_keys])) (fun v h => offm_of hM (hv v h)) (by rw [List.length_map]; exact hl) fun k hk => hs M hM k hk
/-! ### calls while a dict is locked -/
/-- without the object at a -/
def rmH (H : Hp) (a : Addr) : Hp := fun b => if b = a then none else H b
theorem rm_ne {H : Hp} {a b : Addr} (h : b ≠ a) : rmH H a b = H b := if_neg h
theorem rm_same {H : Hp} {a : Addr} : rmH H a a = none := if_pos rfl
section
variable {Hs : Hp} {a : Addr} {u : HO}
theorem sqT_rm (h : Hs a = some u) (hu : DictO u) {b : Addr} {xs : List V} (q : SqT K Hs b xs) : SqT K (rmH Hs a) b xs := by
  rcases q with (q | ⟨o, q⟩) | q
  · refine .inl (.inl ?_)
    rw [rm_ne fun c => ?_]
    · exact q
    · subst c
      rw [h] at q
      rcases hu with ⟨_, rfl⟩ | ⟨_, rfl⟩ <;> cases q
  · refine .inl (.inr ⟨o, ?_⟩)
    rw [rm_ne fun c => ?_]
    · exact q
    · subst c
      rw [h] at q
      rcases hu with ⟨_, rfl⟩ | ⟨_, rfl⟩ <;> cases q
  · exact .inr q
theorem sqL_rm (h : Hs a = some u) (hu : DictO u) {b : Addr} {xs : List V} (q : SqL K Hs b xs) : SqL K (rmH Hs a) b xs := by
  rcases q with (q | ⟨o, q⟩) | q
  · refine .inl (.inl ?_)
    rw [rm_ne fun c => ?_]
    · exact q
    · subst c
      rw [h] at q
      rcases hu with ⟨_, rfl⟩ | ⟨_, rfl⟩ <;> cases q
  · refine .inl (.inr ⟨o, ?_⟩)
    rw [rm_ne fun c => ?_]
    · exact q
    · subst c
      rw [h] at q
      rcases hu with ⟨_, rfl⟩ | ⟨_, rfl⟩ <;> cases q
  · exact .inr q
mutual
theorem tr_rm (h : Hs a = some u) (hu : DictO u) : ∀ {v : V} {d : Dat}, Tr K Hs v d → noD d = true → Tr K (rmH Hs a) v d
  | _, _, .non, _ => .non
  | _, _, .bl b, _ => .bl b
  | _, _, .int i, _ => .int i
  | _, _, .str x, _ => .str x
  | _, _, .am q, _ => .am (sqT_rm h hu q)
  | _, _, .scr q, _ => .scr (sqL_rm h hu q)
  | _, _, .lst q t, n => .lst (by
      rw [rm_ne fun c => ?_]
      · exact q
      · subst c
        rw [h] at q
        rcases hu with ⟨_, rfl⟩ | ⟨_, rfl⟩ <;> cases q) (trL_rm h hu t (by rw [noD] at n; exact n))
  | _, _, .tup q t, n => .tup (by
      rw [rm_ne fun c => ?_]
      · exact q
      · subst c
        rw [h] at q
        rcases hu with ⟨_, rfl⟩ | ⟨_, rfl⟩ <;> cases q) (trL_rm h hu t (by rw [noD] at n; exact n))
  | _, _, .dk q t, n => by rw [noD] at n; cases n
  | _, _, .dt q t, n => by rw [noD] at n; cases n
  | _, _, .at q, n => by rw [noD] at n; cases n
theorem trL_rm (h : Hs a = some u) (hu : DictO u) : ∀ {v : List V} {d : List Dat}, TrL K Hs v d → noDL d = true → TrL K (rmH Hs a) v d
  | _, _, .nil, _ => .nil
  | _, _, .cons q t, n => by
    rw [noDL, Bool.and_eq_true] at n
    exact .cons (tr_rm h hu q n.1) (trL_rm h hu t n.2)
end
theorem trK_int_rm : ∀ {kvs : List (Key × V)} {r : Row}, TrK K Hs kvs (mapV .int r) → TrK K (rmH Hs a) kvs (mapV .int r)
  | _, [], .nil => .nil
  | _, _ :: _, .cons h t => by
    cases h
    exact .cons (.int _) (trK_int_rm t)
/-- a row isn't the table -/
theorem tr_row_rm {T : Tab} {r : Row} {v : V} (hT : T ≠ []) (h : Tr K Hs (.ref a) (taD T)) (q : Tr K Hs v (roD r)) : Tr K (rmH Hs a) v (roD r) := by
  obtain ⟨a', kvs, ea, h1, h2⟩ := h.dk_inv
  cases ea
  obtain ⟨b, kws, rfl, h3, h4⟩ := q.dk_inv
  have ne : b ≠ a := fun c => by
    subst c
    rw [h1] at h3
    cases h3
    cases T with
    | nil => exact hT rfl
    | cons p T =>
      obtain ⟨p1, p2⟩ := p
      cases h2 with
      | cons g1 _ =>
        cases r with
        | nil => cases h4
        | cons w r =>
          generalize e : mapV Dat.int (w :: r) = l at h4
          cases h4 with
          | cons g2 _ =>
            have e : (w.1, Dat.int w.2) :: mapV Dat.int r = _ := e
            injection e with e _
            injection e with _ e
            subst e
            cases g2
            cases g1
  exact .dk (by rw [rm_ne ne]; exact h3) (trK_int_rm h4)
end
/-- data that may be handed on while the dict of slot i is locked -/
def FarD (δ : De) (i : Nat) (x : Dat) : Prop := noD x = true ∨ ∃ r, x = roD r ∧ ∃ T : Tab, T ≠ [] ∧ δ[i]? = some (some (.imm (taD T)))
theorem farD_am {a : Am} : FarD δ i (am a) := .inl rfl
theorem evp_callLA {M : LkM} {α : Type} {enc : α → List Dat} {pre : α → Prop} {post : α → Dat → Prop} {t : TA} {E : XK} {dvs : List V} {xs : List Dat} (a : α) {as : List Dat} (h : EvA K (some M) t δ (Eq as)) (hv : ∀ Hs, TrL K Hs dvs xs) (ea : as ++ xs = enc a) (hp : pre a) (far : ∀ x ∈ as, FarD δ M.i x) :
    EvP K (some M) (tCall (SpD K enc pre post) dvs E t) δ (post a) := fun Hs0 H0 Hs H σ s Q k =>
  h _ _ _ _ _ s _ fun vs H1 Hs1 ds e1 t1 p1 => by
    subst p1
    have s1 := s.grow e1
    obtain ⟨g1, g2, g3, g4, g5⟩ := s1.lk
    have rmS : Same (rmH Hs1 M.d) H1 := fun b w q => by
      by_cases c : b = M.d
      · subst c; rw [rm_same] at q; cases q
      · rw [rm_ne c] at q; exact g5 b w c q
    have all : ∀ {vs : List V} {l : List Dat}, TrL K Hs1 vs l → (∀ x ∈ l, FarD δ M.i x) → TrL K (rmH Hs1 M.d) vs l := by
      intro vs l t
      induction l generalizing vs with
      | nil => intro _; cases t; exact .nil
      | cons x l ih =>
        intro f
        cases t with
        | cons q t =>
          refine .cons ?_ (ih t fun y hy => f y (List.mem_cons_of_mem _ hy))
          rcases f x List.mem_cons_self with n | ⟨r, rfl, T, hT, hs⟩
          · exact tr_rm g3 g4 q n
          · obtain ⟨v, q1, q2⟩ := s1.imm hs
            rw [g1] at q1
            cases q1
            exact tr_row_rm hT q2 q
    refine ⟨a, rmH Hs1 M.d, rmS, ea ▸ (all t1 far).append (hv _), hp, fun v H' Hs' d e2 t2 p2 => ?_⟩
    have nd : Hs' M.d = none := e2.out M.d _ g2 (fun xs z => nomatch z) rm_same
    -- the locked dict comes back
    let Hn : Hp := fun b => if b = M.d then Hs1 M.d else Hs' b
    have hne : ∀ b, b ≠ M.d → Hn b = Hs' b := fun b c => if_neg c
    have heq : Hn M.d = Hs1 M.d := if_pos rfl
    have up : Same Hs' Hn := fun b w q => by
      by_cases c : b = M.d
      · subst c; rw [nd] at q; cases q
      · rw [hne b c]; exact q
    refine k v H' Hn d (e1.trans ⟨fun b w q => ?_, e2.same, fun b w q => ?_, fun b w q nt n => ?_⟩) (t2.mono up) p2
    · by_cases c : b = M.d
      · subst c; rw [heq] at q; exact .inl q
      · rw [hne b c] at q
        rcases e2.nu b w q with z | z
        · rw [rm_ne c] at z; exact .inl z
        · exact .inr z
    · by_cases c : b = M.d
      · subst c; rw [heq]; exact q
      · rw [hne b c]; exact e2.le b w (by rw [rm_ne c]; exact q)
    · have c : b ≠ M.d := fun c => by subst c; rw [g3] at n; cases n
      rw [hne b c]
      exact e2.out b w q nt (by rw [rm_ne c]; exact n)
theorem evp_callL {M : LkM} {α : Type} {enc : α → List Dat} {pre : α → Prop} {post : α → Dat → Prop} {t : TA} {E : XK} (a : α) {r : Dat} (h : EvA K (some M) t δ (Eq (enc a))) (hp : pre a) (far : ∀ x ∈ enc a, FarD δ M.i x) (hq : ∀ d, post a d → d = r) :
    EvP K (some M) (tCall (SpD K enc pre post) [] E t) δ (Eq r) := (evp_callLA a h (fun _ => .nil) (List.append_nil _) hp far).imp fun d q => (hq d q).symm
/-- amount(x) -/
theorem evp_am1 {t : TA} {E : XK} {n : Int} (h : EvA K none t δ (Eq [.int n])) : EvP K none (tCall (SpAmount K) [.int 1] E t) δ (Eq (am (amt n 1))) :=
  (evp_callA (R := Eq (am (amt n 1))) h (fun _ => .cons (.int 1) .nil) fun ds e => by
    subst e
    exact ⟨(n, 1), rfl, (by decide : (0 : Int) < 1), fun d q => q.symm⟩)
theorem evp_am1L {M : LkM} {t : TA} {E : XK} {n : Int} (h : EvA K (some M) t δ (Eq [.int n])) : EvP K (some M) (tCall (SpAmount K) [.int 1] E t) δ (Eq (am (amt n 1))) :=
  (evp_callLA (xs := [.int 1]) (n, 1) h (fun _ => .cons (.int 1) .nil) rfl (by decide : (0 : Int) < 1) fun x hx => by
    rw [List.mem_singleton.mp hx]
    exact .inl rfl).imp fun d q => q.symm
theorem rv_ltT {a b c e : Int} : RV K (rLtT K) (.tup [.int a, .int b]) (.tup [.int c, .int e]) (Eq (.bl (HT.lexLt [a, b] [c, e]))) := fun Hs H v u s t1 t2 Q k => by
  obtain ⟨p, xs, rfl, h1, h2⟩ := t1.tup_inv
  obtain ⟨q, ys, rfl, h3, h4⟩ := t2.tup_inv
  obtain ⟨v1, r1, rfl, g1, h2⟩ := h2.cons_inv
  obtain ⟨v2, rfl, g2⟩ := one_inv h2
  obtain ⟨u1, r1, rfl, g3, h4⟩ := h4.cons_inv
  obtain ⟨u2, rfl, g4⟩ := one_inv h4
  cases g1; cases g2; cases g3; cases g4
  exact ⟨p, q, [a, b], [c, e], rfl, rfl, s.sqT h1, s.sqT h3, k _ H Hs _ .refl (.bl _) rfl⟩
end
end Tf
/-! text TfN -/
/-! the defs of the table, walked -/
namespace Tf
open PySem PySem.Spec PyProof.Rows L2
local macro_rules | `(tactic| walk_at "ev1") => `(tactic| first
  | with_reducible exact evp_int | with_reducible exact evp_bl | with_reducible exact evp_str | with_reducible exact evp_non | with_reducible exact evp_gamA | with_reducible exact evp_gam | (with_reducible apply evp_var; (with_unfolding_all exact rfl))
  | with_reducible exact eva_nil | with_reducible apply eva_cons
  | with_reducible apply evp_op | (with_reducible apply evp_un (hr := ru_int)) | with_reducible apply evp_cb
  | with_reducible apply evp_tup' | (with_reducible show List.length _ ≤ 100000; simp; done)
  | with_reducible exact rv_int | with_reducible exact rv_bl | with_reducible apply rv_intC | with_reducible exact rv_eq (.int _ _) | with_reducible exact rv_ne (.int _ _)
  | (with_reducible apply rv_ix; (first | (with_unfolding_all exact Sq.tup _) | (with_unfolding_all exact Sq.lst _) | (with_reducible apply Sqx.sq; with_reducible assumption)); (with_unfolding_all exact rfl))
  | with_reducible exact rc_gcd
  | with_reducible exact rc_tupA | with_reducible exact rc_tupM
  | (with_reducible apply rc_tup; (first | (with_unfolding_all exact Sq.tup _) | (with_unfolding_all exact Sq.lst _) | (with_reducible apply Sqx.sq; with_reducible assumption)))
  | (with_reducible apply rc_lst; (first | (with_unfolding_all exact Sq.tup _) | (with_unfolding_all exact Sq.lst _) | (with_reducible apply Sqx.sq; with_reducible assumption)))
  | (with_reducible apply rc_len; (first | (with_unfolding_all exact Sq.tup _) | (with_unfolding_all exact Sq.lst _) | (with_reducible apply Sqx.sq; with_reducible assumption)))
  | with_reducible apply rv_cat
  | with_reducible exact evb_yes
  | with_reducible apply evb_test | with_reducible apply evb_B | with_reducible apply evb_not | with_reducible apply evb_and | with_reducible apply evb_or | with_reducible apply evp_and | with_reducible apply evp_or | with_reducible apply evp_not
  | (with_reducible refine fun _ => ?_))
local macro_rules | `(tactic| walk_at "ev") => `(tactic| repeat' walk_at "ev1")
/-! ### what they compute -/
def rowT (sc : Int) (num : Num) (r : Row) (t : Tm) : Row := aput r ((aget num t.1).getD 0) (-t.2.1 * (sc / t.2.2))
def rowA (b : Bd) (sl : Int) : Row := if b.1.2.1 = 0 then [(sl, -1)] else aput [(sl, -1)] 0 (-b.1.2.1 * (scaS b.1 / b.1.2.2))
def rowI (b : Bd) (sl : Int) : Row := if b.2 = true then aput (rowA b sl) 1 (-1) else rowA b sl
def rowS (b : Bd) (sl : Int) (num : Num) : Row := b.1.1.foldl (rowT (scaS b.1) num) (rowI b sl)
def gr (T : Tab) (q : Int) : Row := (aget T q).getD []
def mendP (T : Tab) (first q : Int) : Bool := decide (first ≤ q) && HT.lexLt [gt (gr T q) 0, gt (gr T q) 1] [0, 0]
def mendS (T : Tab) (first : Int) : Option Int := (sortZ (T.map (·.1))).find? (mendP T first)
def chgP (r : Row) (first q : Int) : Bool := decide (1 < q) && (decide (q < first) || decide (0 < gt r q))
def chgS (r : Row) (first : Int) : Option Int := (sortZ (r.map (·.1))).find? (chgP r first)
def optI : Option Int → Dat
  | none => .non
  | some i => .int i
def wit1 (row piv : Row) (q : Int) : Row := (row.map (·.1)).foldl (fun acc k => aput acc k (-(gt piv q) * gt row k)) []
def witF (row piv : Row) (q : Int) (acc : Row) (k : Int) : Row := aput acc k (gt acc k + gt row q * gt piv k)
def wit2 (row piv : Row) (q : Int) : Row := (piv.map (·.1)).foldl (witF row piv q) (wit1 row piv q)
def gcdF (f : Row) (d : Int) (k : Int) : Int := ((Nat.gcd d.natAbs (gt f k).natAbs : Nat) : Int)
def gcdR (f : Row) : Int := (f.map (·.1)).foldl (gcdF f) 0
def priR (f : Row) : Row := ((f.map (·.1)).filter fun k => !decide (gt f k = 0)).foldl (fun acc k => aput acc k (gt f k / gcdR f)) []
def witS (row piv : Row) (q : Int) : Row := priR (wit2 row piv q)
def negR (r : Row) : Row := (r.map (·.1)).foldl (fun acc k => aput acc k (-(gt r k))) []
def pivS (T : Tab) (s q : Int) : Row := if 0 < gt (gr T s) q then negR (gr T s) else gr T s
def excF (T : Tab) (s q : Int) (acc : Tab) (o : Int) : Tab := if o = s then acc else if (aget (gr T o) q).isSome then aput acc o (witS (gr T o) (pivS T s q) q) else aput acc o (gr T o)
def excS (T : Tab) (s q : Int) : Tab := (T.map (·.1)).foldl (excF T s q) [(q, pivS T s q)]
def tinF (T : Tab) (first : Int) (f : Am) (q : Int) : Am := if first ≤ q ∧ gt (gr T q) 1 < 0 then (if cmpA (amt (gt (gr T q) 0) (-(gt (gr T q) 1))) f < 0 then amt (gt (gr T q) 0) (-(gt (gr T q) 1)) else f) else f
def tinS (T : Tab) (first : Int) : Am := (T.map (·.1)).foldl (tinF T first) (1, 1)
def ptvS (T : Tab) (tiny : Am) (q : Int) : Am := match aget T q with
  | none => (0, 1)
  | some r => ovr (pls (amt (gt r 0) 1) (tms (amt (gt r 1) 1) tiny)) (amt (-(gt r q)) 1)
def pntF (T : Tab) (tiny : Am) (num : Num) (acc : Pnt) (a : Ad) : Pnt := aput (aput acc a (0, 1)) a (ptvS T tiny ((aget num a).getD 0))
def pntS (T : Tab) (num : Num) (first : Int) : Pnt := (num.map (·.1)).foldl (pntF T (tinS T first) num) []
def wgtS (row : Row) (bs : List Bd) (first : Int) : List Am := bs.mapIdx fun i b => amt (-(gt row (first + (i : Nat))) * scaS b.1) 1
theorem fold_aput_len {κ α β : Type} [DecidableEq κ] (F : List (κ × α) → β → List (κ × α)) (h : ∀ acc x, (F acc x).length ≤ acc.length + 1) : ∀ (l : List β) (acc : List (κ × α)), (l.foldl F acc).length ≤ acc.length + l.length
  | [], acc => by simp
  | x :: l, acc => by
    have h1 := fold_aput_len F h l (F acc x)
    have h2 := h acc x
    rw [List.foldl_cons, List.length_cons]
    omega
section
variable {P : Program} {w : World} {K : PySem.W.Frag} {mg : Str → Option Value} {base : Heap}
abbrev SpSca (K : PySem.W.Frag) : Sp := SpD K (fun a : Dat × Su => [a.1]) PreSca fun a d => d = .int (scaS a.2)
structure PreRow (a : Dat × Bd × Int × Num) : Prop where
  x : BdX a.1 a.2.1
  sca : ∀ pre t, pre ++ [t] <+: a.2.1.1.1 → Lt2 (scaS (pre, a.2.1.1.2)) 6000 ∧ Lt2 t.2.2 6000
  c0 : 0 < a.2.1.1.2.2
  c1 : CMulH (-a.2.1.1.2.1) (scaS a.2.1.1 / a.2.1.1.2.2)
  t0 : ∀ t ∈ a.2.1.1.1, 0 < t.2.2 ∧ CMulH (-t.2.1) (scaS a.2.1.1 / t.2.2) ∧ ∃ v, aget a.2.2.2 t.1 = some v
  len : a.2.1.1.1.length ≤ 1000
theorem rowA_len (b : Bd) (sl : Int) : (rowA b sl).length ≤ 2 := by
  unfold rowA
  split
  · show 1 ≤ 2; decide
  · exact aput_len _ _ _
theorem rowI_len (b : Bd) (sl : Int) : (rowI b sl).length ≤ 3 := by
  have h := rowA_len b sl
  unfold rowI
  split
  · exact Nat.le_trans (aput_len _ _ _) (by omega)
  · omega
theorem ok_slack_row (T : Tx P K mg base) (C_whole_scale : Cal P w K mg base 36 "whole_scale" ["one"] [] (SpSca K)) :
    Cal P w K mg base 37 "slack_row" ["bound", "slack", "numbers"] [] (SpD K (fun a : Dat × Bd × Int × Num => [a.1, .int a.2.2.1, nuD a.2.2.2]) PreRow fun a d => d = roD (rowS a.2.1 a.2.2.1 a.2.2.2)) := by
  refine cal_of (k := 36) T.d_slack_row scSlackRow (fun _ => rfl) (fun _ _ _ _ _ _ us hl => match us, hl with | [_, _, _], _ => rfl) fun cdv f A outer s H Q E hr => ?_
  have hu := hu_of hr
  have hB := big_of (f := f) (cd := cdv) (A := A) (outer := outer) (s := s) (H := H) (E := E) (w := w) (mg := mg) T scSlackRow hr
  refine ⟨_, (pss_cons (ps_set (i := 3) scSlackRow.nd rfl (Or.inl rfl) (pe_cal C_whole_scale hr (by rfl) (pa_cons (pe_ix (ixK (K := K)) (pv 0) pe_int (fun _ _ => rfl)) pa_nil)))
  (pss_cons (ps_set (i := 4) scSlackRow.nd rfl (Or.inl rfl) (pe_ix (ixK (K := K)) (pe_ix (ixK (K := K)) (pv 0) pe_int (fun _ _ => rfl)) pe_int (fun _ _ => rfl)))
  (pss_cons (ps_set (i := 5) scSlackRow.nd rfl (Or.inl rfl) (pe_disp (pps_cons (pv 1) (pe_un un_neg pe_int) pps_nil) (by rfl) (by rfl) (fun z => by cases z) (by decide)))
  (pss_cons (ps_if (pt_cmpR op_ne (pe_ix (ixK (K := K)) (pv 4) pe_int (fun _ _ => rfl)) pe_int (nomark _)) (pss_one (ps_dput hu (pv 5) (pe_gint (x := "UNIT") (by rfl) T.mUNIT) (pe_op op_mulH (pe_un un_neg (pe_ix (ixK (K := K)) (pv 4) pe_int (fun _ _ => rfl))) (pe_op (op_fdivB hB) (pv 3) (pe_ix (ixK (K := K)) (pv 4) pe_int (fun _ _ => rfl)))) rfl)) pss_nil)
  (pss_cons (ps_if (pt_val (pe_ix (ixK (K := K)) (pv 0) pe_int (fun _ _ => rfl))) (pss_one (ps_dput hu (pv 5) (pe_gint (x := "TINY") (by rfl) T.mTINY) (pe_un un_neg pe_int) rfl)) pss_nil)
  (pss_cons (ps_for PassesOwn.never rfl (pi_seq (K := K) (pe_ix (ixK (K := K)) (pe_ix (ixK (K := K)) (pv 0) pe_int (fun _ _ => rfl)) pe_int (fun _ _ => rfl))) (pg_seq (K := K) (n := 2) rfl (pgs_cons (pg_name (i := 6) scSlackRow.nd rfl (Or.inl rfl)) (pgs_cons (pg_name (i := 7) scSlackRow.nd rfl (Or.inl rfl)) pgs_nil))) (pss_one (ps_dput hu (pv 5) (pe_dget hu (pv 2) (pe_callTy (cr_tup (K := K)) (by rfl) T.n_tuple (by decide +kernel) (pa_cons (pv 6) pa_nil)) (fun _ _ => rfl)) (pe_op op_mulH (pe_un un_neg (pe_ix (ixK (K := K)) (pv 7) pe_int (fun _ _ => rfl))) (pe_op (op_fdivB hB) (pv 3) (pe_ix (ixK (K := K)) (pv 7) pe_int (fun _ _ => rfl)))) rfl)))
  (pss_one (ps_ret (pv 5))))))))), fun a ha => ?_⟩
  obtain ⟨d, b, sl, num⟩ := a
  obtain ⟨⟨xs, g1, x, y, ps, g2, g3, g4, g5, g6⟩, h2, h3, h4, h5, h6⟩ := ha
  have g1 : Sqx d [xs, .bl b.2] := g1
  have g2 : Sqx xs [x, y] := g2
  have g6 : Sqx y [.int b.1.2.1, .int b.1.2.2] := g6
  have h3 : 0 < b.1.2.2 := h3
  have h4 : CMulH (-b.1.2.1) (scaS b.1 / b.1.2.2) := h4
  have h6 : b.1.1.length ≤ 1000 := h6
  try dsimp only [cxK]
  refine q_asg (evp_callE (xs, b.1) (by walk_at "ev") ⟨⟨x, y, ps, g2, g3, g4, g5, g6⟩, h2⟩ fun d q => q) ?_
  refine q_asg (by walk_at "ev") ?_
  refine q_asgOK (eo_disp1 (k := sl) (by walk_at "ev") (R := Eq (.int (-1))) (by walk_at "ev")) ?_
  rintro kvs ⟨dd, ed, rfl⟩
  subst ed
  refine q_join [some (.imm d), some (.imm (.int sl)), some (.imm (nuD num)), some (.imm (.int (scaS b.1))), some (.imm y), some (.ok (mapV .int (rowA b sl))), none, none] (b := !decide (b.1.2.1 = 0)) (EvB.to (by walk_at "ev") (by by_cases c : b.1.2.1 = 0 <;> simp [c])) (fun c => ?_) (fun c => ?_) ?_
  · have c : ¬ b.1.2.1 = 0 := by simpa using c
    refine t_putK (A := Eq (.int (-b.1.2.1 * (scaS b.1 / b.1.2.2)))) (l := mapV .int [(sl, -1)]) (k := 0) rfl (by
      walk_at "ev"
      · exact h3
      · exact h4) (by walk_at "ev") (by show 1 < 100000; decide) fun d' e' => ?_
    subst e'
    rw [aput_mapV]
    unfold rowA
    rw [if_neg c]
    rfl
  · have c : b.1.2.1 = 0 := by simpa using c
    unfold rowA
    rw [if_pos c]
    rfl
  refine q_join [some (.imm d), some (.imm (.int sl)), some (.imm (nuD num)), some (.imm (.int (scaS b.1))), some (.imm y), some (.ok (mapV .int (rowI b sl))), none, none] (b := b.2) (by walk_at "ev") (fun c => ?_) (fun c => ?_) ?_
  · refine t_putK (A := Eq (.int (-1))) (l := mapV .int (rowA b sl)) (k := 1) rfl (by walk_at "ev") (by walk_at "ev") (by rw [mapV_len]; have := rowA_len b sl; omega) fun d' e' => ?_
    subst e'
    rw [aput_mapV]
    unfold rowI
    rw [if_pos c]
    rfl
  · unfold rowI
    rw [if_neg (by simp [c])]
  refine q_forM (l := ps) (enc := (·.1)) (fun pre δ' => ∃ x z, δ' = [some (.imm d), some (.imm (.int sl)), some (.imm (nuD num)), some (.imm (.int (scaS b.1))), some (.imm y), some (.ok (mapV .int ((pre.map (·.2)).foldl (rowT (scaS b.1) num) (rowI b sl)))), x, z]) (evi_sq (by walk_at "ev") g3.sq) ⟨_, _, rfl⟩ ?_ ?_
  · rintro pre p _ hp ⟨z1, z2, rfl⟩
    obtain ⟨x', y', k1, k2, k3⟩ := g4 p (pre_mem hp)
    have k3 : Sqx y' [.int p.2.2.1, .int p.2.2.2] := k3
    have pm : p.2 ∈ b.1.1 := by rw [← g5]; exact List.mem_map.mpr ⟨p, pre_mem hp, rfl⟩
    obtain ⟨u1, u2, v, hv⟩ := h5 p.2 pm
    have hl := fold_aput_len (rowT (scaS b.1) num) (fun acc x => aput_len _ _ _) (pre.map (·.2)) (rowI b sl)
    have hi := rowI_len b sl
    have hp2 := hp.length_le
    rw [List.length_append, List.length_singleton] at hp2
    have hp3 : ps.length = b.1.1.length := by rw [← g5, List.length_map]
    rw [List.length_map] at hl
    refine ⟨_, _, evg_two (hd := k1), ?_⟩
    refine t_putK (A := Eq (.int (-p.2.2.1 * (scaS b.1 / p.2.2.2)))) (l := mapV .int ((pre.map (·.2)).foldl (rowT (scaS b.1) num) (rowI b sl))) (k := v) rfl (by
      walk_at "ev"
      · exact u1
      · exact u2) (evp_getT (l := mapV .int num) (k := p.2.1) (.inr rfl) (evp_cb (eva_cons (by walk_at "ev") eva_nil) (rc_tup k2.sq)) (by rw [aget_mapV, hv]; rfl)) (by rw [mapV_len]; omega) fun d' e' => ?_
    subst e'
    rw [aput_mapV, List.map_append, List.foldl_append]
    have e3 : ∀ r : Row, aput r v (-p.2.2.1 * (scaS b.1 / p.2.2.2)) = rowT (scaS b.1) num r p.2 := fun r => by unfold rowT; rw [hv]; rfl
    rw [e3]
    exact ⟨_, _, rfl⟩
  · rintro _ ⟨z1, z2, rfl⟩
    refine t_freeze 5 rfl rfl (t_retE (by walk_at "ev") ?_)
    show _ = roD (rowS b sl num)
    unfold rowS
    rw [g5]
    rfl
theorem ok_slack_to_mend (T : Tx P K mg base) : Cal P w K mg base 36 "slack_to_mend" ["table", "first"] [] (SpD K (fun a : Tab × Int => [taD a.1, .int a.2]) (fun a => a.1.length < 64) fun a d => d = optI (mendS a.1 a.2)) := by
  refine cal_of (k := 35) T.d_slack_to_mend scSlackToMend (fun _ => rfl) (fun _ _ _ _ _ _ us hl => match us, hl with | [_, _], _ => rfl) fun cdv f A outer s H Q E hr => ?_
  have hu := hu_of hr
  refine ⟨_, (pss_cons (ps_for PassesOwn.never rfl (pi_seq (K := K) (pe_callB (cr_sortK hr) (by rfl) T.n_sorted (by decide +kernel) (pa_cons (pv 0) pa_nil))) (pg_name (i := 2) scSlackToMend.nd rfl (Or.inl rfl)) (pss_cons (ps_set (i := 3) scSlackToMend.nd rfl (Or.inl rfl) (pe_dget hu (pv 0) (pv 2) (fun _ _ => rfl)))
  (pss_one (ps_if (PW.pt (pw_and (pt_cmpR op_ge (pv 2) (pv 1) (nomark _)) (pw_and1 (pt_cmpR (op_ltT hr.units0) (pe_tup (pa_cons (pe_dget2 hu (pv 3) (pe_gint (x := "UNIT") (by rfl) T.mUNIT) pe_int ⟨by rfl, by rfl, by rfl, by rfl⟩) (pa_cons (pe_dget2 hu (pv 3) (pe_gint (x := "TINY") (by rfl) T.mTINY) pe_int ⟨by rfl, by rfl, by rfl, by rfl⟩) pa_nil))) (pe_tup (pa_cons pe_int (pa_cons pe_int pa_nil))) (nomark _))))) (pss_one (ps_ret (pv 2))) pss_nil))))
  (pss_one (ps_ret pe_non))), fun a ha => ?_⟩
  obtain ⟨t, first⟩ := a
  have ha : t.length < 64 := ha
  try dsimp only [cxK]
  have hk : ((mapV roD t).map (·.1)) = t.map (·.1) := mapV_keys
  refine q_forM (l := sortZ (t.map (·.1))) (enc := .int) (fun pre δ' => (∀ q ∈ pre, mendP t first q = false) ∧ ∃ x z, δ' = [some (.imm (taD t)), some (.imm (.int first)), x, z]) (evi_sq (evp_cb (eva_cons (by walk_at "ev") eva_nil) (by rw [← hk]; exact rc_sortK (by rw [mapV_len]; exact ha))) (.lst _)) ⟨by simp, _, _, rfl⟩ ?_ ?_
  · rintro pre q _ hp ⟨hn, z1, z2, rfl⟩
    have qm : q ∈ t.map (·.1) := (sortZ_perm _).mem_iff.mp (pre_mem hp)
    obtain ⟨r, hr⟩ := aget_key qm
    have eg : gr t q = r := by unfold gr; rw [hr]; rfl
    refine ⟨_, _, evg_name, ?_⟩
    refine q_asg (evp_getK (l := mapV roD t) (.inr rfl) (by walk_at "ev") (by rw [aget_mapV, hr]; rfl)) ?_
    refine t_when (b := mendP t first q) ?_ (fun c => ?_) fun c => ?_
    · unfold mendP
      rw [eg]
      refine evb_and (by walk_at "ev") fun _ => evb_test (evp_op (evp_tup' (eva_cons (evp_g2K (r := r) (.inr rfl) (by walk_at "ev")) (eva_cons (evp_g2K (r := r) (.inr rfl) (by walk_at "ev")) eva_nil)) (by show 2 ≤ 100000; decide)) (by walk_at "ev") rv_ltT)
    · refine t_retE (by walk_at "ev") ?_
      show _ = optI (mendS t first)
      unfold mendS
      rw [find_at hp hn c]
      rfl
    · refine ⟨fun q' hq' => ?_, _, _, rfl⟩
      rcases List.mem_append.mp hq' with h | h
      · exact hn q' h
      · rw [List.mem_singleton.mp h]; exact c
  · rintro _ ⟨hn, z1, z2, rfl⟩
    refine t_retE (by walk_at "ev") ?_
    show _ = optI (mendS t first)
    unfold mendS
    rw [List.find?_eq_none.mpr (fun q hq => by rw [hn q hq]; decide)]
    rfl
theorem ok_quantity_to_change (T : Tx P K mg base) : Cal P w K mg base 36 "quantity_to_change" ["row", "first"] [] (SpD K (fun a : Row × Int => [roD a.1, .int a.2]) (fun a => a.1.length < 64) fun a d => d = optI (chgS a.1 a.2)) := by
  refine cal_of (k := 35) T.d_quantity_to_change scQuantityToChange (fun _ => rfl) (fun _ _ _ _ _ _ us hl => match us, hl with | [_, _], _ => rfl) fun cdv f A outer s H Q E hr => ?_
  have hu := hu_of hr
  refine ⟨_, (pss_cons (ps_for PassesOwn.never rfl (pi_seq (K := K) (pe_callB (cr_sortK hr) (by rfl) T.n_sorted (by decide +kernel) (pa_cons (pv 0) pa_nil))) (pg_name (i := 2) scQuantityToChange.nd rfl (Or.inl rfl)) (pss_one (ps_if (PW.pt (pw_and (pt_cmpR op_gt (pv 2) (pe_gint (x := "TINY") (by rfl) T.mTINY) (nomark _)) (pw_and1 (PW.pt (pw_or (pt_cmpR op_lt (pv 2) (pv 1) (nomark _)) (pw_or1 (pt_cmpR op_gt (pe_dget hu (pv 0) (pv 2) (fun _ _ => rfl)) pe_int (nomark _)))))))) (pss_one (ps_ret (pv 2))) pss_nil)))
  (pss_one (ps_ret pe_non))), fun a ha => ?_⟩
  obtain ⟨t, first⟩ := a
  have ha : t.length < 64 := ha
  try dsimp only [cxK]
  have hk : ((mapV Dat.int t).map (·.1)) = t.map (·.1) := mapV_keys
  refine q_forM (l := sortZ (t.map (·.1))) (enc := .int) (fun pre δ' => (∀ q ∈ pre, chgP t first q = false) ∧ ∃ x, δ' = [some (.imm (roD t)), some (.imm (.int first)), x]) (evi_sq (evp_cb (eva_cons (by walk_at "ev") eva_nil) (by rw [← hk]; exact rc_sortK (by rw [mapV_len]; exact ha))) (.lst _)) ⟨by simp, _, rfl⟩ ?_ ?_
  · rintro pre q _ hp ⟨hn, z1, rfl⟩
    have qm : q ∈ t.map (·.1) := (sortZ_perm _).mem_iff.mp (pre_mem hp)
    refine ⟨_, _, evg_name, ?_⟩
    refine t_when (b := chgP t first q) ?_ (fun c => ?_) fun c => ?_
    · unfold chgP
      refine evb_and (by walk_at "ev") fun _ => evb_or (by walk_at "ev") fun _ => evb_test (evp_op (evp_gtK (r := t) (.inr rfl) (by walk_at "ev") qm) (by walk_at "ev") rv_bl)
    · refine t_retE (by walk_at "ev") ?_
      show _ = optI (chgS t first)
      unfold chgS
      rw [find_at hp hn c]
      rfl
    · refine ⟨fun q' hq' => ?_, _, rfl⟩
      rcases List.mem_append.mp hq' with h | h
      · exact hn q' h
      · rw [List.mem_singleton.mp h]; exact c
  · rintro _ ⟨hn, z1, rfl⟩
    refine t_retE (by walk_at "ev") ?_
    show _ = optI (chgS t first)
    unfold chgS
    rw [List.find?_eq_none.mpr (fun q hq => by rw [hn q hq]; decide)]
    rfl
end
end Tf
/-! text TfO -/
/-! the defs of the table, walked: the exchange, the point, the weights -/
namespace Tf
open PySem PySem.Spec PyProof.Rows L2
local macro_rules | `(tactic| walk_at "ev1") => `(tactic| first
  | with_reducible exact evp_int | with_reducible exact evp_bl | with_reducible exact evp_str | with_reducible exact evp_non | with_reducible exact evp_gamA | with_reducible exact evp_gam | (with_reducible apply evp_var; (with_unfolding_all exact rfl))
  | with_reducible exact eva_nil | with_reducible apply eva_cons
  | with_reducible apply evp_op | (with_reducible apply evp_un (hr := ru_int)) | with_reducible apply evp_cb
  | with_reducible apply evp_tup' | (with_reducible show List.length _ ≤ 100000; simp; done)
  | with_reducible exact rv_int | with_reducible exact rv_bl | with_reducible apply rv_intC | with_reducible exact rv_eq (.int _ _) | with_reducible exact rv_ne (.int _ _)
  | (with_reducible apply rv_ix; (first | (with_unfolding_all exact Sq.tup _) | (with_unfolding_all exact Sq.lst _) | (with_reducible apply Sqx.sq; with_reducible assumption)); (with_unfolding_all exact rfl))
  | with_reducible exact rc_gcd
  | with_reducible exact rc_tupA | with_reducible exact rc_tupM
  | (with_reducible apply rc_tup; (first | (with_unfolding_all exact Sq.tup _) | (with_unfolding_all exact Sq.lst _) | (with_reducible apply Sqx.sq; with_reducible assumption)))
  | (with_reducible apply rc_lst; (first | (with_unfolding_all exact Sq.tup _) | (with_unfolding_all exact Sq.lst _) | (with_reducible apply Sqx.sq; with_reducible assumption)))
  | (with_reducible apply rc_len; (first | (with_unfolding_all exact Sq.tup _) | (with_unfolding_all exact Sq.lst _) | (with_reducible apply Sqx.sq; with_reducible assumption)))
  | with_reducible apply rv_cat
  | with_reducible exact evb_yes
  | with_reducible apply evb_test | with_reducible apply evb_B | with_reducible apply evb_not | with_reducible apply evb_and | with_reducible apply evb_or | with_reducible apply evp_and | with_reducible apply evp_or | with_reducible apply evp_not
  | (with_reducible refine fun _ => ?_))
local macro_rules | `(tactic| walk_at "ev") => `(tactic| repeat' walk_at "ev1")
section
variable {P : Program} {w : World} {K : PySem.W.Frag} {mg : Str → Option Value} {base : Heap}
structure PreWit (a : Row × Row × Int) : Prop where
  q1 : a.2.2 ∈ a.1.map (·.1)
  q2 : a.2.2 ∈ a.2.1.map (·.1)
  m1 : ∀ k, k ∈ a.1.map (·.1) → CMulH (-(gt a.2.1 a.2.2)) (gt a.1 k)
  m2 : ∀ k, k ∈ a.2.1.map (·.1) → CMulH (gt a.1 a.2.2) (gt a.2.1 k)
  l1 : a.1.length ≤ 1000
  l2 : a.2.1.length ≤ 1000
theorem wit1_len (row piv : Row) (q : Int) : (wit1 row piv q).length ≤ row.length := by
  have h := fold_aput_len (fun (acc : Row) k => aput acc k (-(gt piv q) * gt row k)) (fun acc x => aput_len _ _ _) (row.map (·.1)) []
  have e : ([] : Row).length = 0 := rfl
  rw [List.length_map] at h
  show ((row.map (·.1)).foldl _ []).length ≤ _
  omega
theorem wit2_len (row piv : Row) (q : Int) (l : List Int) : (l.foldl (witF row piv q) (wit1 row piv q)).length ≤ row.length + l.length := by
  have h := fold_aput_len (witF row piv q) (fun acc x => aput_len _ _ _) l (wit1 row piv q)
  have h2 := wit1_len row piv q
  omega
theorem gcdF_nn (f : Row) : ∀ (l : List Int) (d : Int), 0 ≤ d → 0 ≤ l.foldl (gcdF f) d ∧ (0 < d → 0 < l.foldl (gcdF f) d) ∧ ((∃ k ∈ l, gt f k ≠ 0) → 0 < l.foldl (gcdF f) d)
  | [], d, h => ⟨h, fun q => q, fun ⟨k, hk, _⟩ => nomatch hk⟩
  | k :: l, d, h => by
    have h0 : 0 ≤ gcdF f d k := by unfold gcdF; omega
    obtain ⟨a, b, c⟩ := gcdF_nn f l (gcdF f d k) h0
    refine ⟨a, fun q => b ?_, fun ⟨k', hk, q⟩ => ?_⟩
    · unfold gcdF
      have : 0 < Nat.gcd d.natAbs (gt f k).natAbs := Nat.gcd_pos_of_pos_left _ (by omega)
      omega
    · rcases List.mem_cons.mp hk with e | e
      · subst e
        refine b ?_
        unfold gcdF
        have : 0 < Nat.gcd d.natAbs (gt f k').natAbs := Nat.gcd_pos_of_pos_right _ (by omega)
        omega
      · exact c ⟨k', e, q⟩
theorem ok_without (T : Tx P K mg base) : Cal P w K mg base 36 "without" ["row", "pivot", "quantity"] [] (SpD K (fun a : Row × Row × Int => [roD a.1, roD a.2.1, .int a.2.2]) PreWit fun a d => d = roD (witS a.1 a.2.1 a.2.2)) := by
  refine cal_of (k := 35) T.d_without scWithout (fun _ => rfl) (fun _ _ _ _ _ _ us hl => match us, hl with | [_, _, _], _ => rfl) fun cdv f A outer s H Q E hr => ?_
  have hu := hu_of hr
  have hB := big_of (f := f) (cd := cdv) (A := A) (outer := outer) (s := s) (H := H) (E := E) (w := w) (mg := mg) T scWithout hr
  refine ⟨_, (pss_cons (ps_set (i := 3) scWithout.nd rfl (Or.inr rfl) (pe_un un_neg (pe_dget hu (pv 1) (pv 2) (fun _ _ => rfl))))
  (pss_cons (ps_set (i := 4) scWithout.nd rfl (Or.inl rfl) (pe_dget hu (pv 0) (pv 2) (fun _ _ => rfl)))
  (pss_cons (ps_set (i := 5) scWithout.nd rfl (Or.inr rfl) (pe_lock (pe_dc (own := [("place", 6)]) rfl scWithout.nd (pi_keys (pv 0)) (blkOk_by (own := [("place", 6)]) (N := nWithout) (sc := defScope sWithout) (by decide +kernel)) (fun _ _ _ _ _ => (pg_name (i := 6) scWithout.nd rfl (Or.inl rfl))) (fun _ _ _ _ _ => pts_nil) (fun _ _ _ _ _ => (pv 6)) (fun _ _ _ _ _ => (pe_op op_mulH (pv 3) (pe_dget hu (pv 0) (pv 6) (fun _ _ => rfl)))))))
  (pss_cons (ps_lock (ps_for PassesOwn.never rfl (pi_keys (pv 1)) (pg_name (i := 6) scWithout.nd rfl (Or.inl rfl)) (pss_one (ps_dput hu (pv 5) (pv 6) (pe_op op_add (pe_dget2 hu (pv 5) (pv 6) pe_int ⟨by rfl, by rfl, by rfl, by rfl⟩) (pe_op op_mulH (pv 4) (pe_dget hu (pv 1) (pv 6) (fun _ _ => rfl)))) rfl))))
  (pss_cons (ps_set (i := 7) scWithout.nd rfl (Or.inr rfl) pe_int)
  (pss_cons (ps_lock (ps_for PassesOwn.never rfl (pi_keys (pv 5)) (pg_name (i := 6) scWithout.nd rfl (Or.inl rfl)) (pss_one (ps_set (i := 7) scWithout.nd rfl (Or.inr rfl) (pe_callBfun cr_gcd (by rfl) T.mgcd (pa_cons (pv 7) (pa_cons (pe_dget hu (pv 5) (pv 6) (fun _ _ => rfl)) pa_nil)))))))
  (pss_one (ps_ret (pe_lock (pe_dc (own := [("place", 6)]) rfl scWithout.nd (pi_keys (pv 5)) (blkOk_by (own := [("place", 6)]) (N := nWithout) (sc := defScope sWithout) (by decide +kernel)) (fun _ _ _ _ _ => (pg_name (i := 6) scWithout.nd rfl (Or.inl rfl))) (fun _ _ _ _ _ => (pts_one (pt_cmpR op_ne (pe_dget hu (pv 5) (pv 6) (fun _ _ => rfl)) pe_int (nomark _)))) (fun _ _ _ _ _ => (pv 6)) (fun _ _ _ _ _ => (pe_op (op_fdivB hB.blk) (pe_dget hu (pv 5) (pv 6) (fun _ _ => rfl)) (pv 7))))))))))))), fun a ha => ?_⟩
  obtain ⟨row, piv, q⟩ := a
  obtain ⟨h1, h2, h3, h4, h5, h6⟩ := ha
  have h5 : row.length ≤ 1000 := h5
  have h6 : piv.length ≤ 1000 := h6
  try dsimp only [cxK]
  refine q_asg (evp_un (evp_gtK (r := piv) (k := q) (.inr rfl) (by walk_at "ev") h2) ru_int) ?_
  refine q_asg (evp_gtK (r := row) (k := q) (.inr rfl) (by walk_at "ev") h1) ?_
  refine q_asgOK (B := Eq (mapV .int (wit1 row piv q))) ?_ ?_
  · have h := evo_rowC (K := K) (r := row) (i := 0) (vs := [6]) (g := gName 6) (tt := tYes) (tk := tVar 6) (tv := tOp (rI CMulH fun i j => .int (i * j)) (tVar 3) (tDGet (tVar 0) (tVar 6))) (δ := [some (.imm (roD row)), some (.imm (roD piv)), some (.imm (.int q)), some (.imm (.int (-(gt piv q)))), some (.imm (.int (gt row q))), none, none, none]) (fun _ => true) (fun k => -(gt piv q) * gt row k) rfl (by decide) (by omega) fun M hM k hk => ⟨_, _, evg_name (offm_of hM (by decide)), by decide, evb_yes, fun _ => ⟨by walk_at "ev", ?_⟩⟩
    · rw [List.filter_eq_self.mpr fun _ _ => rfl] at h
      exact h
    · exact evp_op (by walk_at "ev") (evp_gtK (r := row) (.inr rfl) (by walk_at "ev") hk) (rv_intC (h3 k hk))
  rintro _ rfl
  refine q_lockK (l := mapV .int piv) rfl (fun pre δ' => ∃ z, δ' = [some (.imm (roD row)), some (.imm (roD piv)), some (.imm (.int q)), some (.imm (.int (-(gt piv q)))), some (.imm (.int (gt row q))), some (.ok (mapV .int (pre.foldl (witF row piv q) (wit1 row piv q)))), z, none]) ⟨_, rfl⟩ ?_ ?_
  · rintro M hM pre k _ hp ⟨z, rfl⟩
    rw [mapV_keys] at hp
    have hk := pre_mem hp
    have hp2 := hp.length_le
    rw [List.length_append, List.length_singleton, List.length_map] at hp2
    have hl := wit2_len row piv q pre
    refine ⟨_, _, evg_name (offm_of hM (by decide)), ?_⟩
    refine t_putK (A := Eq (.int (gt (pre.foldl (witF row piv q) (wit1 row piv q)) k + gt row q * gt piv k))) (l := mapV .int (pre.foldl (witF row piv q) (wit1 row piv q))) (k := k) rfl ?_ (by walk_at "ev") (by rw [mapV_len]; omega) fun d' e' => ?_
    · exact evp_op (evp_g2K (r := pre.foldl (witF row piv q) (wit1 row piv q)) (.inl rfl) (by walk_at "ev")) (evp_op (by walk_at "ev") (evp_gtK (r := piv) (.inr rfl) (by walk_at "ev") hk) (rv_intC (h4 k hk))) rv_int
    · subst e'
      rw [aput_mapV, List.foldl_append]
      exact ⟨_, rfl⟩
  rintro _ ⟨z, rfl⟩
  rw [mapV_keys]
  have ew : (piv.map (·.1)).foldl (witF row piv q) (wit1 row piv q) = wit2 row piv q := rfl
  rw [ew]
  have hlen : (wit2 row piv q).length ≤ 2000 := by
    have := wit2_len row piv q (piv.map (·.1))
    rw [List.length_map, ew] at this
    omega
  refine q_asg (by walk_at "ev") ?_
  refine t_freeze 5 rfl rfl ?_
  refine q_lockK (i := 5) (l := mapV .int (wit2 row piv q)) rfl (fun pre δ' => ∃ z, δ' = [some (.imm (roD row)), some (.imm (roD piv)), some (.imm (.int q)), some (.imm (.int (-(gt piv q)))), some (.imm (.int (gt row q))), some (.imm (roD (wit2 row piv q))), z, some (.imm (.int (pre.foldl (gcdF (wit2 row piv q)) 0)))]) ⟨_, rfl⟩ ?_ ?_
  · rintro M hM pre k _ hp ⟨z, rfl⟩
    rw [mapV_keys] at hp
    have hk := pre_mem hp
    refine ⟨_, _, evg_name (offm_of hM (by decide)), ?_⟩
    refine t_asg (A := Eq (.int (gcdF (wit2 row piv q) (pre.foldl (gcdF (wit2 row piv q)) 0) k))) (evp_cb (eva_cons (by walk_at "ev") (eva_cons (evp_gtK (r := wit2 row piv q) (.inr rfl) (by walk_at "ev") hk) eva_nil)) rc_gcd) (fun d' e' => ?_) (offm_of hM (by decide))
    subst e'
    rw [List.foldl_append]
    exact ⟨_, rfl⟩
  rintro _ ⟨z, rfl⟩
  rw [mapV_keys]
  have eg : ((wit2 row piv q).map (·.1)).foldl (gcdF (wit2 row piv q)) 0 = gcdR (wit2 row piv q) := rfl
  rw [eg]
  refine t_ret (A := Eq (roD (witS row piv q))) ?_ fun d e => e.symm
  refine evp_of_ok (A := Eq (mapV .int (witS row piv q))) ?_ fun l e => by subst e; rfl
  unfold witS priR
  refine evo_rowC (r := wit2 row piv q) (i := 5) (fun k => !decide (gt (wit2 row piv q) k = 0)) (fun k => gt (wit2 row piv q) k / gcdR (wit2 row piv q)) rfl (by decide) (by omega) fun M hM k hk => ⟨_, _, evg_name (offm_of hM (by decide)), by decide, ?_, fun c => ⟨by walk_at "ev", ?_⟩⟩
  · exact EvB.to (evb_test (evp_op (evp_gtK (r := wit2 row piv q) (.inr rfl) (by walk_at "ev") hk) (by walk_at "ev") (rv_ne (.int _ _)))) (by by_cases c : gt (wit2 row piv q) k = 0 <;> simp [c])
  · refine evp_op (evp_gtK (r := wit2 row piv q) (.inr rfl) (by walk_at "ev") hk) (by walk_at "ev") (rv_intC ?_)
    exact (gcdF_nn (wit2 row piv q) ((wit2 row piv q).map (·.1)) 0 (Int.le_refl _)).2.2 ⟨k, hk, by simpa using c⟩
structure PreExc (a : Tab × Int × Int) : Prop where
  s : a.2.1 ∈ a.1.map (·.1)
  q : a.2.2 ∈ (gr a.1 a.2.1).map (·.1)
  w : ∀ o, o ∈ a.1.map (·.1) → o ≠ a.2.1 → (aget (gr a.1 o) a.2.2).isSome → PreWit (gr a.1 o, pivS a.1 a.2.1 a.2.2, a.2.2)
  l : a.1.length ≤ 1000
  lp : (gr a.1 a.2.1).length ≤ 1000
theorem evp_gT {m : Option LkM} {δ : De} {i : Nat} {ta : TE} {T : Tab} {k : Int} (h : KAt δ i (mapV roD T)) (hk : EvP K m ta δ (Eq (.int k))) (e : k ∈ T.map (·.1)) : EvP K m (tDGet (tVar i) ta) δ (Eq (roD (gr T k))) := by
  obtain ⟨v, hv⟩ := aget_key e
  unfold gr
  rw [hv]
  exact evp_getK h hk (by rw [aget_mapV, hv]; rfl)
theorem excF_len (T : Tab) (s q : Int) (acc : Tab) (o : Int) : (excF T s q acc o).length ≤ acc.length + 1 := by
  unfold excF
  split
  · omega
  · split <;> exact aput_len _ _ _
theorem ok_exchanged (T : Tx P K mg base) (C_without : Cal P w K mg base 36 "without" ["row", "pivot", "quantity"] [] (SpD K (fun a : Row × Row × Int => [roD a.1, roD a.2.1, .int a.2.2]) PreWit fun a d => d = roD (witS a.1 a.2.1 a.2.2))) :
    Cal P w K mg base 37 "exchanged" ["table", "slack", "quantity"] [] (SpD K (fun a : Tab × Int × Int => [taD a.1, .int a.2.1, .int a.2.2]) PreExc fun a d => d = taD (excS a.1 a.2.1 a.2.2)) := by
  refine cal_of (k := 36) T.d_exchanged scExchanged (fun _ => rfl) (fun _ _ _ _ _ _ us hl => match us, hl with | [_, _, _], _ => rfl) fun cdv f A outer s H Q E hr => ?_
  have hu := hu_of hr
  refine ⟨_, (pss_cons (ps_set (i := 3) scExchanged.nd rfl (Or.inr rfl) (pe_dget hu (pv 0) (pv 1) (fun _ _ => rfl)))
  (pss_cons (ps_if (pt_cmpR op_gt (pe_dget hu (pv 3) (pv 2) (fun _ _ => rfl)) pe_int (nomark _)) (pss_one (ps_set (i := 3) scExchanged.nd rfl (Or.inr rfl) (pe_lock (pe_dc (own := [("place", 7)]) rfl scExchanged.nd (pi_keys (pv 3)) (blkOk_by (own := [("place", 7)]) (N := nExchanged) (sc := defScope sExchanged) (by decide +kernel)) (fun _ _ _ _ _ => (pg_name (i := 7) scExchanged.nd rfl (Or.inl rfl))) (fun _ _ _ _ _ => pts_nil) (fun _ _ _ _ _ => (pv 7)) (fun _ _ _ _ _ => (pe_un un_neg (pe_dget hu (pv 3) (pv 7) (fun _ _ => rfl)))))))) pss_nil)
  (pss_cons (ps_set (i := 4) scExchanged.nd rfl (Or.inl rfl) (pe_disp (pps_cons (pv 2) (pv 3) pps_nil) (by rfl) (by rfl) (fun z => by cases z) (by decide)))
  (pss_cons (ps_lock (ps_for PassesOwn.never rfl (pi_keys (pv 0)) (pg_name (i := 5) scExchanged.nd rfl (Or.inl rfl)) (pss_cons (ps_set (i := 6) scExchanged.nd rfl (Or.inl rfl) (pe_dget hu (pv 0) (pv 5) (fun _ _ => rfl)))
  (pss_one (ps_if (PW.pt (pw_and (pt_cmpR op_ne (pv 5) (pv 1) (nomark _)) (pw_and1 (pt_cmp (pc_din hu (pv 2) (pv 6)))))) (pss_one (ps_dput hu (pv 4) (pv 5) (pe_cal C_without hr (by rfl) (pa_cons (pv 6) (pa_cons (pv 3) (pa_cons (pv 2) pa_nil)))) rfl)) (pss_one (ps_if (pt_cmpR op_ne (pv 5) (pv 1) (nomark _)) (pss_one (ps_dput hu (pv 4) (pv 5) (pv 6) rfl)) pss_nil)))))))
  (pss_one (ps_ret (pv 4))))))), fun a ha => ?_⟩
  obtain ⟨t, sl, q⟩ := a
  obtain ⟨h1, h2, h3, h4, h5⟩ := ha
  have h1 : sl ∈ t.map (·.1) := h1
  have h4 : t.length ≤ 1000 := h4
  have h5 : (gr t sl).length ≤ 1000 := h5
  try dsimp only [cxK]
  refine q_asg (evp_gT (T := t) (k := sl) (.inr rfl) (by walk_at "ev") h1) ?_
  refine q_join [some (.imm (taD t)), some (.imm (.int sl)), some (.imm (.int q)), some (.imm (roD (pivS t sl q))), none, none, none, none] (b := decide (0 < gt (gr t sl) q)) (evb_test (evp_op (evp_gtK (r := gr t sl) (.inr rfl) (by walk_at "ev") h2) (by walk_at "ev") rv_bl)) (fun c => ?_) (fun c => ?_) ?_
  · have c : 0 < gt (gr t sl) q := of_decide_eq_true c
    refine t_asg (A := Eq (roD (pivS t sl q))) (evp_of_ok (A := Eq (mapV .int (negR (gr t sl)))) ?_ fun l e => ?_) fun d e => ?_
    · have h := evo_rowC (K := K) (r := gr t sl) (i := 3) (vs := [7]) (g := gName 7) (tt := tYes) (tk := tVar 7) (tv := tUn (rU fun i => .int (-i)) (tDGet (tVar 3) (tVar 7))) (δ := [some (.imm (taD t)), some (.imm (.int sl)), some (.imm (.int q)), some (.imm (roD (gr t sl))), none, none, none, none]) (fun _ => true) (fun k => -(gt (gr t sl) k)) rfl (by decide) (by omega) fun M hM k hk => ⟨_, _, evg_name (offm_of hM (by decide)), by decide, evb_yes, fun _ => ⟨by walk_at "ev", evp_un (evp_gtK (r := gr t sl) (.inr rfl) (by walk_at "ev") hk) ru_int⟩⟩
      rw [List.filter_eq_self.mpr fun _ _ => rfl] at h
      exact h
    · subst e
      unfold pivS
      rw [if_pos c]
      rfl
    · subst e
      rfl
  · have c : ¬ 0 < gt (gr t sl) q := of_decide_eq_false c
    unfold pivS
    rw [if_neg c]
    rfl
  refine t_seq (t_asgOK (B := Eq (mapV roD [(q, pivS t sl q)])) (fun Hs0 H0 Hs H σ r Q k => eo_disp1 (k := q) (R := Eq (roD (pivS t sl q))) (by walk_at "ev") (by walk_at "ev") Hs0 H0 Hs H σ r Q fun p kvs H' Hs' ds a b c d e g => k p kvs H' Hs' ds a b c d e (by obtain ⟨z, ez, rfl⟩ := g; subst ez; rfl)) (fun kvs e => ?_) offm_none)
  subst e
  refine q_lockK (i := 0) (l := mapV roD t) rfl (fun pre δ' => ∃ z y, δ' = [some (.imm (taD t)), some (.imm (.int sl)), some (.imm (.int q)), some (.imm (roD (pivS t sl q))), some (.ok (mapV roD (pre.foldl (excF t sl q) [(q, pivS t sl q)]))), z, y, none]) ⟨_, _, rfl⟩ ?_ ?_
  · rintro M hM pre k _ hp ⟨z, y, rfl⟩
    rw [mapV_keys] at hp
    have hk := pre_mem hp
    have hne : t ≠ [] := fun e => by subst e; cases hk
    have hp2 := hp.length_le
    rw [List.length_append, List.length_singleton, List.length_map] at hp2
    have hl := fold_aput_len (excF t sl q) (excF_len t sl q) pre [(q, pivS t sl q)]
    have hl0 : ([(q, pivS t sl q)] : Tab).length = 1 := rfl
    refine ⟨_, _, evg_name (offm_of hM (by decide)), ?_⟩
    refine q_asgM (evp_gT (T := t) (k := k) (.inr rfl) (by walk_at "ev") hk) (offm_of hM (by decide)) ?_
    refine t_if (b := !decide (k = sl) && (aget (gr t k) q).isSome) ?_ (fun c => ?_) fun c => ?_
    · refine evb_and (EvB.to (by walk_at "ev") (by by_cases c : k = sl <;> simp [c])) fun _ => evb_test ((evp_inK (l := mapV .int (gr t k)) (k := q) (by walk_at "ev") (.inr rfl)).to ?_)
      rw [aget_mapV]
      cases aget (gr t k) q <;> rfl
    · obtain ⟨c1, c2⟩ := Bool.and_eq_true_iff.mp c
      have c1 : ¬ k = sl := by simpa using c1
      refine t_putK (A := Eq (roD (witS (gr t k) (pivS t sl q) q))) (l := mapV roD (pre.foldl (excF t sl q) [(q, pivS t sl q)])) (k := k) rfl (evp_callL (gr t k, pivS t sl q, q) (by walk_at "ev") (h3 k hk c1 c2) ?_ fun d q => q) (by walk_at "ev") (by rw [mapV_len]; omega) fun d' e' => ?_
      · intro x hx
        have hT : ([some (.imm (taD t)), some (.imm (.int sl)), some (.imm (.int q)), some (.imm (roD (pivS t sl q))), some (.ok (mapV roD (pre.foldl (excF t sl q) [(q, pivS t sl q)]))), some (.imm (.int k)), some (.imm (roD (gr t k))), none] : De)[M.i]? = some (some (.imm (taD t))) := by rw [hM]; rfl
        rcases List.mem_cons.mp hx with rfl | hx
        · exact .inr ⟨_, rfl, t, hne, hT⟩
        rcases List.mem_cons.mp hx with rfl | hx
        · exact .inr ⟨_, rfl, t, hne, hT⟩
        rw [List.mem_singleton.mp hx]
        exact .inl rfl
      · subst e'
        rw [aput_mapV, List.foldl_append]
        have e3 : ∀ acc : Tab, aput acc k (witS (gr t k) (pivS t sl q) q) = excF t sl q acc k := fun acc => by unfold excF; rw [if_neg c1, if_pos c2]
        rw [e3]
        exact ⟨_, _, rfl⟩
    · refine t_when (b := !decide (k = sl)) (EvB.to (by walk_at "ev") (by by_cases c : k = sl <;> simp [c])) (fun c1 => ?_) fun c1 => ?_
      · have c1' : ¬ k = sl := by simpa using c1
        rw [c1, Bool.true_and] at c
        refine t_putK (A := Eq (roD (gr t k))) (l := mapV roD (pre.foldl (excF t sl q) [(q, pivS t sl q)])) (k := k) rfl (by walk_at "ev") (by walk_at "ev") (by rw [mapV_len]; omega) fun d' e' => ?_
        subst e'
        rw [aput_mapV, List.foldl_append]
        have e3 : ∀ acc : Tab, aput acc k (gr t k) = excF t sl q acc k := fun acc => by unfold excF; rw [if_neg c1', if_neg (by rw [c]; decide)]
        rw [e3]
        exact ⟨_, _, rfl⟩
      · have c1' : k = sl := by simpa using c1
        rw [List.foldl_append]
        have e3 : ∀ acc : Tab, [k].foldl (excF t sl q) acc = acc := fun acc => by
          show excF t sl q acc k = acc
          unfold excF
          rw [if_pos c1']
        rw [e3]
        exact ⟨_, _, rfl⟩
  rintro _ ⟨z, y, rfl⟩
  rw [mapV_keys]
  refine t_freeze 4 rfl rfl (t_retE (by walk_at "ev") ?_)
  rfl
end
end Tf
/-! text TfP -/
/-! the point and the weights, walked -/
namespace Tf
open PySem PySem.Spec PyProof.Rows L2
local macro_rules | `(tactic| walk_at "ev1") => `(tactic| first
  | with_reducible exact evp_int | with_reducible exact evp_bl | with_reducible exact evp_str | with_reducible exact evp_non | with_reducible exact evp_gamA | with_reducible exact evp_gam | (with_reducible apply evp_var; (with_unfolding_all exact rfl))
  | with_reducible exact eva_nil | with_reducible apply eva_cons
  | with_reducible apply evp_op | (with_reducible apply evp_un (hr := ru_int)) | with_reducible apply evp_cb
  | with_reducible apply evp_tup' | (with_reducible show List.length _ ≤ 100000; simp; done)
  | with_reducible exact rv_int | with_reducible exact rv_bl | with_reducible apply rv_intC | with_reducible exact rv_eq (.int _ _) | with_reducible exact rv_ne (.int _ _)
  | (with_reducible apply rv_ix; (first | (with_unfolding_all exact Sq.tup _) | (with_unfolding_all exact Sq.lst _) | (with_reducible apply Sqx.sq; with_reducible assumption)); (with_unfolding_all exact rfl))
  | with_reducible exact rc_gcd
  | with_reducible exact rc_tupA | with_reducible exact rc_tupM
  | (with_reducible apply rc_tup; (first | (with_unfolding_all exact Sq.tup _) | (with_unfolding_all exact Sq.lst _) | (with_reducible apply Sqx.sq; with_reducible assumption)))
  | (with_reducible apply rc_lst; (first | (with_unfolding_all exact Sq.tup _) | (with_unfolding_all exact Sq.lst _) | (with_reducible apply Sqx.sq; with_reducible assumption)))
  | (with_reducible apply rc_len; (first | (with_unfolding_all exact Sq.tup _) | (with_unfolding_all exact Sq.lst _) | (with_reducible apply Sqx.sq; with_reducible assumption)))
  | with_reducible apply rv_cat
  | with_reducible exact evb_yes
  | with_reducible apply evb_test | with_reducible apply evb_B | with_reducible apply evb_not | with_reducible apply evb_and | with_reducible apply evb_or | with_reducible apply evp_and | with_reducible apply evp_or | with_reducible apply evp_not
  | (with_reducible refine fun _ => ?_))
local macro_rules | `(tactic| walk_at "ev") => `(tactic| repeat' walk_at "ev1")
abbrev SpTab (K : PySem.W.Frag) : Sp := SpD K (fun a : Tab × Int => [taD a.1, .int a.2]) (fun a => a.1.length < 64) fun a d => d = optI (mendS a.1 a.2)
section
variable {P : Program} {w : World} {K : PySem.W.Frag} {mg : Str → Option Value} {base : Heap}
structure PreTin (a : Tab × Int) : Prop where
  u : ∀ q, q ∈ a.1.map (·.1) → a.2 ≤ q → gt (gr a.1 q) 1 < 0 → 0 ∈ (gr a.1 q).map (·.1) ∧ 1 ∈ (gr a.1 q).map (·.1) ∧ Pm (amt (gt (gr a.1 q) 0) (-(gt (gr a.1 q) 1)))
theorem tin_pm {T : Tab} {first : Int} (h : PreTin (T, first)) : ∀ (l : List Int) (f : Am), (∀ q ∈ l, q ∈ T.map (·.1)) → Pm f → Pm (l.foldl (tinF T first) f)
  | [], f, _, hf => hf
  | q :: l, f, hl, hf => by
    refine tin_pm h l _ (fun k hk => hl k (List.mem_cons_of_mem _ hk)) ?_
    unfold tinF
    split
    · next c =>
      split
      · exact (h.u q (hl q List.mem_cons_self) c.1 c.2).2.2
      · exact hf
    · exact hf
theorem pm_one : Pm (1, 1) := pn_one.pm (by decide)
theorem ok_tiny_amount (T : Tx P K mg base) (C_amount : Cal P w K mg base 36 "amount" ["top", "bottom"] [] (SpAmount K)) (C_compare : Cal P w K mg base 36 "compare" ["one", "two"] [] (SpD K encAA preAA fun a d => d = .int (cmpA a.1 a.2))) :
    Cal P w K mg base 37 "tiny_amount" ["table", "first"] [] (SpD K (fun a : Tab × Int => [taD a.1, .int a.2]) PreTin fun a d => d = am (tinS a.1 a.2)) := by
  refine cal_of (k := 36) T.d_tiny_amount scTinyAmount (fun _ => rfl) (fun _ _ _ _ _ _ us hl => match us, hl with | [_, _], _ => rfl) fun cdv f A outer s H Q E hr => ?_
  have hu := hu_of hr
  refine ⟨_, (pss_cons (ps_set (i := 2) scTinyAmount.nd rfl (Or.inl rfl) (pe_gam (K := K) (x := "ONE") (by rfl) T.mONE))
  (pss_cons (ps_lock (ps_for PassesOwn.never rfl (pi_keys (pv 0)) (pg_name (i := 3) scTinyAmount.nd rfl (Or.inl rfl)) (pss_cons (ps_set (i := 4) scTinyAmount.nd rfl (Or.inl rfl) (pe_dget hu (pv 0) (pv 3) (fun _ _ => rfl)))
  (pss_one (ps_if (PW.pt (pw_and (pt_cmpR op_ge (pv 3) (pv 1) (nomark _)) (pw_and1 (pt_cmpR op_lt (pe_dget2 hu (pv 4) (pe_gint (x := "TINY") (by rfl) T.mTINY) pe_int ⟨by rfl, by rfl, by rfl, by rfl⟩) pe_int (nomark _))))) (pss_cons (ps_set (i := 5) scTinyAmount.nd rfl (Or.inl rfl) (pe_cal C_amount hr (by rfl) (pa_cons (pe_dget hu (pv 4) (pe_gint (x := "UNIT") (by rfl) T.mUNIT) (fun _ _ => rfl)) (pa_cons (pe_un un_neg (pe_dget hu (pv 4) (pe_gint (x := "TINY") (by rfl) T.mTINY) (fun _ _ => rfl))) pa_nil))))
  (pss_one (ps_if (pt_cmpR op_lt (pe_cal C_compare hr (by rfl) (pa_cons (pv 5) (pa_cons (pv 2) pa_nil))) pe_int (nomark _)) (pss_one (ps_set (i := 2) scTinyAmount.nd rfl (Or.inl rfl) (pv 5))) pss_nil))) pss_nil)))))
  (pss_one (ps_ret (pv 2))))), fun a ha => ?_⟩
  obtain ⟨t, first⟩ := a
  try dsimp only [cxK]
  refine q_asg (by walk_at "ev") ?_
  refine q_lockK (i := 0) (l := mapV roD t) rfl (fun pre δ' => ∃ x y z, δ' = [some (.imm (taD t)), some (.imm (.int first)), some (.imm (am (pre.foldl (tinF t first) (1, 1)))), x, y, z]) ⟨_, _, _, rfl⟩ ?_ ?_
  · rintro M hM pre k _ hp ⟨x, y, z, rfl⟩
    rw [mapV_keys] at hp
    have hk := pre_mem hp
    have hpm := tin_pm ha pre (1, 1) (fun q hq => hp.subset (List.mem_append_left _ hq)) pm_one
    refine ⟨_, _, evg_name (offm_of hM (by decide)), ?_⟩
    refine q_asgM (evp_gT (T := t) (k := k) (.inr rfl) (by walk_at "ev") hk) (offm_of hM (by decide)) ?_
    rw [List.foldl_append]
    refine t_when (b := decide (first ≤ k) && decide (gt (gr t k) 1 < 0)) ?_ (fun c => ?_) fun c => ?_
    · exact evb_and (by walk_at "ev") fun _ => evb_test (evp_op (evp_g2K (r := gr t k) (.inr rfl) (by walk_at "ev")) (by walk_at "ev") rv_bl)
    · obtain ⟨c1, c2⟩ := Bool.and_eq_true_iff.mp c
      have c1 : first ≤ k := of_decide_eq_true c1
      have c2 : gt (gr t k) 1 < 0 := of_decide_eq_true c2
      obtain ⟨u1, u2, u3⟩ := ha.u k hk c1 c2
      have hc : ∀ x : Am, [k].foldl (tinF t first) x = if cmpA (amt (gt (gr t k) 0) (-(gt (gr t k) 1))) x < 0 then amt (gt (gr t k) 0) (-(gt (gr t k) 1)) else x := fun x => by
        show tinF t first x k = _
        unfold tinF
        rw [if_pos ⟨c1, c2⟩]
      rw [hc]
      refine q_asgM (evp_callL (gt (gr t k) 0, -(gt (gr t k) 1)) (eva_cons (evp_gtK (r := gr t k) (.inr rfl) (by walk_at "ev") u1) (eva_cons (evp_un (evp_gtK (r := gr t k) (.inr rfl) (by walk_at "ev") u2) ru_int) eva_nil)) (by show 0 < -(gt (gr t k) 1); omega) (fun x hx => ?_) fun d q => q) (offm_of hM (by decide)) ?_
      · rcases List.mem_cons.mp hx with rfl | hx
        · exact .inl rfl
        · rw [List.mem_singleton.mp hx]; exact .inl rfl
      refine t_when (b := decide (cmpA (amt (gt (gr t k) 0) (-(gt (gr t k) 1))) (pre.foldl (tinF t first) (1, 1)) < 0)) (evb_test (evp_op (evp_callL (amt (gt (gr t k) 0) (-(gt (gr t k) 1)), pre.foldl (tinF t first) (1, 1)) (by walk_at "ev") ⟨u3, hpm⟩ (fun x hx => ?_) fun d q => q) (by walk_at "ev") rv_bl)) (fun c3 => ?_) fun c3 => ?_
      · rcases List.mem_cons.mp hx with rfl | hx
        · exact .inl rfl
        · rw [List.mem_singleton.mp hx]; exact .inl rfl
      · have c3 : cmpA (amt (gt (gr t k) 0) (-(gt (gr t k) 1))) (pre.foldl (tinF t first) (1, 1)) < 0 := of_decide_eq_true c3
        refine t_asg (by walk_at "ev") (fun d e => ?_) (offm_of hM (by decide))
        subst e
        rw [if_pos c3]
        exact ⟨_, _, _, rfl⟩
      · have c3 : ¬ cmpA (amt (gt (gr t k) 0) (-(gt (gr t k) 1))) (pre.foldl (tinF t first) (1, 1)) < 0 := of_decide_eq_false c3
        rw [if_neg c3]
        exact ⟨_, _, _, rfl⟩
    · have hc : ∀ x : Am, [k].foldl (tinF t first) x = x := fun x => by
        show tinF t first x k = _
        unfold tinF
        rw [if_neg]
        intro ⟨z1, z2⟩
        simp [z1, z2] at c
      rw [hc]
      exact ⟨_, _, _, rfl⟩
  rintro _ ⟨x, y, z, rfl⟩
  rw [mapV_keys]
  exact t_retE (by walk_at "ev") rfl
theorem aput_any {κ α : Type} [DecidableEq κ] (l : List (κ × α)) (k : κ) (v : α) : ((aput l k v).any fun p => decide (p.1 = k)) = true := by
  unfold aput
  split
  · next h =>
    rw [List.any_eq_true] at h ⊢
    obtain ⟨p, hp, e⟩ := h
    have e : p.1 = k := by simpa using e
    exact ⟨(p.1, v), List.mem_map.mpr ⟨p, hp, by rw [if_pos e]⟩, by simpa using e⟩
  · simp
theorem aput_aput {κ α : Type} [DecidableEq κ] (l : List (κ × α)) (k : κ) (v w : α) : aput (aput l k v) k w = aput l k w := by
  have e : aput (aput l k v) k w = (aput l k v).map (fun p => if p.1 = k then (p.1, w) else p) := if_pos (aput_any l k v)
  rw [e]
  unfold aput
  split
  · rw [List.map_map]
    refine List.map_congr_left fun p _ => ?_
    show (if (if p.1 = k then (p.1, v) else p).1 = k then ((if p.1 = k then (p.1, v) else p).1, w) else (if p.1 = k then (p.1, v) else p)) = _
    by_cases h : p.1 = k <;> simp [h]
  · next h =>
    rw [List.map_append]
    congr 1
    · refine List.map_congr_left (g := id) (fun p hp => ?_) |>.trans (List.map_id _)
      have : ¬ p.1 = k := fun e => h (List.any_eq_true.mpr ⟨p, hp, by simpa using e⟩)
      show (if p.1 = k then (p.1, w) else p) = p
      rw [if_neg this]
    · simp
/-- what must be so for the value of one address -/
structure PrePtv (t : Tab) (tiny : Am) (q : Int) (r : Row) : Prop where
  mem : q ∈ r.map (·.1)
  neg : gt r q < 0
  a0 : Pm (amt (gt r 0) 1)
  a1 : Pm (amt (gt r 1) 1)
  tm : Pm (tms (amt (gt r 1) 1) tiny)
  pl : Pm (pls (amt (gt r 0) 1) (tms (amt (gt r 1) 1) tiny))
  aq : Pm (amt (-(gt r q)) 1)
structure PrePnt (a : Tab × Num × Int) : Prop where
  tin : PreTin (a.1, a.2.2)
  pm : Pm (tinS a.1 a.2.2)
  v : ∀ k, k ∈ a.2.1.map (·.1) → ∀ q, aget a.2.1 k = some q → ∀ r, aget a.1 q = some r → PrePtv a.1 (tinS a.1 a.2.2) q r
  l : a.2.1.length ≤ 1000
theorem amt1_pos {n : Int} (h : 0 < n) : 0 < (amt n 1).1 := by
  unfold amt
  simp
  exact h
theorem ok_point_of (T : Tx P K mg base) (C_tiny_amount : Cal P w K mg base 37 "tiny_amount" ["table", "first"] [] (SpD K (fun a : Tab × Int => [taD a.1, .int a.2]) PreTin fun a d => d = am (tinS a.1 a.2)))
    (C_amount1 : Cal P w K mg base 36 "amount" ["top", "bottom"] [.int 1] (SpAmount K))
    (C_plus : Cal P w K mg base 37 "plus" ["one", "two"] [] (SpD K encAA preAA fun a d => d = am (pls a.1 a.2)))
    (C_times : Cal P w K mg base 37 "times" ["one", "two"] [] (SpD K encAA preAA fun a d => d = am (tms a.1 a.2)))
    (C_over : Cal P w K mg base 37 "over" ["one", "two"] [] (SpD K encAA (fun a => preAA a ∧ 0 < a.2.1) fun a d => d = am (ovr a.1 a.2))) :
    Cal P w K mg base 38 "point_of" ["table", "numbers", "first"] [] (SpF K (fun a : Tab × Num × Int => [taD a.1, nuD a.2.1, .int a.2.2]) PrePnt (fun a d => d = ptD (pntS a.1 a.2.1 a.2.2)) NewD) := by
  refine cal_ofF (k := 37) T.d_point_of scPointOf (fun _ => rfl) (fun _ _ _ _ _ _ us hl => match us, hl with | [_, _, _], _ => rfl) fun cdv f A outer s H Q E hr => ?_
  have hu := hu_of hr
  refine ⟨_, (pss_cons (ps_set (i := 3) scPointOf.nd rfl (Or.inl rfl) (pe_cal C_tiny_amount hr (by rfl) (pa_cons (pv 0) (pa_cons (pv 2) pa_nil))))
  (pss_cons (ps_set (i := 4) scPointOf.nd rfl (Or.inl rfl) pe_dnewT)
  (pss_cons (ps_lock (ps_for PassesOwn.never rfl (pi_keys (pv 1)) (pg_name (i := 5) scPointOf.nd rfl (Or.inl rfl)) (pss_cons (ps_set (i := 6) scPointOf.nd rfl (Or.inl rfl) (pe_dget hu (pv 1) (pv 5) (fun _ _ => rfl)))
  (pss_cons (ps_dput hu (pv 4) (pv 5) (pe_gam (K := K) (x := "ZERO") (by rfl) T.mZERO) rfl)
  (pss_one (ps_if (pt_cmp (pc_din hu (pv 6) (pv 0))) (pss_cons (ps_set (i := 7) scPointOf.nd rfl (Or.inl rfl) (pe_dget hu (pv 0) (pv 6) (fun _ _ => rfl)))
  (pss_cons (ps_set (i := 8) scPointOf.nd rfl (Or.inl rfl) (pe_cal C_plus hr (by rfl) (pa_cons (pe_cal C_amount1 (hr.mono (by decide)) (by rfl) (pa_cons (pe_dget2 hu (pv 7) (pe_gint (x := "UNIT") (by rfl) T.mUNIT) pe_int ⟨by rfl, by rfl, by rfl, by rfl⟩) pa_nil)) (pa_cons (pe_cal C_times hr (by rfl) (pa_cons (pe_cal C_amount1 (hr.mono (by decide)) (by rfl) (pa_cons (pe_dget2 hu (pv 7) (pe_gint (x := "TINY") (by rfl) T.mTINY) pe_int ⟨by rfl, by rfl, by rfl, by rfl⟩) pa_nil)) (pa_cons (pv 3) pa_nil))) pa_nil))))
  (pss_one (ps_dput hu (pv 4) (pv 5) (pe_cal C_over hr (by rfl) (pa_cons (pv 8) (pa_cons (pe_cal C_amount1 (hr.mono (by decide)) (by rfl) (pa_cons (pe_un un_neg (pe_dget hu (pv 7) (pv 6) (fun _ _ => rfl))) pa_nil)) pa_nil))) rfl)))) pss_nil))))))
  (pss_one (ps_ret (pv 4)))))), fun a ha => ?_⟩
  obtain ⟨t, num, first⟩ := a
  obtain ⟨h1, h2, h3, h4⟩ := ha
  have h4 : num.length ≤ 1000 := h4
  try dsimp only [cxK]
  refine q_asg (evp_callE (t, first) (by walk_at "ev") h1 fun d q => q) ?_
  refine q_asgOT eo_dt fun kvs e => ?_
  subst e
  refine q_lockT (i := 1) (l := mapV .int num) rfl (fun pre δ' => ∃ x y z u, δ' = [some (.imm (taD t)), some (.imm (nuD num)), some (.imm (.int first)), some (.imm (am (tinS t first))), some (.ot (mapV am (pre.foldl (pntF t (tinS t first) num) []))), x, y, z, u]) ⟨_, _, _, _, rfl⟩ ?_ ?_
  · rintro M hM pre k _ hp ⟨x, y, z, u, rfl⟩
    rw [mapV_keys] at hp
    have hk := pre_mem hp
    obtain ⟨q, hq⟩ := aget_key hk
    have hp2 := hp.length_le
    rw [List.length_append, List.length_singleton, List.length_map] at hp2
    have hl : ∀ l : List Ad, (l.foldl (pntF t (tinS t first) num) []).length ≤ 2 * l.length := fun l => by
      suffices h : ∀ (l : List Ad) (acc : Pnt), (l.foldl (pntF t (tinS t first) num) acc).length ≤ acc.length + 2 * l.length by
        have := h l []
        have e : ([] : Pnt).length = 0 := rfl
        omega
      intro l
      induction l with
      | nil => intro acc; simp
      | cons a l ih =>
        intro acc
        have h1 := ih (pntF t (tinS t first) num acc a)
        have h2 : (pntF t (tinS t first) num acc a).length ≤ acc.length + 2 := by
          have g1 := aput_len acc a ((0, 1) : Am)
          have g2 := aput_len (aput acc a ((0, 1) : Am)) a (ptvS t (tinS t first) ((aget num a).getD 0))
          show (aput (aput acc a (0, 1)) a (ptvS t (tinS t first) ((aget num a).getD 0))).length ≤ _
          omega
        rw [List.foldl_cons, List.length_cons]
        omega
    have hlp := hl pre
    refine ⟨_, _, evg_name (offm_of hM (by decide)), ?_⟩
    refine q_asgM (evp_getT (l := mapV .int num) (k := k) (d := .int q) (.inr rfl) (by walk_at "ev") (by rw [aget_mapV, hq]; rfl)) (offm_of hM (by decide)) ?_
    refine t_seq (t_putT (A := Eq (am (0, 1))) (l := mapV am (pre.foldl (pntF t (tinS t first) num) [])) (k := k) rfl (by walk_at "ev") (by walk_at "ev") (by rw [mapV_len]; omega) fun d' e' => ?_)
    subst e'
    rw [aput_mapV, List.foldl_append]
    have e0 : ∀ acc : Pnt, [k].foldl (pntF t (tinS t first) num) acc = aput (aput acc k (0, 1)) k (ptvS t (tinS t first) q) := fun acc => by
      show pntF t (tinS t first) num acc k = _
      unfold pntF
      rw [hq]
      rfl
    rw [e0]
    generalize hacc : pre.foldl (pntF t (tinS t first) num) [] = acc at *
    have hal : (aput acc k ((0, 1) : Am)).length < 100000 := by have := aput_len acc k ((0, 1) : Am); omega
    refine t_when (b := (aget t q).isSome) (evb_test ((evp_inK (l := mapV roD t) (k := q) (by walk_at "ev") (.inr rfl)).to (by rw [aget_mapV]; cases aget t q <;> rfl))) (fun c => ?_) fun c => ?_
    · obtain ⟨r, hr⟩ := Option.isSome_iff_exists.mp c
      obtain ⟨p1, p2, p3, p4, p5, p6, p7⟩ := h3 k hk q hq r hr
      have ev : ptvS t (tinS t first) q = ovr (pls (amt (gt r 0) 1) (tms (amt (gt r 1) 1) (tinS t first))) (amt (-(gt r q)) 1) := by unfold ptvS; rw [hr]
      refine q_asgM (evp_getK (l := mapV roD t) (k := q) (d := roD r) (.inr rfl) (by walk_at "ev") (by rw [aget_mapV, hr]; rfl)) (offm_of hM (by decide)) ?_
      have far2 : ∀ {δ : De} {a b : Am} , ∀ x ∈ [am a, am b], FarD δ M.i x := fun x hx => by
        rcases List.mem_cons.mp hx with rfl | hx
        · exact .inl rfl
        · rw [List.mem_singleton.mp hx]; exact .inl rfl
      refine q_asgM (evp_callL (amt (gt r 0) 1, tms (amt (gt r 1) 1) (tinS t first)) (eva_cons (evp_am1L (eva_cons (evp_g2K (r := r) (.inr rfl) (by walk_at "ev")) eva_nil)) (eva_cons (evp_callL (amt (gt r 1) 1, tinS t first) (eva_cons (evp_am1L (eva_cons (evp_g2K (r := r) (.inr rfl) (by walk_at "ev")) eva_nil)) (by walk_at "ev")) ⟨p4, h2⟩ far2 fun d q => q) eva_nil)) ⟨p3, p5⟩ far2 fun d q => q) (offm_of hM (by decide)) ?_
      refine t_putT (A := Eq (am (ptvS t (tinS t first) q))) (l := mapV am (aput acc k (0, 1))) (k := k) rfl ?_ (by walk_at "ev") (by rw [mapV_len]; exact hal) fun d' e' => ?_
      · rw [ev]
        exact evp_callL (pls (amt (gt r 0) 1) (tms (amt (gt r 1) 1) (tinS t first)), amt (-(gt r q)) 1) (eva_cons (by walk_at "ev") (eva_cons (evp_am1L (eva_cons (evp_un (evp_gtK (r := r) (.inr rfl) (by walk_at "ev") p1) ru_int) eva_nil)) eva_nil)) ⟨⟨p6, p7⟩, amt1_pos (by omega)⟩ far2 fun d q => q
      · subst e'
        rw [aput_mapV]
        exact ⟨_, _, _, _, rfl⟩
    · have hn : aget t q = none := by cases h : aget t q with
        | none => rfl
        | some r => rw [h] at c; cases c
      have ev : ptvS t (tinS t first) q = (0, 1) := by unfold ptvS; rw [hn]
      rw [ev, aput_aput]
      exact ⟨_, _, _, _, rfl⟩
  rintro _ ⟨x, y, z, u, rfl⟩
  rw [mapV_keys]
  exact t_retOT (i := 4) rfl rfl fun H0 H' p np => ⟨p, rfl, np⟩
structure PreWgt (a : Dat × Row × List Bd × Int) : Prop where
  x : BsX a.1 a.2.2.1
  sca : ∀ b ∈ a.2.2.1, ∀ pre t, pre ++ [t] <+: b.1.1 → Lt2 (scaS (pre, b.1.2)) 6000 ∧ Lt2 t.2.2 6000
  m : ∀ k, ∀ b ∈ a.2.2.1, CMulH (-(gt a.2.1 k)) (scaS b.1)
  l : a.2.2.1.length ≤ 1000
theorem enum_pairs {α : Type} (f : α → Dat) : ∀ (l : List α), enumD (l.map f) = (l.mapIdx fun i a => (i, a)).map fun p => .tup [.int (p.1 : Nat), f p.2] := fun l => by
  unfold enumD
  apply List.ext_getElem?
  intro i
  rw [List.getElem?_mapIdx, List.getElem?_map, List.getElem?_map, List.getElem?_mapIdx]
  cases l[i]? <;> rfl
theorem ok_weights_of (T : Tx P K mg base) (C_whole_scale : Cal P w K mg base 36 "whole_scale" ["one"] [] (SpSca K)) (C_amount1 : Cal P w K mg base 36 "amount" ["top", "bottom"] [.int 1] (SpAmount K)) :
    Cal P w K mg base 37 "weights_of" ["row", "bounds", "first"] [] (SpD K (fun a : Dat × Row × List Bd × Int => [roD a.2.1, a.1, .int a.2.2.2]) PreWgt fun a d => d = .tup ((wgtS a.2.1 a.2.2.1 a.2.2.2).map am)) := by
  refine cal_of (k := 36) T.d_weights_of scWeightsOf (fun _ => rfl) (fun _ _ _ _ _ _ us hl => match us, hl with | [_, _, _], _ => rfl) fun cdv f A outer s H Q E hr => ?_
  have hu := hu_of hr
  refine ⟨_, (pss_cons (ps_set (i := 3) scWeightsOf.nd rfl (Or.inl rfl) (pe_lst pa_nil))
  (pss_cons (ps_for PassesOwn.never rfl (pi_enumA (by rfl) T.n_enumerate (pa_cons (pv 1) pa_nil)) (pg_seq (K := K) (n := 2) rfl (pgs_cons (pg_name (i := 4) scWeightsOf.nd rfl (Or.inl rfl)) (pgs_cons (pg_name (i := 5) scWeightsOf.nd rfl (Or.inl rfl)) pgs_nil))) (pss_one (ps_expr (pe_bm PySem.F.plainAttrs_list PySem.F.slot_list_append PySem.F.type_list_append mt_append (pv 3) (pa_cons (pe_cal C_amount1 hr (by rfl) (pa_cons (pe_op op_mulH (pe_un un_neg (pe_dget2 hu (pv 0) (pe_op op_add (pv 2) (pv 4)) pe_int ⟨by rfl, by rfl, by rfl, by rfl⟩)) (pe_cal C_whole_scale hr (by rfl) (pa_cons (pe_ix (ixK (K := K)) (pv 5) pe_int (fun _ _ => rfl)) pa_nil))) pa_nil)) pa_nil)))))
  (pss_one (ps_ret (pe_callTy (cr_tup (K := K)) (by rfl) T.n_tuple (by decide +kernel) (pa_cons (pv 3) pa_nil)))))), fun a ha => ?_⟩
  obtain ⟨d, row, bs, first⟩ := a
  obtain ⟨⟨ps, g1, g2, g3⟩, h2, h3, h4⟩ := ha
  have h4 : bs.length ≤ 1000 := h4
  have g3 : ps.map (·.2) = bs := g3
  have hpl : ps.length = bs.length := by rw [← g3, List.length_map]
  try dsimp only [cxK]
  refine q_asgOL eo_nil ?_
  refine q_forM (l := ps.mapIdx fun i a => (i, a)) (enc := fun p => .tup [.int (p.1 : Nat), p.2.1]) (fun pre δ' => ∃ x y, δ' = [some (.imm (roD row)), some (.imm d), some (.imm (.int first)), some (.ol (pre.map fun p => am (amt (-(gt row (first + (p.1 : Nat))) * scaS p.2.2.1) 1))), x, y]) ((evi_enum (by walk_at "ev") g1.sq).to (enum_pairs (·.1) ps)) ⟨_, _, rfl⟩ ?_ ?_
  · rintro pre ⟨i, p, b⟩ _ hp ⟨x, y, rfl⟩
    have hm := pre_mem hp
    obtain ⟨j, hj⟩ := List.getElem?_of_mem hm
    rw [List.getElem?_mapIdx] at hj
    have hmem : (p, b) ∈ ps := by
      cases e : ps[j]? with
      | none => rw [e] at hj; cases hj
      | some w => rw [e] at hj; cases hj; exact List.mem_of_getElem? e
    obtain ⟨xs, k1, k2⟩ := g2 _ hmem
    have k1 : Sqx p [xs, .bl b.2] := k1
    have bm : b ∈ bs := by rw [← g3]; exact List.mem_map.mpr ⟨_, hmem, rfl⟩
    have hp2 := hp.length_le
    rw [List.length_append, List.length_singleton, List.length_mapIdx] at hp2
    refine ⟨_, _, evg_two (hd := .tup _), ?_⟩
    refine t_app (i := 3) rfl (A := Eq (am (amt (-(gt row (first + (i : Nat))) * scaS b.1) 1))) (evp_am1 (eva_cons (evp_op (evp_un (evp_g2K (r := row) (.inr rfl) (by walk_at "ev")) ru_int) (evp_callE (xs, b.1) (by walk_at "ev") ⟨k2, h2 b bm⟩ fun d q => q) (rv_intC (h3 _ b bm))) eva_nil)) (by rw [List.length_map]; omega) fun d' e' => ?_
    subst e'
    exact ⟨_, _, by rw [List.map_append]; rfl⟩
  · rintro _ ⟨x, y, rfl⟩
    refine t_freeze 3 rfl rfl (t_retE (by walk_at "ev") ?_)
    show _ = Dat.tup ((wgtS row bs first).map am)
    unfold wgtS
    rw [← g3]
    congr 1
    apply List.ext_getElem?
    intro i
    rw [List.getElem?_map, List.getElem?_map, List.getElem?_mapIdx, List.getElem?_mapIdx, List.getElem?_map]
    cases ps[i]? <;> rfl
end
end Tf
/-! text TfQ -/
/-! a comprehension of any kind: the block, its turns, whatever a turn does with its element -/
namespace Tf
open PySem PySem.Spec PyProof.Rows L2

/-- how the code of a comprehension e goes on: Bd is what a turn does behind the tests -/
structure CForm (P : Program) (w : World) (A : Around) (e tg iter : Expr) (ifs : List Expr) (Bd : Env → Addr → (Value → Shared → Prop) → (Shared → Prop) → Shared → Prop) : Prop where
  loop : ∀ {R : Result → Shared → Prop} {it : Value} {D : Addr} {env : Env} (I : Nat → Shared → Prop),
    (∀ n s, I n s → wpAny (model P w) A (pyNext it) (fun r s1 => match r with
      | none => R (.ok .next) s1
      | some v => wpAny (model P w) A (letOwnedTupleGo tg it v) (fun _ s2 => wpAny (model P w) A (assign tg env v) (fun _ s3 =>
          wpAny (model P w) A (forIn ifs true fun c r => if r = true then do let ok ← isTrue c env (eval c env); pure (ForInStep.yield ok) else pure (ForInStep.yield r)) (fun ok s4 =>
            if ok = true then Bd env D (notedBy (model P w) A env fun e s' => R (.error e) s') (fun s' => ∃ m, m < n ∧ I m s') s4
            else ∃ m, m < n ∧ I m s4) (notedBy (model P w) A env fun e s' => R (.error e) s') s3) (notedBy (model P w) A env fun e s' => R (.error e) s') s2) (notedBy (model P w) A env fun e s' => R (.error e) s') s1) (notedBy (model P w) A env fun e s' => R (.error e) s') s) →
    ∀ n s, I n s → codeAny (model P w) A (.compLoop e 0 it (.ref D) env) R s
  start : ∀ {R : Result → Shared → Prop} {it acc : Value} {env : Env} {s : Shared}, codeAny (model P w) A (.compLoop e 0 it acc env) R s →
    wpAny (model P w) A (pyIter it) (fun it' s' => codeAny (model P w) A (.compLoop e 0 it' acc env) R s') (notedBy (model P w) A env fun x s' => R (.error x) s') s → codeAny (model P w) A (.compStart e 0 it acc env) R s

/-- the reading: tb D σ H N: from σ, H a turn's rest, D the new object, comes to N -/
def tCg (o0 : Addr → HO) (wi : TI) (g : TG) (tt : TT) (tb : Addr → L2.St → Hp → (Hp → Prop) → Prop) (vs : List Nat) : TE := fun σ H Q => wi σ H fun J H1 => ∀ D, H1 D = none → ∃ W : Nat → Nat → Hp → Prop, (∃ m, W 0 m (upd H1 D (o0 D))) ∧ ∀ i m H, W i m H →
  (J.stop i H ∧ Q (.ref D) H) ∨ (J.go i H ∧ ∃ Nx : Hp → Prop, (∀ H', Nx H' → ∃ m', m' < m ∧ W (i + 1) m' H') ∧ ∀ x H', J.yld i H x H' → g x (wipe σ vs) H' fun σ2 H2 => wipe σ2 vs = wipe σ vs ∧ tt σ2 H2 fun b H3 => if b = true then tb D σ2 H3 Nx else Nx H3)
section
variable {X : Cx}
/-- what a block's rest may do: it keeps the slots that aren't the block's own -/
def Runs (Y : Cx) (ce : Env) (vs : List Nat) (Bd : Env → Addr → (Value → Shared → Prop) → (Shared → Prop) → Shared → Prop) (tb : Addr → L2.St → Hp → (Hp → Prop) → Prop) : Prop :=
  ∀ (pins : List (Addr × Obj)) (s : Shared) (σ : L2.St) (H : Hp) (D : Addr) (Nx : Hp → Prop) (E : Value → Shared → Prop) (N : Shared → Prop), Inv Y pins σ H s → tb D σ H Nx →
    (∀ σ' H' s', Inv Y pins σ' H' s' → σ'.length = σ.length → (∀ (j : Nat) v, j ∉ vs → σ[j]? = some (some v) → σ'[j]? = some (some v)) → Nx H' → N s') → Bd ce D E N s
theorem cg_core {pins : List (Addr × Obj)} {s : Shared} {σ : L2.St} {H : Hp} {Q : VK} {e tg iter : Expr} {ifs : List Expr} {gs : List Comprehension} {scope : Scope} {own : List (Str × Nat)} {pos' : Pos} {wi : TI} {g : TG} {tt : TT} {tb : Addr → L2.St → Hp → (Hp → Prop) → Prop} {use : Option (Value → Sem Unit)} {Qf : Value → Shared → Prop}
    {mk : Sem Value} {ob : Obj} {o0 : Addr → HO} {Bd : Env → Addr → (Value → Shared → Prop) → (Shared → Prop) → Shared → Prop}
    (F : CForm X.prog X.w X.A e tg iter ifs Bd) (hcl : clausesOf e = ⟨tg, iter, ifs, 0⟩ :: gs)
    (hmk : ∀ {E : Value → Shared → Prop} {s : Shared} {Q : Value → Shared → Prop}, Q (.ref s.heap.objs.size) { s with heap := s.heap.push ob } → wpAny (model X.prog X.w) X.A mk Q E s)
    (hob : ∀ (H : Hp) (h : Heap), sysModules < h.objs.size → ObjOk X.prog X.w H (h.push ob) h.objs.size (o0 h.objs.size))
    (hc : X.calm = true) (hN : X.N.Nodup) (I : Inv X pins σ H s) (hi : PI X tg iter wi) (ok : BlkOk X.N X.env.scope scope own)
    (hg : ∀ (s : Shared) (H : Hp) (C : Addr) (cl : List (Str × Addr)) (fp : List Addr), PG (X.blk s H scope (compEnvC scope cl C X.env) fp) tg g) (ht : ∀ (s : Shared) (H : Hp) (C : Addr) (cl : List (Str × Addr)) (fp : List Addr), PTs (X.blk s H scope (compEnvC scope cl C X.env) fp) ifs tt)
    (hb : ∀ (s : Shared) (H : Hp) (C : Addr) (cl : List (Str × Addr)) (fp : List Addr), Runs (X.blk s H scope (compEnvC scope cl C X.env) fp) (compEnvC scope cl C X.env) (own.map (·.2)) Bd tb) (hs : ∀ x, foldedSetIterable iter X.env x = pure x)
    (h : tCg o0 wi g tt tb (own.map (·.2)) σ H Q)
    (hRR : ∀ D C s' m H', Inv X pins σ H' s' → Q (.ref D) H' → s'.heap.Ns C m → FpOk X pins H' C → compPost (model X.prog X.w) X.A X.xe use Qf (.ref D) C (.ok .next) s') :
    wpAny (model X.prog X.w) X.A (comprehension e scope X.env pos' mk false (eval iter X.env) use) Qf X.xe s := by
  have hfree : ∀ y ∈ scope.names, y.2 = .free → ∃ c, X.env.cells.lookup y.1 = some c := fun y hy e => by
    rcases ok.free y hy e with k | k
    · exact I.ok.has _ (.inl k)
    · exact I.ok.has _ (.inr k)
  refine wpAny_comprehension_free (use := use) hcl hs (closure_ok hfree) ok.kind (fun y hy e => by rw [ok.uniq y hy, e]) (thn (hi.run pins s σ H _ I h) fun xv s1 hx => thn hx fun itv s2 h2 => ?_)
  obtain ⟨it, fp, tn, J, H2, ei, I2, T, st2, f2, q⟩ := h2
  subst ei
  refine hmk (newEnv_comp ?_)
  have hDn : H2 s2.heap.objs.size = none := I2.hok.fresh (Nat.le_refl _)
  obtain ⟨W, ⟨m0, w0⟩, turn⟩ := q s2.heap.objs.size hDn
  have I3 : Inv X pins σ (upd H2 s2.heap.objs.size (o0 s2.heap.objs.size)) { s2 with heap := s2.heap.push ob } := I2.laid (t' := s2.toks) (fun b o e => Heap.get?_push_of_some _ e) (Nat.le_refl _) (hob _ _ I2.big)
  have live : ∀ b ∈ fp, b < s2.heap.objs.size := fun b hb => by
    obtain ⟨o, e, _⟩ := T.obj _ _ st2 b hb
    exact Heap.lt_size e
  have f3 : ∀ b ∈ fp, FpOk X pins (upd H2 s2.heap.objs.size (o0 s2.heap.objs.size)) b ∧ b < (s2.heap.push ob).objs.size := fun b hb => by
    refine ⟨⟨?_, (f2 b hb).2⟩, by rw [Heap.size_push]; exact Nat.lt_succ_of_lt (live b hb)⟩
    rw [upd_ne (Nat.ne_of_lt (live b hb))]
    exact (f2 b hb).1
  have st3 : tn 0 (s2.heap.push ob) := T.keep _ _ _ st2 fun b _ o e => Heap.get?_push_of_some _ e
  generalize hD : s2.heap.objs.size = D at *
  generalize hs3 : ({ s2 with heap := s2.heap.push ob } : Shared) = s3 at *
  have eh : s3.heap = s2.heap.push ob := by rw [← hs3]
  rw [← eh] at f3 st3
  generalize hH3 : upd H2 D (o0 D) = H3 at *
  have I4 := block_start I3 ok hN f3
  have pg := hg s3 H3 s3.heap.objs.size (cellsFrom (s3.heap.objs.size + 1) scope.names (cloFrom X.env.cells scope.names [])) fp
  have pt := ht s3 H3 s3.heap.objs.size (cellsFrom (s3.heap.objs.size + 1) scope.names (cloFrom X.env.cells scope.names [])) fp
  have pb := hb s3 H3 s3.heap.objs.size (cellsFrom (s3.heap.objs.size + 1) scope.names (cloFrom X.env.cells scope.names [])) fp
  show codeAny _ _ (.compStart e 0 (.ref it) (.ref D) (compEnvC scope (cellsFrom (s3.heap.objs.size + 1) scope.names (cloFrom X.env.cells scope.names [])) s3.heap.objs.size X.env)) (compPost (model X.prog X.w) X.A X.xe use Qf (.ref D) s3.heap.objs.size) { s3 with heap := pushCells (s3.heap.push { cls := .type "dict", data := .dict #[] }) scope.names }
  generalize hce : compEnvC scope (cellsFrom (s3.heap.objs.size + 1) scope.names (cloFrom X.env.cells scope.names [])) s3.heap.objs.size X.env = ce at I4 pg pt pb ⊢
  have cL : ce.locals = s3.heap.objs.size := by subst hce; rfl
  generalize hs4 : ({ s3 with heap := pushCells (s3.heap.push { cls := .type "dict", data := .dict #[] }) scope.names } : Shared) = s4 at I4 ⊢
  have st4 : tn 0 s4.heap := T.keep _ _ _ st3 fun b _ o e => by rw [← hs4]; exact pushCells_keeps _ _ _ _ (Heap.get?_push_of_some _ e)
  have stat : ∀ {σ' : L2.St} {H' : Hp} {s' : Shared}, Inv (X.blk s3 H3 scope ce fp) [] σ' H' s' → (∀ b ∈ fp, H' b = none) → ∀ b ∈ fp, FpOk (X.blk s3 H3 scope ce fp) [] H' b := fun {σ' H' s'} I' hn b hb =>
    ⟨hn b hb, (I'.ok.exf b hb).1, I'.ok.exfs b hb, .inl hb, fun x c e => (I'.ok.exf b hb).2 x c e, fun p hp => absurd (show p ∈ ([] : List (Addr × Obj)) ++ [] from hp) (by simp)⟩
  have loop : codeAny (model X.prog X.w) X.A (.compLoop e 0 (.ref it) (.ref D) ce) (compPost (model X.prog X.w) X.A X.xe use Qf (.ref D) s3.heap.objs.size) s4 := by
    refine F.loop (fun n s' => ∃ i H', Inv (X.blk s3 H3 scope ce fp) [] (wipe σ (own.map (·.2))) H' s' ∧ tn i s'.heap ∧ (∀ b ∈ fp, H' b = none) ∧ W i n H') ?_ m0 _ ⟨0, H3, I4, st4, fun b hb => (f3 b hb).1.1, w0⟩
    rintro n s5 ⟨i, H5, I5, st5, n5, w5⟩
    rcases turn i n H5 w5 with ⟨stop, qq⟩ | ⟨go, Nx, hNx, step⟩
    · refine thnF (T.done (X.blk s3 H3 scope ce fp) rfl rfl rfl hc i [] s5 _ H5 (fun _ _ => False) I5 (stat I5 n5) st5 stop) fun r s6 ⟨hr, I6⟩ => ?_
      subst hr
      have nC : H5 s3.heap.objs.size = none := by
        have z : H5 ce.locals = none := I6.free
        rwa [cL] at z
      obtain ⟨m, hn, _⟩ := I6.loc
      have hn : s6.heap.Ns ce.locals m := hn
      rw [cL] at hn
      exact hRR D s3.heap.objs.size s6 m H5 (I3.call' (ch := fp) I6.os I6.base I6.hok I6.bare fun b hb => ⟨(f3 b hb).1.2.2.2.1, (f3 b hb).1.2.1, (f3 b hb).1.2.2.2.2.1, (f3 b hb).1.2.2.2.2.2⟩) qq hn (I3.fpOk (Nat.le_refl _) nC)
    · refine thnF (T.item (X.blk s3 H3 scope ce fp) rfl rfl rfl hc i [] s5 _ H5 (fun _ _ => False) I5 (stat I5 n5) st5 go) fun r s6 ⟨u, hr, h6⟩ => ?_
      subst hr
      refine thnF h6 fun _ s7 ⟨x, H7, I7, r7, y7, st7, n7⟩ => ?_
      have I7' := I7.pinned (stat I7 n7) (T.obj _ _ st7)
      refine thnF (pg.run _ s7 _ H7 x u _ I7' r7 (step x H7 y7)) fun _ s8 ⟨σ8, H8, I8, hw8, q8⟩ => ?_
      refine thnF (pt.run _ s8 σ8 H8 _ I8 q8) fun b s9 ⟨H9, I9, q9⟩ => ?_
      have fin : ∀ (σ9 : L2.St) (H' : Hp) (s' : Shared), Inv (X.blk s3 H3 scope ce fp) ([] ++ pinsAt fp s7.heap) σ9 H' s' → σ9.length = σ8.length → (∀ (j : Nat) v, j ∉ own.map (·.2) → σ8[j]? = some (some v) → σ9[j]? = some (some v)) → Nx H' →
          ∃ m, m < n ∧ ∃ i H', Inv (X.blk s3 H3 scope ce fp) [] (wipe σ (own.map (·.2))) H' s' ∧ tn i s'.heap ∧ (∀ b ∈ fp, H' b = none) ∧ W i m H' := fun σ9 H' s' I' hl hk nx => by
        obtain ⟨m', hm, w'⟩ := hNx H' nx
        have pin' : ∀ b ∈ fp, ∀ o, s7.heap.get? b = some o → s'.heap.get? b = some o ∧ H' b = none := fun b hb o e =>
          let z := I'.pin (b, o) (List.mem_append_right _ (List.mem_append_right _ (mem_pinsAt hb e)))
          ⟨z.1, z.2.1⟩
        refine ⟨m', hm, i + 1, H', (I'.unpinned (pins := [])).weak (by rw [hl, ← hw8, wipe_length]) (fun j v e => ?_), T.keep _ _ _ st7 fun b hb o e => (pin' b hb o e).1, fun b hb => ?_, w'⟩
        · rw [← hw8] at e
          obtain ⟨e1, e2⟩ := wipe_some e
          exact hk j v e2 e1
        · obtain ⟨o, e, _⟩ := T.obj _ _ st7 b hb
          exact (pin' b hb o e).2
      cases b with
      | false => exact fin σ8 H9 s9 I9 rfl (fun j v _ e => e) q9
      | true => exact pb _ s9 σ8 H9 D Nx _ _ I9 q9 fin
  exact F.start loop (T.self X.A 0 _ _ _ st4 loop)
end
/-! ### a dict by addresses -/
section
variable {X : Cx} {P : Program} {w : World} {A : Around}
theorem cform_dict {kx vx tg iter : Expr} {ifs : List Expr} {scope : Scope} {pos : Pos} : CForm P w A (.DictComp kx vx [⟨tg, iter, ifs, 0⟩] scope pos) tg iter ifs
    (fun env D E N s => wpAny (model P w) A (eval kx env) (fun kv s4 => wpAny (model P w) A (eval vx env) (fun vv s5 => wpAny (model P w) A (dictSet D kv vv) (fun _ s6 => N s6) E s5) E s4) E s) :=
  ⟨fun I turn n s h => compLoop_anyD I turn n h, fun h0 h => codeAny_compStart_dict h0 h⟩
/-- d[k] = v behind a turn, k a tuple of texts -/
def tbT (tk tv : TE) : Addr → L2.St → Hp → (Hp → Prop) → Prop := fun D σ H Nx => tk σ H fun y H4 => tv σ H4 fun z H5 => ∃ kvs k b, y = .ref b ∧ H5 b = some (.tup (k.map kV)) ∧ H5 D = some (.dT kvs) ∧ kvs.length < sizeLine ∧ Nx (upd H5 D (.dT (putK kvs k z)))
theorem pe_dcT {kx vx tg iter : Expr} {ifs : List Expr} {scope : Scope} {own : List (Str × Nat)} {pos : Pos} {wi : TI} {g : TG} {tt : TT} {tk tv : TE} (hu : X.A.units + 1 < cLine) (hc : X.calm = true) (hN : X.N.Nodup) (hi : PI X tg iter wi) (ok : BlkOk X.N X.env.scope scope own)
    (hg : ∀ (s : Shared) (H : Hp) (C : Addr) (cl : List (Str × Addr)) (fp : List Addr), PG (X.blk s H scope (compEnvC scope cl C X.env) fp) tg g) (ht : ∀ (s : Shared) (H : Hp) (C : Addr) (cl : List (Str × Addr)) (fp : List Addr), PTs (X.blk s H scope (compEnvC scope cl C X.env) fp) ifs tt)
    (hk : ∀ (s : Shared) (H : Hp) (C : Addr) (cl : List (Str × Addr)) (fp : List Addr), PE (X.blk s H scope (compEnvC scope cl C X.env) fp) kx tk)
    (he : ∀ (s : Shared) (H : Hp) (C : Addr) (cl : List (Str × Addr)) (fp : List Addr), PE (X.blk s H scope (compEnvC scope cl C X.env) fp) vx tv) (hs : ∀ x, foldedSetIterable iter X.env x = pure x := by intro _; rfl) :
    PE X (.DictComp kx vx [⟨tg, iter, ifs, 0⟩] scope pos) (tCg (fun _ => .dT []) wi g tt (tbT tk tv) (own.map (·.2))) := by
  refine ⟨fun pins s σ H Q I h => ?_⟩
  rw [arm_eval_DictComp]
  refine cg_core (ob := { cls := .type "dict", data := .dict #[] }) cform_dict rfl (fun q => wpAny_newObj_type q) (fun H h b => dt_empty h b) hc hN I hi ok hg ht (fun s H C cl fp pins s' σ H' D Nx E N I' q k => ?_) hs h fun D C s' m H' I' q hn f => ⟨m, hn, fun h'' sb => ?_⟩
  · refine thnF ((hk s H C cl fp).run pins s' σ H' _ I' q) fun z s4 ⟨y, H4, I4, r4, q4⟩ => ?_
    refine thnF ((he s H C cl fp).run pins s4 σ H4 _ I4 q4) fun z2 s5 ⟨u, H5, I5, r5, kvs, ks, b, ey, eb, eD, lz, nx⟩ => ?_
    subst ey
    cases (show z = Value.ref b from r4)
    obtain ⟨lz1, hd, xs, rel, dd⟩ := dt_of I5.hok eD
    have hl : (putK kvs ks u).length ≤ sizeLine := by have := length_putK kvs ks u; omega
    refine wpAny_dictSet_heap (knd := tupleKind (mixKind X.prog X.w)) (hsz := by rw [← Paired.length rel]; exact lz1) (show X.A.units < cLine by omega) (key_of I5.hok eb) dd fun h' dd' hs => ?_
    obtain ⟨o, es, ep, ho, h2, h3, h4, _, h5⟩ := dd'
    refine k σ (upd H5 D (.dT (putK kvs ks u))) _ (d_write I5 (by rw [eD]; exact True.intro) hs ⟨o, ho⟩ ⟨hl, hd, _, (rel.put ks eb r5).keeps fun c ys ec => ?_, o, es, ep, ho, h2, h3, h4, h5⟩) rfl (fun j v _ e => e) nx
    rw [upd_ne (ne_of ec eD (fun z => nomatch z))]
    exact ec
  · obtain ⟨f0, f1, f2, f3, f4, f5⟩ := f
    exact ⟨.ref D, H', I'.turned (t' := s'.toks) (fun b o hb e => (sb.2 b hb).trans e) f0 f1 f3 f4 f5, rfl, q⟩
end
end Tf
/-! text TfR -/
/-! a set of few addresses (tuples of texts): adding, sorting -/
namespace Tf
open PySem PySem.Spec PyProof.Rows L2

abbrev kyA (l : Ad) : List Key := l.map Sum.inr
/-- the address l stands at a -/
abbrev AdAt (P : Program) (w : World) (h : Heap) (l : Ad) (a : Addr) : Prop := IsTupleKey (mixKind P w) h (kyA l) a
abbrev hshA (P : Program) (w : World) (l : Ad) : Int := tupleKeyHash (mixKind P w) (kyA l)
theorem kyA_eq {a b : Ad} : decide (kyA a = kyA b) = decide (a = b) := mapr_eq
theorem AdAt.inj' {P : Program} {w : World} {h : Heap} {a : Addr} {x y : Ad} (hx : AdAt P w h x a) (hy : AdAt P w h y a) : x = y := mapr_inj (IsTupleKey.inj hx hy)
section
variable {P : Program} {w : World} {A : Around} {E : Value → Shared → Prop} {s : Shared}
/-! ### what the model asks of the values it meets: texts answer at once -/
theorem strs_in {l : Ad} {vs : List Value} (h : ItemsAre (mixKind P w) (kyA l) vs) : ∀ v ∈ vs, ∃ x t, v = Value.str x t := by
  generalize e : kyA l = k at h
  induction h generalizing l with
  | nil => intro v hv; cases hv
  | @cons k0 v' ks vs h1 _ ih =>
    cases l with
    | nil => cases e
    | cons x l =>
      have e : Sum.inr x :: kyA l = k0 :: ks := e
      injection e with e1 e2
      intro v hv
      rcases List.mem_cons.mp hv with q | hv
      · subst e1
        rcases keyIs_shape (show keyIs (.inr x) v' = true from h1) with ⟨i, t, z, _⟩ | ⟨y, t, _, z⟩
        · cases z
        · exact ⟨y, t, q.trans z⟩
      · exact ih e2 v hv
theorem ofAClass_str (n : Nat) (x : Str) (t : Tok) : ofAClassStatement n (.str x t) = pure false := by cases n <;> rfl
theorem hashBy_str (n : Nat) (x : Str) (t : Tok) : hashByValue n (.str x t) = pure false := by cases n <;> rfl
theorem ofAClass_adr {l : Ad} {b : Addr} {Q : Bool → Shared → Prop} (hk : AdAt P w s.heap l b) (h : Q false s) : wpAny (model P w) A (ofAClassStatement 8 (.ref b)) Q E s := by
  have hT := hk.typeIs
  obtain ⟨o, items, n, ho, _, hd, hi⟩ := hk
  unfold ofAClassStatement
  refine wpAny_bind (wpAny_typeOf hT ?_)
  dsimp only
  have e : (("tuple" : String) == "tuple") = true := by decide
  simp only [e, if_true, Bool.not_true, Bool.false_eq_true, if_false]
  try refine wpAny_bind (wpAny_pure ?_)
  try simp only [Bool.not_true, Bool.false_eq_true, if_false]
  show wpAny _ _ (seqItems? (.ref b) >>= _) _ _ s
  refine wpAny_bind (wpAny_seqItems ho hd ?_)
  dsimp only
  refine wpAny_bind ?_
  show wpAny _ _ (forIn items _ _) _ _ s
  rw [← Array.forIn_toList]
  refine wpAny_forIn_list _ (fun rest r s' => r.1 = none ∧ s' = s ∧ ∀ v ∈ rest, ∃ x t, v = Value.str x t) _ ?_ ?_ _ _ ⟨rfl, rfl, strs_in hi⟩
  · rintro v rest r s' ⟨hr, rfl, hall⟩
    obtain ⟨x, t, rfl⟩ := hall v List.mem_cons_self
    rw [ofAClass_str]
    refine wpAny_bind (wpAny_pure ?_)
    simp only [Bool.false_eq_true, if_false]
    exact wpAny_pure ⟨rfl, rfl, fun u hu' => hall u (List.mem_cons_of_mem _ hu')⟩
  · rintro ⟨r1, r2⟩ s' ⟨hr, rfl, _⟩
    simp only at hr
    subst hr
    exact wpAny_pure h
theorem hashBy_adr {l : Ad} {b : Addr} {Q : Bool → Shared → Prop} (hk : AdAt P w s.heap l b) (h : ∀ c, Q c s) : wpAny (model P w) A (hashByValue 8 (.ref b)) Q E s := by
  have hT := hk.typeIs
  obtain ⟨o, items, n, ho, _, hd, hi⟩ := hk
  unfold hashByValue
  refine wpAny_bind (wpAny_specialOf hT F.slot_tuple_hash.lookup ?_)
  show wpAny _ _ (seqItems? (.ref b) >>= _) _ _ s
  refine wpAny_bind (wpAny_seqItems ho hd (wpAny_bind ?_))
  show wpAny _ _ (forIn items _ _) _ _ s
  rw [← Array.forIn_toList]
  refine wpAny_forIn_list _ (fun rest r s' => r.1 = none ∧ s' = s ∧ ∀ v ∈ rest, ∃ x t, v = Value.str x t) _ ?_ ?_ _ _ ⟨rfl, rfl, strs_in hi⟩
  · rintro v rest r s' ⟨hr, rfl, hall⟩
    obtain ⟨x, t, rfl⟩ := hall v List.mem_cons_self
    rw [hashBy_str]
    refine wpAny_bind (wpAny_pure ?_)
    simp only [Bool.not_false, if_true]
    exact wpAny_pure (wpAny_pure (h _))
  · rintro ⟨r1, r2⟩ s' ⟨hr, rfl, _⟩
    simp only at hr
    subst hr
    exact wpAny_pure (h _)
theorem seen_adr {l : Ad} {b : Addr} {Q : Bool → Shared → Prop} (hk : AdAt P w s.heap l b) {ys : List Value} (hy : ∀ y ∈ ys, ∃ l' c, y = Value.ref c ∧ AdAt P w s.heap l' c) (h : Q false s) :
    wpAny (model P w) A (searchCouldBeSeen (.ref b) ys) Q E s := by
  unfold searchCouldBeSeen
  refine wpAny_bind ?_
  refine wpAny_forIn_list _ (fun rest r s' => r.1 = none ∧ s' = s ∧ ∀ y ∈ rest, ∃ l' c, y = Value.ref c ∧ AdAt P w s.heap l' c) _ ?_ ?_ _ _ ⟨rfl, rfl, hy⟩
  · rintro v rest r s' ⟨hr, rfl, hall⟩
    obtain ⟨l', c, rfl, hc⟩ := hall v List.mem_cons_self
    have rest' := fun u hu' => hall u (List.mem_cons_of_mem _ hu')
    dsimp only
    by_cases hv : (b == c || (carriedByValue (.ref b) && carriedByValue (.ref c))) = true
    · exact wp_if_pos hv (wpAny_pure ⟨rfl, rfl, rest'⟩)
    · refine wp_if_neg hv (wpAny_bind (wpAny_eqIsQuiet_tuple hk ?_))
      simp only [Bool.not_true, Bool.false_eq_true, if_false]
      refine wpAny_bind (wpAny_eqIsQuiet_tuple hc ?_)
      simp only [Bool.not_true, Bool.false_eq_true, if_false]
      refine wpAny_bind (ofAClass_adr hk ?_)
      simp only [Bool.false_eq_true, if_false]
      refine wpAny_bind (ofAClass_adr hc ?_)
      simp only [Bool.false_eq_true, if_false]
      exact wpAny_pure ⟨rfl, rfl, rest'⟩
  · rintro ⟨r1, r2⟩ s' ⟨hr, rfl, _⟩
    simp only at hr
    subst hr
    exact wpAny_pure h
/-! ### the set -/
def rowsA (P : Program) (w : World) (L : List It2) : List (Int × Value) := L.map fun p => (hshA P w p.2, Value.ref p.1)
/-- the set's own object: the members' places, keys -/
structure SA (P : Program) (w : World) (h : Heap) (a : Addr) (L : List It2) (es : Array (Int × Value)) (ep : Nat) (t : SetTable) : Prop where
  ob : ∃ o, h.get? a = some o ∧ o.ExactSet ∧ o.data = .set es ep t
  rows : es.toList = rowsA P w L
  tab : TabOk t (L.map fun p => hshA P w p.2)
  nd : (L.map (·.2)).Nodup
  led : w.params.followText "set-order" = true ∨ t.led = true
  m7 : t.mask = 7
  few : L.length ≤ 4
variable {a : Addr} {L : List It2} {es : Array (Int × Value)} {ep : Nat} {t : SetTable}
theorem SA.size (R : SA P w s.heap a L es ep t) : es.size = L.length := by
  have h := congrArg List.length R.rows
  unfold rowsA at h
  rwa [Array.length_toList, List.length_map] at h
theorem SA.psize (R : SA P w s.heap a L es ep t) : t.place.size = L.length := by
  have h := R.tab.sz
  rwa [List.length_map] at h
theorem SA.fits (R : SA P w s.heap a L es ep t) : t.fits es.size = true := by
  have h1 := R.psize
  have h2 := R.size
  have h3 := R.few
  have h4 := R.m7
  unfold SetTable.fits SetTable.fill
  rw [R.tab.dm, Bool.and_eq_true, beq_iff_eq, decide_eq_true_eq]
  show t.place.size = es.size ∧ t.place.size + 0 ≤ t.mask
  omega
theorem SA.entry (R : SA P w s.heap a L es ep t) {i : Nat} {p : It2} (h : L[i]? = some p) : es[i]? = some (hshA P w p.2, Value.ref p.1) := by
  rw [← Array.getElem?_toList, R.rows]
  unfold rowsA
  rw [List.getElem?_map, h]
  rfl
theorem SA.whole (R : SA P w s.heap a L es ep t) : ¬ t.gaveWay = true := by
  unfold SetTable.gaveWay
  rw [R.m7]
  decide
/-- where the search for l stands after c steps -/
abbrev stepA (P : Program) (w : World) (m : Nat) (l : Ad) (c : Nat) : SetTable.Probe := nth m (runAt m (SetTable.bits (hshA P w l) % (m + 1)) (SetTable.bits (hshA P w l))) c
theorem stepA_dummy (m : Nat) (l : Ad) : ∀ c, (stepA P w m l c).dummy = none := by
  have key : ∀ (n : Nat) (p : SetTable.Probe), p.dummy = none → (nth m p n).dummy = none := by
    intro n
    induction n with
    | zero => intro p h; exact h
    | succ n ih =>
      intro p h
      refine ih (adv m p) ?_
      unfold adv
      split <;> exact h
  exact fun c => key c _ rfl
theorem find_adr (R : SA P w s.heap a L es ep t) (hL : ∀ p ∈ L, AdAt P w s.heap p.2 p.1) {x : Addr} {l : Ad} (hx : AdAt P w s.heap l x) (hu : A.units < cLine) {K : Nat} (hKf : K < 10 * SetTable.turns t.mask)
    (hK : way t.mask (hshA P w l) K ∉ t.place.toList) (hKb : ∀ c, c < K → way t.mask (hshA P w l) c ∈ t.place.toList) {Q : SetFound → Shared → Prop}
    (hin : l ∈ L.map (·.2) → Q (.there none) s) (hout : l ∉ L.map (·.2) → Q (.free (way t.mask (hshA P w l) K) false) s) :
    ∀ (f c : Nat) (stand : Option SetTable.Probe), stand.getD (t.probeStart (hshA P w l)) = stepA P w t.mask l c → c ≤ K → K - c < f →
      (∀ (i : Nat) (p : It2), L[i]? = some p → p.2 = l → ∃ c', c ≤ c' ∧ c' < K ∧ t.place.toList[i]? = some (way t.mask (hshA P w l) c')) →
      wpAny (model P w) A (setSearchFrom a (.ref x) (hshA P w l) true f stand) Q E s := by
  obtain ⟨o, ho, hex, hd⟩ := R.ob
  have hashAt : ∀ (i : Nat) (p : It2), L[i]? = some p → (fun i => (es[i]?.map (·.1)).getD 0) i = hshA P w p.2 := fun i p hp => by
    show (es[i]?.map (·.1)).getD 0 = _
    rw [R.entry hp]
    rfl
  intro f
  induction f with
  | zero => intro c stand _ _ hf _; exact absurd hf (Nat.not_lt_zero _)
  | succ f ih =>
    intro c stand hst hc hf hre
    rw [setSearchFrom_succ]
    refine wpAny_bind (wpAny_setState_of ho hd R.fits ?_)
    dsimp only
    refine wp_if_neg R.whole ?_
    try refine wpAny_bind (wpAny_pure ?_)
    have sh : ∀ q, nth t.mask (stepA P w t.mask l c) q = stepA P w t.mask l (c + q) := fun q => (nth_add t.mask c _ q).symm
    have at_ : ∀ q, (nth t.mask (stepA P w t.mask l c) q).j = way t.mask (hshA P w l) (c + q) := fun q => congrArg SetTable.Probe.j (sh q)
    have eK : c + (K - c) = K := by omega
    rcases go_spec t R.tab.ris R.tab.dm (fun i => (es[i]?.map (·.1)).getD 0) (hshA P w l) (10 * SetTable.turns t.mask) (K - c) _ (stepA_dummy t.mask l c) (by omega) (fun q hq => by rw [at_]; exact hKb (c + q) (by omega)) (by rw [at_, eK]; exact hK) with ⟨q, i, hq, hi, hh, hno, hpr⟩ | ⟨hno, hpr⟩
    · have pr : t.probe (fun i => (es[i]?.map (·.1)).getD 0) (hshA P w l) (stand.getD (t.probeStart (hshA P w l))) = some (.candidate (way t.mask (hshA P w l) (c + q)) i (stepA P w t.mask l (c + (q + 1)))) := by
        rw [hst, ← at_, ← sh]
        exact hpr
      rw [pr]
      dsimp only
      rw [at_] at hi
      have hil : i < L.length := by
        have h1 : i < t.place.toList.length := (List.getElem?_eq_some_iff.mp hi).1
        rw [Array.length_toList, R.psize] at h1
        exact h1
      have hp : L[i]? = some L[i] := List.getElem?_eq_getElem hil
      generalize L[i] = p at hp
      have hmem : p ∈ L := List.mem_of_getElem? hp
      have slot := slot_live R.tab.ris hi
      have rest : wpAny (model P w) A (searchRest a (.ref x) (hshA P w l) true f es t (way t.mask (hshA P w l) (c + q)) i (stepA P w t.mask l (c + (q + 1)))) Q E s := by
        unfold searchRest
        rw [R.entry hp]
        dsimp only
        refine wpAny_bind (wpAny_holding (wpAny_eqBool_tuple hu (hL p hmem) hx ?_))
        rw [kyA_eq]
        refine wpAny_bind (wpAny_setState_of ho hd R.fits ?_)
        dsimp only
        by_cases hkk : p.2 = l
        · exact wp_if_pos (by simp [hkk]) (wpAny_pure (hin (List.mem_map.mpr ⟨p, hmem, hkk⟩)))
        · refine wp_if_neg (by simp [hkk]) ?_
          try refine wpAny_bind (wpAny_pure ?_)
          rw [sameMem]
          dsimp only
          simp only [if_true, slot, R.entry hp]
          refine wpAny_bind (wpAny_isSame_ref_self (wpAny_bind (wpAny_pure ?_)))
          simp only [if_true]
          refine wp_if_neg (by simp [hkk]) (ih (c + (q + 1)) _ rfl (by omega) (by omega) fun i0 p0 h0 hk0 => ?_)
          obtain ⟨c', a1, a2, a3⟩ := hre i0 p0 h0 hk0
          refine ⟨c', ?_, a2, a3⟩
          have z : ¬ c' < c + q := fun z => hno (c' - c) i0 (by omega) (by rw [at_, show c + (c' - c) = c' by omega]; exact a3) ((hashAt i0 p0 h0).trans (by rw [hk0]))
          have y : c' ≠ c + q := fun y => by
            rw [y] at a3
            have s0 := slot_live R.tab.ris a3
            rw [slot] at s0
            injection s0 with s0
            rw [← s0, hp] at h0
            cases h0
            exact hkk hk0
          omega
      by_cases hl : t.led = true
      · refine wp_if_neg (by simp [hl]) ?_
        try refine wpAny_bind (wpAny_pure ?_)
        exact rest
      · refine wp_if_pos (by simp [hl]) (wpAny_bind (seen_adr hx (fun y hy => ?_) ?_))
        · obtain ⟨e, he, ee⟩ := List.mem_map.mp hy
          have he1 : e ∈ es ∧ e.1 = hshA P w l := by simpa using he
          have he2 : e ∈ es.toList := by simpa using he1.1
          rw [R.rows] at he2
          obtain ⟨p2, hp2, e2⟩ := List.mem_map.mp he2
          exact ⟨p2.2, p2.1, by rw [← ee, ← e2], hL p2 hp2⟩
        · refine wp_if_neg (by decide) ?_
          try refine wpAny_bind (wpAny_pure ?_)
          exact rest
    · have pr : t.probe (fun i => (es[i]?.map (·.1)).getD 0) (hshA P w l) (stand.getD (t.probeStart (hshA P w l))) = some (.empty (way t.mask (hshA P w l) K) none) := by
        have e2 := at_ (K - c)
        rw [eK] at e2
        rw [hst, ← e2]
        exact hpr
      rw [pr]
      dsimp only
      refine wpAny_pure (hout fun hm => ?_)
      obtain ⟨p0, h0, hk0⟩ := List.mem_map.mp hm
      obtain ⟨i0, hi0, e0⟩ := List.getElem_of_mem h0
      have h00 : L[i0]? = some p0 := by rw [List.getElem?_eq_getElem hi0, e0]
      obtain ⟨c', a1, a2, a3⟩ := hre i0 p0 h00 hk0
      exact hno (c' - c) i0 (by omega) (by rw [at_, show c + (c' - c) = c' by omega]; exact a3) ((hashAt i0 p0 h00).trans (by rw [hk0]))
theorem AdAt.far {h h' : Heap} {l : Ad} {b : Addr} {o : Obj} (x : AdAt P w h l b) (ho : h.get? a = some o) (hd : o.data = .set es ep t) (hs : Heap.SameBut a h h') : AdAt P w h' l b := by
  obtain ⟨o', items, n, ho', hc, hd', hi⟩ := x
  have hne : b ≠ a := by
    rintro rfl
    obtain rfl : o' = o := Option.some.inj (ho'.symm.trans ho)
    rw [hd] at hd'
    exact nomatch hd'
  exact ⟨o', items, n, (hs.2 b hne).trans ho', hc, hd', hi⟩
/-- one more member, at most four in all -/
theorem add_adr (R : SA P w s.heap a L es ep t) (hL : ∀ p ∈ L, AdAt P w s.heap p.2 p.1) {x : Addr} {l : Ad} (hx : AdAt P w s.heap l x) (hu : A.units < cLine) (hfew : l ∉ L.map (·.2) → L.length < 4) {Q : Bool → Shared → Prop}
    (hQ : ∀ b h' L' es' ep' t', Heap.SameBut a s.heap h' → (∃ o, h'.get? a = some o) → SA P w h' a L' es' ep' t' → (∀ p, p ∈ L' → p ∈ L ∨ p = (x, l)) → (∀ k, k ∈ L'.map (·.2) ↔ k ∈ L.map (·.2) ∨ k = l) → Q b { s with heap := h' }) :
    wpAny (model P w) A (setAddHashed a (.ref x) (hshA P w l)) Q E s := by
  obtain ⟨o, ho, hex, hd⟩ := R.ob
  have hsl := R.size
  have h4 := R.few
  have h7 := R.m7
  unfold setAddHashed
  refine wpAny_holding ?_
  rw [show (100000 : Nat) = 99999 + 1 from rfl, setAddHashedIn_succ]
  refine wpAny_bind (wpAny_setState_of ho hd R.fits ?_)
  dsimp only
  refine wp_if_neg (by simp [byScan, Value.scannable]) ?_
  try refine wpAny_bind (wpAny_pure ?_)
  obtain ⟨K, hKf, hK, hKb⟩ := R.tab.first (by rw [List.length_map]; omega) (hshA P w l)
  unfold setSearch
  refine wpAny_bind (find_adr R hL hx hu hKf hK hKb (fun hm => ?_) (fun hm => ?_) 100000 0 none rfl (Nat.zero_le _) (by
    have : 10 * SetTable.turns t.mask ≤ 1420 := by
      unfold SetTable.turns
      omega
    omega) fun i p hp hk => ?_)
  · dsimp only
    exact wpAny_pure (hQ false s.heap L es ep t (Heap.SameBut.refl a s.heap) ⟨o, ho⟩ R (fun p hp => .inl hp) fun k => ⟨.inl, fun z => z.elim id fun e => e ▸ hm⟩)
  · have hlt := hfew hm
    dsimp only
    refine wpAny_bind (wpAny_setState_of ho hd R.fits ?_)
    dsimp only
    obtain ⟨q1, q2, q3, q4, q5, q6, q7, q8, q9⟩ := R.tab.put hK hKb
    generalize hpt : t.put (way t.mask (hshA P w l) K) = pt at q1 q3 q4 q5 q6 q7 q8 q9 ⊢
    obtain ⟨t1, p⟩ := pt
    dsimp only at q1 q3 q4 q5 q6 q7 q8 q9 ⊢
    subst q1
    suffices tail : ∀ c : Bool, wpAny (model P w) A (do
        storeSet a (SetTable.insertAt es (SetTable.below t.place (way t.mask (hshA P w l) K)) (hshA P w l, Value.ref x)) (if c = true then t1 else { t1 with plain := false })
        if (!false && (if c = true then t1 else { t1 with plain := false }).tooFull) = true then setRelay a (SetTable.grown (es.size + 1))
        pure true) Q E s by
      first
        | (refine wpAny_bind ?_; split; exact hashBy_adr hx fun c => tail c; exact wpAny_pure (tail true))
        | (split; exact wpAny_bind (hashBy_adr hx fun c => tail c); exact wpAny_bind (wpAny_pure (tail true)))
        | (split; exact wpAny_bind (hashBy_adr hx fun c => tail c); exact tail true)
    intro c
    have w3 : TabOk (if c = true then t1 else { t1 with plain := false }) ((L.map fun p => hshA P w p.2).take (SetTable.below t.place (way t.mask (hshA P w l) K)) ++ hshA P w l :: (L.map fun p => hshA P w p.2).drop (SetTable.below t.place (way t.mask (hshA P w l) K))) := by cases c <;> exact ⟨q3.ris, q3.dm, q3.sz, q3.mok, q3.bd, q3.reach⟩
    have w4 : (if c = true then t1 else { t1 with plain := false }).mask = t.mask := by cases c <;> exact q4
    have w5 : (if c = true then t1 else { t1 with plain := false }).led = t.led := by cases c <;> exact q5
    have w9 : (if c = true then t1 else { t1 with plain := false }).fill = (L.map fun p => hshA P w p.2).length + 1 := by cases c <;> exact q9
    generalize (if c = true then t1 else { t1 with plain := false }) = t2 at w3 w4 w5 w9 ⊢
    clear q3 q4 q5 q6 q7 q8 q9 hpt
    generalize hpp : SetTable.below t.place (way t.mask (hshA P w l) K) = p at q2 w3 ⊢
    have hin : (SetTable.insertAt es p (hshA P w l, Value.ref x)).toList = rowsA P w (L.take p ++ (x, l) :: L.drop p) := by
      rw [SetTable.toList_insertAt, R.rows]
      unfold rowsA
      rw [List.map_append, List.map_cons, List.map_take, List.map_drop]
    have pm : (L.take p ++ (x, l) :: L.drop p).Perm ((x, l) :: L) := put_perm L p (x, l)
    have hhs : (L.take p ++ (x, l) :: L.drop p).map (fun p => hshA P w p.2) = (L.map fun p => hshA P w p.2).take p ++ hshA P w l :: (L.map fun p => hshA P w p.2).drop p := by
      rw [List.map_append, List.map_cons, List.map_take, List.map_drop]
    rw [← hhs] at w3
    have hlen : (L.take p ++ (x, l) :: L.drop p).length = L.length + 1 := pm.length_eq
    have nd1 : ((L.take p ++ (x, l) :: L.drop p).map (·.2)).Nodup := by
      refine (pm.map (·.2)).nodup_iff.mpr ?_
      rw [List.map_cons]
      exact List.nodup_cons.mpr ⟨hm, R.nd⟩
    have hes : (SetTable.insertAt es p (hshA P w l, Value.ref x)).size = L.length + 1 := by
      have h := congrArg List.length hin
      unfold rowsA at h
      rwa [Array.length_toList, List.length_map, hlen] at h
    refine wpAny_bind (wpAny_storeSet_of ho hd ?_ (by rw [hes, sizeLine_eq]; omega))
    have ho1 := store_at (es' := SetTable.insertAt es p (hshA P w l, Value.ref x)) (t' := t2) ho hd
    have nf : ¬ (t2.tooFull = true) := fun h => by
      unfold SetTable.tooFull at h
      rw [decide_eq_true_eq, w9, List.length_map, w4, h7] at h
      omega
    first
      | refine wp_if_neg (by simp [nf]) ?_
      | (refine wpAny_bind ?_; refine wp_if_neg (by simp [nf]) ?_; refine wpAny_pure ?_)
    refine wpAny_pure (hQ true _ (L.take p ++ (x, l) :: L.drop p) _ (ep + 1) t2 (Heap.SameBut.update ..) ⟨_, ho1⟩ ⟨⟨_, ho1, ⟨hex.1, hex.2.1, hex.2.2⟩, rfl⟩, hin, w3, nd1, by rw [w5]; exact R.led, by rw [w4]; exact h7, by rw [hlen]; omega⟩ (fun p hp => ?_) fun k => ?_)
    · rcases List.mem_cons.mp (pm.mem_iff.mp hp) with e | e
      · exact .inr e
      · exact .inl e
    · rw [(pm.map (·.2)).mem_iff, List.map_cons, List.mem_cons]
      exact Or.comm
  · have hi : (L.map fun p => hshA P w p.2)[i]? = some (hshA P w l) := by rw [List.getElem?_map, hp, ← hk]; rfl
    have hil : i < t.place.toList.length := by
      rw [Array.length_toList, R.psize]
      exact (List.getElem?_eq_some_iff.mp hp).1
    have hj := List.getElem?_eq_getElem hil
    obtain ⟨c, hc, e⟩ := R.tab.before hK hi hj
    exact ⟨c, Nat.zero_le _, hc, by rw [hj, e]⟩
/-- set.add of an address -/
theorem set_add_adr (R : SA P w s.heap a L es ep t) (hL : ∀ p ∈ L, AdAt P w s.heap p.2 p.1) {x : Addr} {l : Ad} (hx : AdAt P w s.heap l x) (hu : A.units + 1 < cLine) (hfew : l ∉ L.map (·.2) → L.length < 4) {Q : Value → Shared → Prop}
    (hQ : ∀ h' tk L' es' ep' t', Heap.SameBut a s.heap h' → (∃ o, h'.get? a = some o) → SA P w h' a L' es' ep' t' → (∀ p, p ∈ L' → p ∈ L ∨ p = (x, l)) → (∀ k, k ∈ L'.map (·.2) ↔ k ∈ L.map (·.2) ∨ k = l) → Q .none { s with heap := h', toks := tk }) :
    wpAny (model P w) A (call (.builtin "set.add") [.ref a, .ref x]) Q E s := by
  have hT : s.TypeIs (.ref a) "set" := by
    obtain ⟨o, ho, hex, _⟩ := R.ob
    exact ⟨o, ho, hex.1⟩
  refine wpAny_call_entry F.slot_set_add hT F.entry_set_add ?_ (F.args_set_add_2 _ _)
  unfold Builtin.«set.add» Builtin.Frozenset.oneOther
  simp only [List.isEmpty_nil, bind_assoc]
  unfold Builtin.Frozenset.addrOf setAdd
  refine wpAny_bind (wpAny_pure ?_)
  try dsimp only
  refine wpAny_bind (wpAny_pure ?_)
  try dsimp only
  refine wpAny_bind ?_
  refine wpAny_holding ?_
  refine wpAny_bind ((tupleKind (mixKind P w)).pyHash (show A.in1.units < cLine from hu) hx ?_)
  refine add_adr (s := { s with toks := s.toks + (tupleKind (mixKind P w)).draws (kyA l) }) R hL hx (show A.in1.units < cLine from hu) hfew fun b h' L' es' ep' t' sb he R' h1 h2 => ?_
  show wpAny _ _ (ret Value.none) _ _ _
  exact wpAny_pure ⟨_, rfl, hQ h' _ L' es' ep' t' sb he R' h1 h2⟩
end
end Tf
/-! text TfU -/
/-! {e for x in xs for y in ys} of addresses, sorted -/
namespace Tf
open PySem PySem.Spec PyProof.Rows L2

/-! ### the code of the comprehension -/
section
variable {P : Program} {w : World} {A : Around} {elt t0 i0 t1 i1 : Expr} {scope : Scope} {pos : Pos} {it acc : Value} {env : Env}
abbrev sc2 (elt t0 i0 t1 i1 : Expr) (scope : Scope) (pos : Pos) : Expr := .SetComp elt [⟨t0, i0, [], 0⟩, ⟨t1, i1, [], 0⟩] scope pos
theorem sc2_out : compTurn (sc2 elt t0 i0 t1 i1 scope pos) 0 it acc env = (do
      standAt i0.pos
      match ← pyNext it with
      | none => pure (.done .next)
      | some v =>
        letOwnedTupleGo t0 it v
        assign t0 env v
        let mut ok := true
        for c in ([] : List Expr) do
          if ok then ok ← isTrue c env (eval c env)
        if ok then
          let x ← eval i1 env
          standAt i1.pos
          let x ← foldedSetIterable i1 env x
          let _ ← runOwn (.compStart (sc2 elt t0 i0 t1 i1 scope pos) 1 (← holding [x] (pyIter x)) acc env) env
        again (.compLoop (sc2 elt t0 i0 t1 i1 scope pos) 0 it acc env)) := by rfl
theorem sc2_in : compTurn (sc2 elt t0 i0 t1 i1 scope pos) 1 it acc env = (do
      standAt i1.pos
      match ← pyNext it with
      | none => pure (.done .next)
      | some v =>
        letOwnedTupleGo t1 it v
        assign t1 env v
        let mut ok := true
        for c in ([] : List Expr) do
          if ok then ok ← isTrue c env (eval c env)
        if ok then
          (do let v ← eval elt env; standAt elt.pos; let _ ← call (.builtin "set.add") [acc, v])
        again (.compLoop (sc2 elt t0 i0 t1 i1 scope pos) 1 it acc env)) := by rfl
/-- behind the first target: the second loop -/
abbrev bdSc2 (P : Program) (w : World) (A : Around) (elt t0 i0 t1 i1 : Expr) (scope : Scope) (pos : Pos) : Env → Addr → (Value → Shared → Prop) → (Shared → Prop) → Shared → Prop := fun env D E N s =>
  wpAny (model P w) A (eval i1 env) (fun x s4 => wpAny (model P w) A (pyIter x) (fun it1 s5 => codeAny (model P w) A (.compStart (sc2 elt t0 i0 t1 i1 scope pos) 1 it1 (.ref D) env) (fun r s' => match r with
    | .ok _ => N s'
    | .error _ => False) s5) E s4) E s
theorem cform_sc2 (hs : ∀ env x, foldedSetIterable i1 env x = pure x) : CForm P w A (sc2 elt t0 i0 t1 i1 scope pos) t0 i0 [] (bdSc2 P w A elt t0 i0 t1 i1 scope pos) where
  loop := fun {R it D env} I turn n s h => by
    refine codeAny_loop rfl I (fun n s hI => ?_) n h
    show wpAny _ A ((compTurn (sc2 elt t0 i0 t1 i1 scope pos) 0 it (.ref D) env).onRaise (fun x => do noteFrame x env; theTreesLotGoes x)) _ _ s
    refine wpAny_noted ?_
    rw [sc2_out]
    refine wpAny_bind (wpAny_standAt (wpAny_bind (wpAny_mono (turn n s hI) (fun r s1 h1 => ?_) fun _ _ h' => h')))
    cases r with
    | none => exact wpAny_pure h1
    | some v =>
      refine wpAny_bind (wpAny_mono h1 (fun _ s2 h2 => ?_) fun _ _ h' => h')
      refine wpAny_bind (wpAny_mono h2 (fun _ s3 h3 => wpAny_bind (wpAny_mono h3 (fun ok s4 h4 => ?_) fun _ _ h' => h')) fun _ _ h' => h')
      cases ok with
      | false => exact wpAny_pure ⟨rfl, h4⟩
      | true =>
        refine wpAny_bind (wpAny_mono h4 (fun x s5 h5 => ?_) fun _ _ h' => h')
        refine wpAny_bind (wpAny_standAt (wpAny_bind (wpAny_of_eq (hs env x) (wpAny_bind (wpAny_holding (wpAny_mono h5 (fun it1 s6 h6 => ?_) fun _ _ h' => h'))))))
        refine wpAny_bind (wpAny_runOwn ?_)
        rw [Around.mark_none]
        refine codeAny_mono h6 fun r s' hr => ?_
        cases r with
        | ok f =>
          first
            | exact wpAny_pure ⟨rfl, hr⟩
            | exact wpAny_bind (wpAny_pure (wpAny_pure ⟨rfl, hr⟩))
        | error e => exact hr.elim
  start := fun h0 h => PpSet.codeAny_compStart_set h0 h
/-- the second loop -/
theorem sc2_loop {R : Result → Shared → Prop} (I : Nat → Shared → Prop)
    (turn : ∀ n s, I n s → wpAny (model P w) A (pyNext it) (fun r s1 => match r with
      | none => R (.ok .next) s1
      | some v => wpAny (model P w) A (letOwnedTupleGo t1 it v) (fun _ s2 => wpAny (model P w) A (assign t1 env v) (fun _ s3 => wpAny (model P w) A (eval elt env) (fun x s4 =>
              wpAny (model P w) A (call (.builtin "set.add") [acc, x]) (fun _ s5 => ∃ m, m < n ∧ I m s5) (notedBy (model P w) A env fun e s' => R (.error e) s') s4) (notedBy (model P w) A env fun e s' => R (.error e) s') s3) (notedBy (model P w) A env fun e s' => R (.error e) s') s2) (notedBy (model P w) A env fun e s' => R (.error e) s') s1) (notedBy (model P w) A env fun e s' => R (.error e) s') s)
    (n : Nat) {s : Shared} (h : I n s) : codeAny (model P w) A (.compLoop (sc2 elt t0 i0 t1 i1 scope pos) 1 it acc env) R s := by
  refine codeAny_loop rfl I (fun n s hI => ?_) n h
  show wpAny _ A ((compTurn (sc2 elt t0 i0 t1 i1 scope pos) 1 it acc env).onRaise (fun x => do noteFrame x env; theTreesLotGoes x)) _ _ s
  refine wpAny_noted ?_
  rw [sc2_in]
  refine wpAny_bind (wpAny_standAt (wpAny_bind (wpAny_mono (turn n s hI) (fun r s1 h1 => ?_) fun _ _ h' => h')))
  cases r with
  | none => exact wpAny_pure h1
  | some v =>
    refine wpAny_bind (wpAny_mono h1 (fun _ s2 h2 => ?_) fun _ _ h' => h')
    refine wpAny_bind (wpAny_mono h2 (fun _ s3 h3 => wpAny_bind (wpAny_pure ?_)) fun _ _ h' => h')
    exact wpAny_bind (wpAny_bind (wpAny_mono h3 (fun x s4 h4 => wpAny_bind (wpAny_standAt (wpAny_bind (wpAny_mono h4 (fun _ s5 h5 => wpAny_pure (wpAny_pure ⟨rfl, h5⟩)) fun _ _ h' => h')))) fun _ _ h' => h'))
theorem sc2_start {R : Result → Shared → Prop} {s : Shared} (h0 : codeAny (model P w) A (.compLoop (sc2 elt t0 i0 t1 i1 scope pos) 1 it acc env) R s)
    (h : wpAny (model P w) A (pyIter it) (fun it' s' => codeAny (model P w) A (.compLoop (sc2 elt t0 i0 t1 i1 scope pos) 1 it' acc env) R s') (notedBy (model P w) A env fun x s' => R (.error x) s') s) :
    codeAny (model P w) A (.compStart (sc2 elt t0 i0 t1 i1 scope pos) 1 it acc env) R s := by
  refine codeAny_of_tree ?_
  show wpAny _ _ ((compStart (sc2 elt t0 i0 t1 i1 scope pos) 1 it acc env).onRaise (fun x => do noteFrame x env; standAt theWindowsPlace)) _ _ s
  refine wpAny_notedAt ?_
  unfold compStart
  show wpAny _ _ (ask >>= _) _ _ s
  refine wpAny_bind (wpAny_askSetting (wpAny_ite ?_))
  split
  · first
      | exact wpAny_bind (wpAny_pure (wpAny_pure (And.intro rfl h0)))
      | exact wpAny_pure (And.intro rfl h0)
  · first
      | exact wpAny_bind (wpAny_rule (wpAny_bind (wpAny_standAt (wpAny_bind (wpAny_mono h (fun it' s' h' => wpAny_pure (And.intro rfl h')) fun _ _ x => x)))))
      | (refine wpAny_bind (wpAny_rule ?_); show wpAny _ _ (standAt i1.pos >>= _) _ _ s; exact wpAny_bind (wpAny_standAt (wpAny_bind (wpAny_mono h (fun it' s' h' => wpAny_pure (And.intro rfl h')) fun _ _ x => x))))
end
/-! ### the set in the heap -/
def SAo (P : Program) (w : World) (a : Addr) (L : List It2) : HO := .ext fun h => ∃ es ep t, SA P w h a L es ep t
theorem sao_new {P : Program} {w : World} {H : Hp} {h : Heap} {a : Addr} {L : List It2} {es : Array (Int × Value)} {ep : Nat} {t : SetTable} (R : SA P w h a L es ep t) : ObjOk P w H h a (SAo P w a L) := by
  obtain ⟨o, ho, _⟩ := R.ob
  refine ⟨⟨es, ep, t, R⟩, ⟨o, ho⟩, fun h1 h2 p k => ?_⟩
  obtain ⟨es', ep', t', R'⟩ := p
  obtain ⟨o', ho', r'⟩ := R'.ob
  exact ⟨es', ep', t', ⟨⟨o', k o' ho', r'⟩, R'.rows, R'.tab, R'.nd, R'.led, R'.m7, R'.few⟩⟩
abbrev obS (w : World) : Obj := { cls := .type "set", dict := none, data := .set #[] 0 (.fresh 0 0 (!w.params.followText "set-order")) }
theorem sa_fresh {P : Program} {w : World} (h : Heap) : SA P w (h.push (obS w)) h.objs.size [] #[] 0 (.fresh 0 0 (!w.params.followText "set-order")) where
  ob := ⟨_, Heap.get?_push_size _ rfl, ⟨rfl, rfl, rfl⟩, rfl⟩
  rows := rfl
  tab := ⟨List.Pairwise.nil, rfl, rfl, .inl rfl, fun x hx => (by cases hx), fun i h j hi => (by simp at hi)⟩
  nd := List.nodup_nil
  led := by
    show _ ∨ (!w.params.followText "set-order") = true
    cases w.params.followText "set-order"
    · exact .inr rfl
    · exact .inl rfl
  m7 := rfl
  few := by show 0 ≤ 4; decide
section
variable {X : Cx} {pins : List (Addr × Obj)} {σ : L2.St} {H : Hp} {s : Shared}
theorem adAt_of (I : Inv X pins σ H s) {b : Addr} {l : Ad} (h : H b = some (.tup (l.map V.str))) : AdAt X.prog X.w s.heap l b := by
  rw [← kVs_strs] at h
  exact key_of I.hok h
/-- adding, as the heap tells it -/
theorem add_ok (hu : X.A.units + 1 < cLine) (I : Inv X pins σ H s) {D b : Addr} {L : List It2} {l : Ad} {E : Value → Shared → Prop} {Q : Value → Shared → Prop} (hD : H D = some (SAo X.prog X.w D L)) (hL : ∀ p ∈ L, H p.1 = some (.tup (p.2.map V.str))) (hb : H b = some (.tup (l.map V.str))) (few : l ∉ L.map (·.2) → L.length < 4)
    (h : ∀ s' L', (L'.map (·.2)).Nodup → (∀ p, p ∈ L' → p ∈ L ∨ p = (b, l)) → (∀ k, k ∈ L'.map (·.2) ↔ k ∈ L.map (·.2) ∨ k = l) → Inv X pins σ (upd H D (SAo X.prog X.w D L')) s' → Q .none s') :
    wpAny (model X.prog X.w) X.A (call (.builtin "set.add") [.ref D, .ref b]) Q E s := by
  obtain ⟨es, ep, t, R⟩ := (show ∃ es ep t, SA X.prog X.w s.heap D L es ep t from (I.hok D _ hD).1)
  refine set_add_adr R (fun p hp => adAt_of I (hL p hp)) (adAt_of I hb) hu few fun h' tk L' es' ep' t' sb he R' h1 h2 => ?_
  exact h _ L' R'.nd h1 h2 (I.write (e := D) (t' := tk) (by rw [hD]; trivial) (.inl rfl) (fun b u hb hu => (sb.2 b hb).trans hu) he (sao_new R'))
end
/-- the turn's rest: the second loop; vs1 its own slots -/
def tbS (P : Program) (w : World) (wi1 : TI) (g1 : TG) (te : TE) (vs1 : List Nat) : Addr → L2.St → Hp → (Hp → Prop) → Prop := fun D σ H Nx => wi1 σ H fun J1 H4 => ∃ W1 : Nat → Nat → Hp → Prop, (∃ m, W1 0 m H4) ∧ ∀ j k H, W1 j k H →
  (J1.stop j H ∧ Nx H) ∨ (J1.go j H ∧ ∃ Nx1 : Hp → Prop, (∀ H', Nx1 H' → ∃ k', k' < k ∧ W1 (j + 1) k' H') ∧ ∀ x H', J1.yld j H x H' → g1 x (wipe σ vs1) H' fun σ3 H5 => wipe σ3 vs1 = wipe σ vs1 ∧ te σ3 H5 fun y H7 =>
    ∃ (L : List It2) (b : Addr) (l : Ad), y = .ref b ∧ H7 b = some (.tup (l.map V.str)) ∧ H7 D = some (SAo P w D L) ∧ (∀ p ∈ L, H7 p.1 = some (.tup (p.2.map V.str))) ∧ (l ∉ L.map (·.2) → L.length < 4) ∧
      ∀ L' : List It2, (L'.map (·.2)).Nodup → (∀ p, p ∈ L' → p ∈ L ∨ p = (b, l)) → (∀ k, k ∈ L'.map (·.2) ↔ k ∈ L.map (·.2) ∨ k = l) → Nx1 (upd H7 D (SAo P w D L')))
theorem pe_sc2 {X : Cx} {P : Program} {w : World} {elt tg iter tg1 iter1 : Expr} {scope : Scope} {own : List (Str × Nat)} {vs1 : List Nat} {pos : Pos} {wi wi1 : TI} {g g1 : TG} {te : TE} (hu : X.A.units + 1 < cLine) (hc : X.calm = true) (hN : X.N.Nodup) (hi : PI X tg iter wi) (ok : BlkOk X.N X.env.scope scope own) (hv : ∀ i ∈ vs1, i ∈ own.map (·.2))
    (hg : ∀ (s : Shared) (H : Hp) (C : Addr) (cl : List (Str × Addr)) (fp : List Addr), PG (X.blk s H scope (compEnvC scope cl C X.env) fp) tg g)
    (hi1 : ∀ (s : Shared) (H : Hp) (C : Addr) (cl : List (Str × Addr)) (fp : List Addr), PI (X.blk s H scope (compEnvC scope cl C X.env) fp) tg1 iter1 wi1)
    (hg1 : ∀ (s : Shared) (H : Hp) (C : Addr) (cl : List (Str × Addr)) (fp : List Addr), PG (X.blk s H scope (compEnvC scope cl C X.env) fp) tg1 g1)
    (he : ∀ (s : Shared) (H : Hp) (C : Addr) (cl : List (Str × Addr)) (fp : List Addr), PE (X.blk s H scope (compEnvC scope cl C X.env) fp) elt te) (hs : ∀ x, foldedSetIterable iter X.env x = pure x := by intro _; rfl) (hs1 : ∀ env x, foldedSetIterable iter1 env x = pure x := by intro _ _; rfl) (hP : X.prog = P := by rfl) (hw : X.w = w := by rfl) :
    PE X (sc2 elt tg iter tg1 iter1 scope pos) (tCg (fun D => SAo P w D []) wi g tYes (tbS P w wi1 g1 te vs1) (own.map (·.2))) := by
  subst hP hw
  refine ⟨fun pins s σ H Q I h => ?_⟩
  rw [PpSet.eval_SetComp]
  refine cg_core (ob := obS X.w) (cform_sc2 hs1) rfl (fun q => PpSet.newSet_ok q) (fun H h _ => sao_new (sa_fresh h)) hc hN I hi ok hg (fun _ _ _ _ _ => pts_nil) (fun s H C cl fp pins s' σ H' D Nx E N I' q k => ?_) hs h fun D C s' m H' I' q hn f => ⟨m, hn, fun h'' sb => ?_⟩
  · refine thnF ((hi1 s H C cl fp).run pins s' σ H' _ I' q) fun xv s1 hx => thnF hx fun itv s2 h2 => ?_
    obtain ⟨it1, fp1, tn1, J1, H2, e1, I2, T1, st2, f2, W1, ⟨m1, w1⟩, turn1⟩ := h2
    subst e1
    have stat1 : ∀ {H' : Hp}, (∀ b ∈ fp1, H' b = none) → ∀ b ∈ fp1, FpOk (X.blk s H scope (compEnvC scope cl C X.env) fp) pins H' b := fun hn b hb => ⟨hn b hb, (f2 b hb).2⟩
    have back : ∀ (j : Nat) v, j ∉ own.map (·.2) → σ[j]? = some (some v) → (wipe σ vs1)[j]? = some (some v) := fun j v nj e => by
      rw [wipe_out fun z => nj (hv j z)]
      exact e
    have loop1 : codeAny (model X.prog X.w) X.A (.compLoop (sc2 elt tg iter tg1 iter1 scope pos) 1 (.ref it1) (.ref D) (compEnvC scope cl C X.env)) (fun r s' => match r with
        | .ok _ => N s'
        | .error _ => False) s2 := by
      refine sc2_loop (fun k s' => ∃ j H', Inv (X.blk s H scope (compEnvC scope cl C X.env) fp) pins (wipe σ vs1) H' s' ∧ tn1 j s'.heap ∧ (∀ b ∈ fp1, H' b = none) ∧ W1 j k H') ?_ m1 ⟨0, H2, I2.weak (wipe_length _ _) (fun j v e => (wipe_some e).1), st2, fun b hb => (f2 b hb).1, w1⟩
      rintro n s3 ⟨j, H3, I3, st3, n3, w3⟩
      rcases turn1 j n H3 w3 with ⟨stop1, nx1⟩ | ⟨go1, Nx1, hNx1, step1⟩
      · refine thnF (T1.done (X.blk s H scope (compEnvC scope cl C X.env) fp) rfl rfl rfl hc j _ s3 (wipe σ vs1) H3 (fun _ _ => False) I3 (stat1 n3) st3 stop1) fun r s4 ⟨hr, I4⟩ => ?_
        subst hr
        exact k _ H3 s4 I4 (wipe_length _ _) back nx1
      · refine thnF (T1.item (X.blk s H scope (compEnvC scope cl C X.env) fp) rfl rfl rfl hc j _ s3 (wipe σ vs1) H3 (fun _ _ => False) I3 (stat1 n3) st3 go1) fun r s4 ⟨u1, hr, h4⟩ => ?_
        subst hr
        refine thnF h4 fun _ s5 ⟨x1, H5, I5, r5, y5, st5, n5⟩ => ?_
        have I5' := I5.pinned (stat1 n5) (T1.obj _ _ st5)
        refine thnF ((hg1 s H C cl fp).run _ s5 (wipe σ vs1) H5 x1 u1 _ I5' r5 (step1 x1 H5 y5)) fun _ s6 ⟨σ6, H6, I6, hw6, q6⟩ => ?_
        refine thnF ((he s H C cl fp).run _ s6 σ6 H6 _ I6 q6) fun z s7 ⟨y, H7, I7, r7, L, b, l, ey, hb, hD, hL, few, fin⟩ => ?_
        subst ey
        cases (show z = Value.ref b from r7)
        refine add_ok (X := X.blk s H scope (compEnvC scope cl C X.env) fp) hu I7 hD hL hb few fun s8 L' nd a1 a2 I8 => ?_
        obtain ⟨m', hm, w'⟩ := hNx1 _ (fin L' nd a1 a2)
        have pin' : ∀ b ∈ fp1, ∀ o, s5.heap.get? b = some o → s8.heap.get? b = some o ∧ (upd H7 D (SAo X.prog X.w D L')) b = none := fun b hb o e =>
          let z := I8.pin (b, o) (List.mem_append_right _ (List.mem_append_right _ (mem_pinsAt hb e)))
          ⟨z.1, z.2.1⟩
        refine ⟨m', hm, j + 1, _, I8.unpinned.weak (by rw [← hw6, wipe_length]) (fun j v e => by rw [← hw6] at e; exact (wipe_some e).1), T1.keep _ _ _ st5 fun b hb o e => (pin' b hb o e).1, fun b hb => ?_, w'⟩
        obtain ⟨o, e, _⟩ := T1.obj _ _ st5 b hb
        exact (pin' b hb o e).2
    exact sc2_start loop1 (T1.self X.A 0 _ _ _ st2 loop1)
  · obtain ⟨f0, f1, f2, f3, f4, f5⟩ := f
    exact ⟨.ref D, H', I'.turned (t' := s'.toks) (fun b o hb e => (sb.2 b hb).trans e) f0 f1 f3 f4 f5, rfl, q⟩
/-! ### sorted(set) -/
theorem perm_map_inv {α β : Type} {f : α → β} : ∀ {out m : List β}, out.Perm m → ∀ {L : List α}, m = L.map f → ∃ bs : List α, bs.Perm L ∧ out = bs.map f := by
  intro out m p
  induction p with
  | nil =>
    intro L e
    cases L with
    | nil => exact ⟨[], .nil, rfl⟩
    | cons a L => cases e
  | cons x p ih =>
    intro L e
    cases L with
    | nil => cases e
    | cons a L =>
      rw [List.map_cons] at e
      injection e with e1 e2
      obtain ⟨bs, h1, h2⟩ := ih e2
      exact ⟨a :: bs, .cons a h1, by rw [List.map_cons, h2, e1]⟩
  | swap x y l =>
    intro L e
    match L, e with
    | a :: b :: L, e =>
      rw [List.map_cons, List.map_cons] at e
      injection e with e1 e2
      injection e2 with e2 e3
      exact ⟨b :: a :: L, .swap _ _ _, by rw [List.map_cons, List.map_cons, e1, e2, e3]⟩
  | trans p q ih1 ih2 =>
    intro L e
    obtain ⟨bs, h1, h2⟩ := ih2 e
    obtain ⟨cs, h3, h4⟩ := ih1 h2
    exact ⟨cs, h3.trans h1, h4⟩
def rSortS (P : Program) (w : World) : List V → Hp → VK → Prop := fun vs H Q => ∃ (a : Addr) (L : List It2), vs = [V.ref a] ∧ H a = some (SAo P w a L) ∧ (∀ p ∈ L, p.2 ≠ [] ∧ H p.1 = some (.tup (p.2.map V.str))) ∧
  ∀ (bs : List It2) (p : Addr), bs.Perm L → (bs.map (·.2)).Nodup → H p = none → Q (.ref p) (upd H p (.lst ((sortI bs).map fun b => V.ref b.1)))
theorem cr_sortS {X : Cx} {P : Program} {w : World} {k : Nat} (hr : Room k X.A) (hc : X.calm = true := by rfl) (hP : X.prog = P := by rfl) (hw : X.w = w := by rfl) : CallR X (.builtin "sorted") (rSortS P w) := by
  subst hP hw
  rintro pins s σ H vs us Q I r ⟨a, L, rfl, hD, hL, q⟩
  obtain ⟨es, ep, t, R⟩ := (show ∃ es ep t, SA X.prog X.w s.heap a L es ep t from (I.hok a _ hD).1)
  rw [Vals.ref1 r]
  obtain ⟨o, ho, hex, hd⟩ := R.ob
  have hsz := R.size
  have hfew := R.few
  refine Calls.call_function_entry PyProof.Rows.kind_sorted PyProof.Rows.plain_sorted PyProof.Rows.entry_sorted (PyProof.Rows.args_sorted1 _) ?_
  unfold Builtin.«sorted»
  refine wpAny_bind (m := checkCount "sorted" 1 1 _) (wpAny_pure ?_)
  refine wpAny_bind (collect_set (A := X.A.in1) (I.ok.hd hc) ⟨o, ho, hex.1, hd⟩ R.fits (by unfold scanBound; omega) R.tab.ris R.led fun s1 out k1 hz g1 o1 pm => ?_)
  have hes : es.toList.map (·.2) = L.map fun q => Value.ref q.1 := by
    rw [R.rows]
    unfold rowsA
    rw [List.map_map]
    rfl
  obtain ⟨bs, pb, rfl⟩ := perm_map_inv pm hes
  have I1 : Inv X pins σ H { s with heap := s1.heap, gens := s1.gens, drawn := s1.drawn, toks := s1.toks } := I.call (ch := []) (Un.kept k1) (I.hok.kept k1) (by rw [g1]; exact I.bare) (fun _ z => nomatch z)
  have e1 : s1 = { s with heap := s1.heap, gens := s1.gens, drawn := s1.drawn, toks := s1.toks } := by
    cases s1
    cases s
    cases o1
    rfl
  rw [e1]
  generalize ({ s with heap := s1.heap, gens := s1.gens, drawn := s1.drawn, toks := s1.toks } : Shared) = s2 at I1
  have hbl : bs.length ≤ 4 := by rw [pb.length_eq]; exact hfew
  refine wpAny_bind (wpAny_newList ?_ (by rw [List.length_map, sizeLine_eq]; omega))
  have hoL : (s2.heap.push (seqObj "list" (bs.map fun q => Value.ref q.1).toArray 0)).get? s2.heap.objs.size = some (seqObj "list" (bs.map fun q => Value.ref q.1).toArray 0) := Heap.get?_push_size _ rfl
  have I2 : Inv X pins σ H { s2 with heap := s2.heap.push (seqObj "list" (bs.map fun q => Value.ref q.1).toArray 0) } := I1.kept (t' := s2.toks) fun b o e => Heap.get?_push_of_some _ e
  have hb : ∀ b ∈ bs, b.2 ≠ [] ∧ H b.1 = some (.tup (b.2.map V.str)) := fun b hb => hL b (pb.mem_iff.mp hb)
  refine wpAny_bind (wpAny_holding (PySem.W.list_sort_data (s := { s2 with heap := s2.heap.push (seqObj "list" (bs.map fun q => Value.ref q.1).toArray 0) }) (R := fun v (b : It2) => v = Value.ref b.1) (bs := bs) (enc := encI) hoL (eachRef bs)
    (each_of fun b m => ⟨[], reads_adr I2 (hb b m).2, fun z => nomatch z⟩) (alikeI bs) (sortableI fun b m => (hb b m).1) (Nat.le_trans hbl (by decide)) (fun b _ => ?_) fun out hlen hout => ?_))
  · have h1 := hr.units
    have h2 := depth_encA b.2
    show X.A.in1.units + 1 + (encA b.2).depth < cLine
    show X.A.units + 1 + 1 + (encA b.2).depth < cLine
    omega
  · have eo := eachRef_out hout
    obtain ⟨e', he'⟩ := PyProof.Rows.sortedHeap_at (vs := bs.map fun q => Value.ref q.1) (out := out.toArray) hoL
    refine wpAny_pure ⟨_, rfl, .ref s2.heap.objs.size, upd H s2.heap.objs.size (.lst ((sortI bs).map fun b => V.ref b.1)), I1.laid (t' := s2.toks) (fun b u e => ?_) (Nat.le_refl _) (show ObjOk X.prog X.w _ _ _ (.lst ((sortI bs).map fun b => V.ref b.1)) from ⟨?_, out, e', ?_, he'⟩), rfl, q bs _ pb ((pb.map (·.2)).nodup_iff.mpr R.nd) (I1.hok.fresh (Nat.le_refl _))⟩
    · have hlt : b < s2.heap.objs.size := Heap.lt_size e
      rw [PyProof.Rows.sortedHeap_old (Nat.ne_of_lt hlt) (by rw [size_push']; exact Nat.lt_succ_of_lt hlt)]
      exact Heap.get?_push_of_some _ e
    · rw [List.length_map]
      show (bs.mergeSort _).length ≤ _
      rw [List.length_mergeSort, sizeLine_eq]
      omega
    · rw [eo]
      exact vals_ref2 _
end Tf
/-! text TfV -/
/-! by data: the sorted set, the dict by addresses -/
namespace Tf
open PySem PySem.Spec PyProof.Rows L2
/-- each once -/
def nubA (l : List Ad) : List Ad := l.foldl (fun acc a => if a ∈ acc then acc else acc ++ [a]) []
theorem nub_fold : ∀ (l acc : List Ad), acc.Nodup → (l.foldl (fun acc a => if a ∈ acc then acc else acc ++ [a]) acc).Nodup ∧ ∀ x, x ∈ l.foldl (fun acc a => if a ∈ acc then acc else acc ++ [a]) acc ↔ x ∈ acc ∨ x ∈ l
  | [], acc, h => ⟨h, fun x => by simp⟩
  | a :: l, acc, h => by
    by_cases c : a ∈ acc
    · obtain ⟨h1, h2⟩ := nub_fold l acc h
      rw [List.foldl_cons, if_pos c]
      refine ⟨h1, fun x => (h2 x).trans ⟨fun z => z.elim .inl fun z => .inr (List.mem_cons_of_mem _ z), fun z => z.elim .inl fun z => ?_⟩⟩
      rcases List.mem_cons.mp z with e | z
      · exact .inl (e ▸ c)
      · exact .inr z
    · have hn : (acc ++ [a]).Nodup := List.nodup_append.mpr ⟨h, by simp, fun x hx y hy e => by
        rw [List.mem_singleton.mp hy] at e
        exact c (e ▸ hx)⟩
      obtain ⟨h1, h2⟩ := nub_fold l (acc ++ [a]) hn
      rw [List.foldl_cons, if_neg c]
      refine ⟨h1, fun x => (h2 x).trans ?_⟩
      rw [List.mem_append, List.mem_singleton, List.mem_cons, or_assoc]
theorem nub_nodup (l : List Ad) : (nubA l).Nodup := (nub_fold l [] List.nodup_nil).1
theorem nub_mem (l : List Ad) (x : Ad) : x ∈ nubA l ↔ x ∈ l := ((nub_fold l [] List.nodup_nil).2 x).trans (by simp)
theorem nodup_len {α : Type} [DecidableEq α] : ∀ {l m : List α}, l.Nodup → (∀ x ∈ l, x ∈ m) → l.length ≤ m.length
  | [], _, _, _ => Nat.zero_le _
  | a :: l, m, n, h => by
    obtain ⟨n1, n2⟩ := List.nodup_cons.mp n
    have hm := h a List.mem_cons_self
    have := nodup_len (m := m.erase a) n2 fun x hx => (List.mem_erase_of_ne fun e => by subst e; exact n1 hx).mpr (h x (List.mem_cons_of_mem _ hx))
    rw [List.length_erase_of_mem hm] at this
    have := List.length_pos_of_mem hm
    rw [List.length_cons]
    omega
section
variable {K : PySem.W.Frag} {P : Program} {w : World} {m : Option LkM} {δ δ' : De} {te ta tk tv : TE} {R : Dat → Prop}
theorem SR.tupA {Hs0 H0 Hs H : Hp} {σ : L2.St} (r : SR K m Hs0 H0 Hs H σ δ) {b : Addr} {l : Ad} (h : Hs b = some (.tup (l.map V.str))) : H b = some (.tup (l.map V.str)) := r.sub.tup h
theorem evp_sortS {α β : Type} {l : List α} {enc : α → Dat} {l1 : α → List β} {enc1 : β → Dat} {ad : β → Ad} {wi wi1 : TI} {g g1 : TG} {vs vs1 : List Nat} (hw : EvI K m wi δ (Eq (l.map enc))) (hv : ∀ v ∈ vs, Offm m v) (hv1 : ∀ v ∈ vs1, v ∈ vs)
    (hs : ∀ x, x ∈ l → ∃ δx js, EvG K m g (enc x) (wipeD δ vs) δx js ∧ (∀ j ∈ js, j ∈ vs) ∧ EvI K m wi1 δx (Eq ((l1 x).map enc1)) ∧
      ∀ y, y ∈ l1 x → ad y ≠ [] ∧ ∃ δy ks, EvG K m g1 (enc1 y) (wipeD δx vs1) δy ks ∧ (∀ j ∈ ks, j ∈ vs1) ∧ EvP K m te δy (Eq (adr (ad y))))
    (h4 : (nubA (l.flatMap fun x => (l1 x).map ad)).length ≤ 4) :
    EvP K m (tCB (rSortS P w) (tCons (tCg (fun D => SAo P w D []) wi g tYes (tbS P w wi1 g1 te vs1) vs) tNil)) δ (Eq (.lst ((sortA (nubA (l.flatMap fun x => (l1 x).map ad))).map adr))) := fun Hs0 H0 Hs H σ r Q k =>
  hw _ _ _ _ _ r _ fun J H1 Hs1 ds e1 sd wk D nD => by
    subst sd
    have r1 := r.grow e1
    have sD : Hs1 D = none := r1.sub.none nD
    -- the set after some of the addresses
    let Got : List Ad → Hp → Hp → List It2 → Prop := fun ads Hs' H' L => Ext Hs1 H1 Hs' H' ∧ H' D = some (SAo P w D L) ∧ Hs' D = none ∧ (∀ p ∈ L, p.2 ≠ [] ∧ Hs' p.1 = some (.tup (p.2.map V.str))) ∧ (L.map (·.2)).Nodup ∧ ∀ k, k ∈ L.map (·.2) ↔ k ∈ ads
    have idem : ∀ us : List Nat, ∀ ws : List Nat, (∀ u ∈ us, u ∈ ws) → ∀ σ : L2.St, wipe (wipe σ us) ws = wipe σ ws := by
      intro us
      induction us with
      | nil => intro _ _ _; rfl
      | cons u us ih =>
        intro ws hu σ
        show wipe ((wipe σ us).set u none) ws = _
        rw [wipe_set (hu u List.mem_cons_self), ih ws fun z hz => hu z (List.mem_cons_of_mem _ hz)]
    refine ⟨fun n mm H' => ∃ Hs' L, Got ((l.take n).flatMap fun x => (l1 x).map ad) Hs' H' L ∧ n + mm = l.length, ⟨l.length, Hs1, [], ⟨Ext.own nD, upd_same, sD, (fun p hp => nomatch hp), List.nodup_nil, fun k => by simp⟩, by omega⟩, ?_⟩
    rintro n mm H' ⟨Hs', L, ⟨e', hD, nD', hL, nd, mem⟩, hn⟩
    have r' := r1.grow e'
    by_cases c : n < l.length
    · have hx0 : l[n]? = some l[n] := List.getElem?_eq_getElem c
      have hxm := List.getElem_mem c
      generalize l[n] = x at hx0 hxm
      have hx : (l.map enc)[n]? = some (enc x) := by rw [List.getElem?_map, hx0]; rfl
      have tkn : (l.take (n + 1)).flatMap (fun x => (l1 x).map ad) = (l.take n).flatMap (fun x => (l1 x).map ad) ++ (l1 x).map ad := by
        rw [take_one hx0, List.flatMap_append]
        simp
      obtain ⟨δx, js, hg, hj, hi1, hin⟩ := hs x hxm
      refine .inr ⟨wk.go n _ Hs' H' e'.le r'.sub r'.lk.h hx, fun H2 => ∃ Hs2 L, Got ((l.take (n + 1)).flatMap fun x => (l1 x).map ad) Hs2 H2 L, ?_, fun v H2 hy => ?_⟩
      · rintro H2 ⟨Hs2, L2, g2⟩
        exact ⟨mm - 1, by omega, Hs2, L2, g2, by omega⟩
      obtain ⟨Hs2, e2, t2⟩ := wk.yld n _ Hs' H' v H2 e'.le r'.sub r'.lk.h hx hy
      refine hg _ _ _ _ _ v ((r'.grow e2).wipe hv) t2 _ fun σ3 r3 hwp => ⟨?_, ?_⟩
      · rw [hwp vs hj]
        exact idem vs vs (fun _ h => h) σ
      unfold tYes
      simp only [↓reduceIte]
      have nts : ∀ L xs, SAo P w D L ≠ .tup xs := fun L xs z => nomatch z
      have hv1' : ∀ v ∈ vs1, Offm m v := fun v h => hv v (hv1 v h)
      refine hi1 _ _ _ _ _ r3 _ fun J1 H3 Hs3 ds1 e3 sd1 wk1 => ?_
      subst sd1
      have r3' := r3.grow e3
      have e13 : Ext Hs1 H1 Hs3 H3 := (e'.trans e2).trans e3
      have hD3 : H3 D = some (SAo P w D L) := e3.same _ _ (e2.same _ _ hD)
      have nD3 : Hs3 D = none := e3.out D _ (e2.same _ _ hD) (nts L) (e2.out D _ hD (nts L) nD')
      refine ⟨fun j kk H' => ∃ Hs' L, Got ((l.take n).flatMap (fun x => (l1 x).map ad) ++ ((l1 x).take j).map ad) Hs' H' L ∧ SR K m Hs0 H0 Hs' H' (wipe σ3 vs1) (wipeD δx vs1) ∧ Same Hs3 Hs' ∧ j + kk = (l1 x).length,
        ⟨(l1 x).length, Hs3, L, ⟨e13, hD3, nD3, fun p hp => ⟨(hL p hp).1, (e2.le.trans e3.le) _ _ (hL p hp).2⟩, nd, fun k => by simpa using mem k⟩, r3'.wipe hv1', Same.refl _, by omega⟩, ?_⟩
      rintro j kk H4 ⟨Hs4, L4, ⟨e4, hD4, nD4, hL4, nd4, mem4⟩, r4, le4, hj4⟩
      by_cases c1 : j < (l1 x).length
      · have hy0 : (l1 x)[j]? = some (l1 x)[j] := List.getElem?_eq_getElem c1
        have hym := List.getElem_mem c1
        generalize (l1 x)[j] = y at hy0 hym
        have hy1 : ((l1 x).map enc1)[j]? = some (enc1 y) := by rw [List.getElem?_map, hy0]; rfl
        have tky : ((l1 x).take (j + 1)).map ad = ((l1 x).take j).map ad ++ [ad y] := by rw [take_one hy0, List.map_append]; rfl
        obtain ⟨ane, δy, ks, hg1, hk1, hev⟩ := hin y hym
        refine .inr ⟨wk1.go j _ Hs4 H4 le4 r4.sub r4.lk.h hy1, fun H5 => ∃ Hs5 L5, Got ((l.take n).flatMap (fun x => (l1 x).map ad) ++ ((l1 x).take (j + 1)).map ad) Hs5 H5 L5 ∧ SR K m Hs0 H0 Hs5 H5 (wipe σ3 vs1) (wipeD δx vs1) ∧ Same Hs3 Hs5, ?_, fun v1 H5 hy5 => ?_⟩
        · rintro H5 ⟨Hs5, L5, g5, r5, le5⟩
          exact ⟨kk - 1, by omega, Hs5, L5, g5, r5, le5, by omega⟩
        obtain ⟨Hs5, e5, t5⟩ := wk1.yld j _ Hs4 H4 v1 H5 le4 r4.sub r4.lk.h hy1 hy5
        have r5 := r4.grow e5
        refine hg1 _ _ _ _ _ v1 r5 t5 _ fun σ6 r6 hwp6 => ⟨?_, ?_⟩
        · rw [hwp6 vs1 hk1]
          exact idem vs1 vs1 (fun _ h => h) σ3
        refine hev _ _ _ _ _ r6 _ fun z H7 Hs7 d7 e7 t7 p7 => ?_
        subst p7
        obtain ⟨b, rfl, hb⟩ := Tr.adr_inv t7
        rw [kVs_strs] at hb
        have r7 := r6.grow e7
        have hD7 : H7 D = some (SAo P w D L4) := e7.same _ _ (e5.same _ _ hD4)
        have nD7 : Hs7 D = none := e7.out D _ (e5.same _ _ hD4) (nts L4) (e5.out D _ hD4 (nts L4) nD4)
        have hL7 : ∀ p ∈ L4, p.2 ≠ [] ∧ Hs7 p.1 = some (.tup (p.2.map V.str)) := fun p hp => ⟨(hL4 p hp).1, (e5.le.trans e7.le) _ _ (hL4 p hp).2⟩
        refine ⟨L4, b, ad y, rfl, r7.tupA hb, hD7, fun p hp => r7.tupA (hL7 p hp).2, fun nm => ?_, fun L' nd' h1 h2 => ?_⟩
        · have sub : ∀ k ∈ ad y :: L4.map (·.2), k ∈ nubA (l.flatMap fun x => (l1 x).map ad) := fun k hk => by
            rw [nub_mem, List.mem_flatMap]
            rcases List.mem_cons.mp hk with rfl | hk
            · exact ⟨x, hxm, List.mem_map.mpr ⟨y, hym, rfl⟩⟩
            · rcases List.mem_append.mp ((mem4 k).mp hk) with z | z
              · obtain ⟨x', hx', z⟩ := List.mem_flatMap.mp z
                exact ⟨x', List.mem_of_mem_take hx', z⟩
              · obtain ⟨y', hy', z⟩ := List.mem_map.mp z
                exact ⟨x, hxm, List.mem_map.mpr ⟨y', List.mem_of_mem_take hy', z⟩⟩
          have := nodup_len (List.nodup_cons.mpr ⟨nm, nd4⟩) sub
          rw [List.length_cons, List.length_map] at this
          omega
        · have e47 : Ext Hs1 H1 Hs7 H7 := (e4.trans e5).trans e7
          have rr : SR K m Hs0 H0 Hs7 (upd H7 D (SAo P w D L')) (wipe σ3 vs1) (wipeD δx vs1) := by
            have rb := (r4.grow e5).grow e7
            have far : ∀ a u, Hs7 a = some u → a ≠ D := fun a u q => ne_of_none q nD7
            have nDH : H D = none := by
              cases q : H D with
              | none => rfl
              | some o => rw [e1.same _ _ q] at nD; cases nD
            have n0 : H0 D = none := r.none0 nDH
            refine ⟨⟨fun a u q => ?_, fun a u q => ?_, rb.ext.le, rb.ext.out⟩, ?_, rb.len, fun i s q => ?_, rb.dis⟩
            · rcases rb.ext.nu a u q with z | z
              · exact .inl z
              · exact .inr (by rw [upd_ne (far a u q)]; exact z)
            · rw [upd_ne (ne_of_none q n0)]
              exact rb.ext.same a u q
            · have lk := rb.lk
              cases m with
              | none =>
                intro a u q
                rw [upd_ne (far a u q)]
                exact lk a u q
              | some M =>
                obtain ⟨g1, g2, g3, g4, g5⟩ := lk
                exact ⟨g1, by rw [upd_ne (far _ _ g3)]; exact g2, g3, g4, fun a u n q => by rw [upd_ne (far a u q)]; exact g5 a u n q⟩
            · obtain ⟨v, a1, a2⟩ := rb.at_ i s q
              refine ⟨v, a1, ?_⟩
              cases s with
              | imm d => exact a2
              | ol ds => obtain ⟨p, xs, b1, b2, b3, b4, b5⟩ := a2; exact ⟨p, xs, b1, by rw [upd_ne (fun z => by subst z; rw [hD7] at b2; cases b2)]; exact b2, b3, b4, b5⟩
              | ok ds => obtain ⟨p, xs, b1, b2, b3, b4, b5⟩ := a2; exact ⟨p, xs, b1, by rw [upd_ne (fun z => by subst z; rw [hD7] at b2; cases b2)]; exact b2, b3, b4, b5⟩
              | ot ds => obtain ⟨p, xs, b1, b2, b3, b4, b5⟩ := a2; exact ⟨p, xs, b1, by rw [upd_ne (fun z => by subst z; rw [hD7] at b2; cases b2)]; exact b2, b3, b4, b5⟩
          refine ⟨Hs7, L', ⟨lc_grow e47 nD nD7, upd_same, nD7, fun p hp => ?_, nd', fun k => ?_⟩, rr, (le4.trans e5.le).trans e7.le⟩
          · rcases h1 p hp with z | z
            · exact hL7 p z
            · subst z
              exact ⟨ane, hb⟩
          · rw [tky, ← List.append_assoc, List.mem_append, h2 k, mem4 k, List.mem_singleton]
      · have hj5 : j = (l1 x).length := by omega
        subst hj5
        rw [List.take_length] at mem4
        refine .inl ⟨wk1.stop _ Hs4 H4 le4 r4.sub r4.lk.h (by rw [List.length_map]; exact Nat.le_refl _), Hs4, L4, e4, hD4, nD4, hL4, nd4, fun k => ?_⟩
        rw [tkn]
        exact mem4 k
    · have hn' : n = l.length := by omega
      subst hn'
      rw [List.take_length] at mem
      refine .inl ⟨wk.stop _ Hs' H' e'.le r'.sub r'.lk.h (by rw [List.length_map]; exact Nat.le_refl _), ?_⟩
      refine ⟨D, L, rfl, hD, fun p hp => ⟨(hL p hp).1, r'.tupA (hL p hp).2⟩, fun bs p pb nb np => ?_⟩
      have x2 := Ext.new (o := .lst ((sortI bs).map fun b => V.ref b.1)) r'.sub np
      have tr : TrL K Hs' ((sortI bs).map fun b => V.ref b.1) (((sortI bs).map (·.2)).map adr) := trL_items fun b hb => (hL b (pb.mem_iff.mp (sortI_mem.mp hb))).2
      have ek : (sortI bs).map (·.2) = sortA (nubA (l.flatMap fun x => (l1 x).map ad)) := by
        rw [show (sortI bs).map (·.2) = sortA (bs.map (·.2)) from sorted_keys bs]
        exact sortA_one nb (nub_nodup _) fun k => by rw [nub_mem, ← mem k, (pb.map (·.2)).mem_iff]
      rw [ek] at tr
      exact k _ _ _ _ ((e1.trans e').trans x2) (.lst upd_same (tr.mono x2.le)) rfl
/-- {g x: F x for x in xs}, the keys addresses -/
theorem evo_dcT {α : Type} {l : List α} {enc : α → Dat} {wi : TI} {gt : TG} {vs : List Nat} (g : α → Ad) (F : α → Dat) (hw : EvI K m wi δ (Eq (l.map enc))) (hv : ∀ v ∈ vs, Offm m v) (hl : l.length ≤ 100000)
    (hs : ∀ x, x ∈ l → ∃ δx js, EvG K m gt (enc x) (wipeD δ vs) δx js ∧ (∀ j ∈ js, j ∈ vs) ∧ EvP K m tk δx (Eq (adr (g x))) ∧ EvP K m tv δx (Eq (F x))) :
    EvOT K m (tCg (fun _ => .dT []) wi gt tYes (tbT tk tv) vs) δ (Eq (l.foldl (fun acc x => aput acc (g x) (F x)) [])) := fun Hs0 H0 Hs H σ r Q k =>
  hw _ _ _ _ _ r _ fun J H1 Hs1 ds e1 sd wk D nD => by
    subst sd
    have r1 := r.grow e1
    have sD : Hs1 D = none := r1.sub.none nD
    refine ⟨fun n mm H' => ∃ Hs' ws, Ext Hs1 H1 Hs' H' ∧ H' D = some (.dT ws) ∧ Hs' D = none ∧ TrT K Hs' ws ((l.take n).foldl (fun acc x => aput acc (g x) (F x)) []) ∧ n + mm = l.length,
      ⟨l.length, Hs1, [], Ext.own nD, upd_same, sD, .nil, by omega⟩, ?_⟩
    rintro n mm H' ⟨Hs', ws, e', hD, nD', tr, hn⟩
    have r' := r1.grow e'
    by_cases c : n < l.length
    · have hx0 : l[n]? = some l[n] := List.getElem?_eq_getElem c
      have hx : (l.map enc)[n]? = some (enc l[n]) := by rw [List.getElem?_map, hx0]; rfl
      obtain ⟨δx, js, hg, hj, hk, hv2⟩ := hs l[n] (List.getElem_mem c)
      refine .inr ⟨wk.go n _ Hs' H' e'.le r'.sub r'.lk.h hx, fun H2 => ∃ Hs2 ws, Ext Hs1 H1 Hs2 H2 ∧ H2 D = some (.dT ws) ∧ Hs2 D = none ∧ TrT K Hs2 ws ((l.take (n + 1)).foldl (fun acc x => aput acc (g x) (F x)) []), ?_, fun v H2 hy => ?_⟩
      · rintro H2 ⟨Hs2, ws2, a1, a2, a3, a4⟩
        exact ⟨mm - 1, by omega, Hs2, ws2, a1, a2, a3, a4, by omega⟩
      · obtain ⟨Hs2, e2, t2⟩ := wk.yld n _ Hs' H' v H2 e'.le r'.sub r'.lk.h hx hy
        refine hg _ _ _ _ _ v ((r'.grow e2).wipe hv) t2 _ fun σ3 r3 hwp => ⟨?_, ?_⟩
        · rw [hwp vs hj]
          have idem : ∀ us : List Nat, (∀ u ∈ us, u ∈ vs) → wipe (wipe σ us) vs = wipe σ vs := by
            intro us
            induction us with
            | nil => intro _; rfl
            | cons u us ih =>
              intro hu
              show wipe ((wipe σ us).set u none) vs = _
              rw [wipe_set (hu u List.mem_cons_self), ih fun z hz => hu z (List.mem_cons_of_mem _ hz)]
          exact idem vs fun _ h => h
        · unfold tYes
          simp only [↓reduceIte]
          have nt : ∀ xs, HO.dT ws ≠ .tup xs := fun xs e => nomatch e
          have hD2 : H2 D = some (.dT ws) := e2.same _ _ hD
          have nD2 : Hs2 D = none := e2.out D _ hD nt nD'
          refine hk _ _ _ _ _ r3 _ fun y H4 Hs4 d e4 t4 p4 => hv2 _ _ _ _ _ (r3.grow e4) _ fun z H5 Hs5 d5 e5 t5 p5 => ?_
          subst p4
          subst p5
          obtain ⟨b, rfl, hb⟩ := Tr.adr_inv t4
          have hD4 : H4 D = some (.dT ws) := e4.same _ _ hD2
          have nD4 : Hs4 D = none := e4.out D _ hD2 nt nD2
          have nD5 : Hs5 D = none := e5.out D _ hD4 nt nD4
          have hbH := (r3.grow e4).sub.tup hb
          refine ⟨ws, (g l[n]).map Sum.inr, b, rfl, e5.same _ _ hbH, e5.same _ _ hD4, ?_, Hs5, putK ws ((g l[n]).map Sum.inr) z, lc_grow (((e'.trans e2).trans e4).trans e5) nD nD5, upd_same, nD5, ?_⟩
          · have hz := tr.length
            have h0 := fold_len g F (l.take n) []
            have h0 := Nat.le_trans (Nat.le_of_eq hz) h0
            rw [List.length_take, List.length_nil] at h0
            have h3 : (100000 : Nat) < sizeLine := by decide
            have h7 := Nat.min_le_left n l.length
            omega
          · rw [take_one hx0, List.foldl_append]
            exact (tr.mono ((e2.le.trans e4.le).trans e5.le)).put t5
    · have hn' : n = l.length := by omega
      subst hn'
      rw [List.take_length] at tr
      refine .inl ⟨wk.stop _ Hs' H' e'.le r'.sub r'.lk.h (by rw [List.length_map]; exact Nat.le_refl _), ?_⟩
      have nDH : H D = none := by
        cases q : H D with
        | none => rfl
        | some o => rw [e1.same _ _ q] at nD; cases nD
      exact k D ws H' Hs' _ nDH (e1.trans e') nD' hD tr rfl
/-- a new dict is shared at once -/
theorem evp_of_ot {A : List (List Str × Dat) → Prop} (h : EvOT K m te δ A) (q : ∀ l, A l → R (.dt l)) : EvP K m te δ R := fun Hs0 H0 Hs H σ r Q k =>
  h _ _ _ _ _ r _ fun p kvs H' Hs' ds np e hs hH t a => by
    have sm : Same Hs' (upd Hs' p (.dT kvs)) := same_updN hs
    refine k (.ref p) H' (upd Hs' p (.dT kvs)) (.dt ds) ⟨fun b w z => ?_, e.same, e.le.trans sm, fun b w z nt n => ?_⟩ (.dt upd_same (t.mono sm)) (q ds a)
    · by_cases c : b = p
      · subst c
        rw [upd_same] at z
        cases z
        exact .inr hH
      · rw [upd_ne c] at z
        exact e.nu b w z
    · rw [upd_ne (ne_of_none z np)]
      exact e.out b w z nt n
end
end Tf
/-! text TfW -/
/-! solve, walked -/
namespace Tf
open PySem PySem.Spec PyProof.Rows L2
local macro_rules | `(tactic| walk_at "ev1") => `(tactic| first
  | with_reducible exact evp_int | with_reducible exact evp_bl | with_reducible exact evp_str | with_reducible exact evp_non | with_reducible exact evp_gamA | with_reducible exact evp_gam | (with_reducible apply evp_var; (with_unfolding_all exact rfl))
  | with_reducible exact eva_nil | with_reducible apply eva_cons
  | with_reducible apply evp_op | (with_reducible apply evp_un (hr := ru_int)) | with_reducible apply evp_cb
  | with_reducible apply evp_tup' | (with_reducible show List.length _ ≤ 100000; simp; done)
  | with_reducible exact rv_int | with_reducible exact rv_bl | with_reducible apply rv_intC | with_reducible exact rv_eq (.int _ _) | with_reducible exact rv_ne (.int _ _)
  | (with_reducible apply rv_ix; (first | (with_unfolding_all exact Sq.tup _) | (with_unfolding_all exact Sq.lst _) | (with_reducible apply Sqx.sq; with_reducible assumption)); (with_unfolding_all exact rfl))
  | with_reducible exact rc_gcd
  | with_reducible exact rc_tupA | with_reducible exact rc_tupM
  | (with_reducible apply rc_tup; (first | (with_unfolding_all exact Sq.tup _) | (with_unfolding_all exact Sq.lst _) | (with_reducible apply Sqx.sq; with_reducible assumption)))
  | (with_reducible apply rc_lst; (first | (with_unfolding_all exact Sq.tup _) | (with_unfolding_all exact Sq.lst _) | (with_reducible apply Sqx.sq; with_reducible assumption)))
  | (with_reducible apply rc_len; (first | (with_unfolding_all exact Sq.tup _) | (with_unfolding_all exact Sq.lst _) | (with_reducible apply Sqx.sq; with_reducible assumption)))
  | with_reducible apply rv_cat
  | with_reducible exact evb_yes
  | with_reducible apply evb_test | with_reducible apply evb_B | with_reducible apply evb_not | with_reducible apply evb_and | with_reducible apply evb_or | with_reducible apply evp_and | with_reducible apply evp_or | with_reducible apply evp_not
  | (with_reducible refine fun _ => ?_))
local macro_rules | `(tactic| walk_at "ev") => `(tactic| repeat' walk_at "ev1")
/-! ### what it computes -/
def adsA (bs : List Bd) : List Ad := bs.flatMap fun b => b.1.1.map (·.1)
def adsS (bs : List Bd) : List Ad := sortA (nubA (adsA bs))
def fstS (bs : List Bd) : Int := 1 + 1 + ((adsS bs).length : Int)
def numS (bs : List Bd) : Num := ((adsS bs).mapIdx fun i a => (i, a)).foldl (fun acc p => aput acc p.2 (1 + 1 + ((p.1 : Nat) : Int))) []
def tab0 (bs : List Bd) : Tab := (bs.mapIdx fun i b => (i, b)).foldl (fun acc p => aput acc (fstS bs + ((p.1 : Nat) : Int)) (rowS p.2 (fstS bs + ((p.1 : Nat) : Int)) (numS bs))) []
def stepT (first : Int) (T : Tab) : Option Tab := match mendS T first with
  | none => none
  | some s => match chgS (gr T s) first with
    | none => none
    | some q => some (excS T s q)
def itT (first : Int) (T0 : Tab) : Nat → Tab
  | 0 => T0
  | k + 1 => (stepT first (itT first T0 k)).getD (itT first T0 k)
def resS (bs : List Bd) (T : Tab) : Dat := match mendS T (fstS bs) with
  | none => .tup [ptD (pntS T (numS bs) (fstS bs)), .non]
  | some s => .tup [.non, .tup ((wgtS (gr T s) bs (fstS bs)).map am)]
structure GoodT (d : Dat) (bs : List Bd) (T : Tab) : Prop where
  len : T.length < 64
  row : ∀ s, mendS T (fstS bs) = some s → (gr T s).length < 64
  exc : ∀ s q, mendS T (fstS bs) = some s → chgS (gr T s) (fstS bs) = some q → PreExc (T, s, q)
  wgt : ∀ s, mendS T (fstS bs) = some s → chgS (gr T s) (fstS bs) = none → PreWgt (d, gr T s, bs, fstS bs)
  pnt : mendS T (fstS bs) = none → PrePnt (T, numS bs, fstS bs)
structure PreSol (a : Dat × List Bd × Nat) : Prop where
  x : BsX a.1 a.2.1
  nn : ∀ b ∈ a.2.1, ∀ t ∈ b.1.1, t.1 ≠ []
  four : (nubA (adsA a.2.1)).length ≤ 4
  row : ∀ i b, a.2.1[i]? = some b → ∀ dd, BdX dd b → PreRow (dd, b, fstS a.2.1 + (i : Nat), numS a.2.1)
  len : a.2.1.length ≤ 1000
  good : ∀ k, k ≤ a.2.2 → GoodT a.1 a.2.1 (itT (fstS a.2.1) (tab0 a.2.1) k)
  stop : stepT (fstS a.2.1) (itT (fstS a.2.1) (tab0 a.2.1) a.2.2) = none
  go : ∀ k, k < a.2.2 → stepT (fstS a.2.1) (itT (fstS a.2.1) (tab0 a.2.1) k) ≠ none
theorem idx_mem {α : Type} {l : List α} {p : Nat × α} (h : p ∈ l.mapIdx fun i a => (i, a)) : l[p.1]? = some p.2 := by
  obtain ⟨j, hj⟩ := List.getElem?_of_mem h
  rw [List.getElem?_mapIdx] at hj
  cases e : l[j]? with
  | none => rw [e] at hj; cases hj
  | some w => rw [e] at hj; cases hj; exact e
theorem mend_mem {T : Tab} {first s : Int} (h : mendS T first = some s) : s ∈ T.map (·.1) := (sortZ_perm _).mem_iff.mp (List.mem_of_find?_eq_some h)
section
variable {P : Program} {w : World} {K : PySem.W.Frag} {mg : Str → Option Value} {base : Heap}
abbrev SpSol (K : PySem.W.Frag) : Sp := SpF K (fun a : Dat × List Bd × Nat => [a.1]) PreSol (fun a d => d = resS a.2.1 (itT (fstS a.2.1) (tab0 a.2.1) a.2.2)) NewP
theorem ok_solve (T : Tx P K mg base) (C_slack_row : Cal P w K mg base 37 "slack_row" ["bound", "slack", "numbers"] [] (SpD K (fun a : Dat × Bd × Int × Num => [a.1, .int a.2.2.1, nuD a.2.2.2]) PreRow fun a d => d = roD (rowS a.2.1 a.2.2.1 a.2.2.2)))
    (C_slack_to_mend : Cal P w K mg base 36 "slack_to_mend" ["table", "first"] [] (SpTab K))
    (C_quantity_to_change : Cal P w K mg base 36 "quantity_to_change" ["row", "first"] [] (SpD K (fun a : Row × Int => [roD a.1, .int a.2]) (fun a => a.1.length < 64) fun a d => d = optI (chgS a.1 a.2)))
    (C_exchanged : Cal P w K mg base 37 "exchanged" ["table", "slack", "quantity"] [] (SpD K (fun a : Tab × Int × Int => [taD a.1, .int a.2.1, .int a.2.2]) PreExc fun a d => d = taD (excS a.1 a.2.1 a.2.2)))
    (C_weights_of : Cal P w K mg base 37 "weights_of" ["row", "bounds", "first"] [] (SpD K (fun a : Dat × Row × List Bd × Int => [roD a.2.1, a.1, .int a.2.2.2]) PreWgt fun a d => d = .tup ((wgtS a.2.1 a.2.2.1 a.2.2.2).map am)))
    (C_point_of : Cal P w K mg base 38 "point_of" ["table", "numbers", "first"] [] (SpF K (fun a : Tab × Num × Int => [taD a.1, nuD a.2.1, .int a.2.2]) PrePnt (fun a d => d = ptD (pntS a.1 a.2.1 a.2.2)) NewD)) :
    Cal P w K mg base 39 "solve" ["bounds"] [] (SpSol K) := by
  refine cal_ofF (k := 38) T.d_solve scSolve (fun _ => rfl) (fun _ _ _ _ _ _ us hl => match us, hl with | [_], _ => rfl) fun cdv f A outer s H Q E hr => ?_
  have hu := hu_of hr
  refine ⟨_, (pss_cons (ps_set (i := 1) scSolve.nd rfl (Or.inl rfl) (pe_callB (cr_sortS (P := P) (w := w) hr) (by rfl) T.n_sorted (by decide +kernel) (pa_cons (pe_sc2 (P := P) (w := w) (own := [("bound", 8), ("term", 10)]) (vs1 := [10]) hu rfl scSolve.nd (pi_seq (K := K) (pv 0)) (blkOk_by (own := [("bound", 8), ("term", 10)]) (N := nSolve) (sc := defScope sSolve) (by decide +kernel)) (by decide) (fun _ _ _ _ _ => (pg_name (i := 8) scSolve.nd rfl (Or.inl rfl))) (fun _ _ _ _ _ => (pi_seq (K := K) (pe_ix (ixK (K := K)) (pe_ix (ixK (K := K)) (pv 8) pe_int (fun _ _ => rfl)) pe_int (fun _ _ => rfl)))) (fun _ _ _ _ _ => (pg_name (i := 10) scSolve.nd rfl (Or.inl rfl))) (fun _ _ _ _ _ => (pe_callTy (cr_tup (K := K)) (by rfl) T.n_tuple (by decide +kernel) (pa_cons (pe_ix (ixK (K := K)) (pv 10) pe_int (fun _ _ => rfl)) pa_nil)))) pa_nil)))
  (pss_cons (ps_set (i := 2) scSolve.nd rfl (Or.inr rfl) (pe_dcT (own := [("index", 9), ("address", 7)]) hu rfl scSolve.nd (pi_enumA (by rfl) T.n_enumerate (pa_cons (pv 1) pa_nil)) (blkOk_by (own := [("index", 9), ("address", 7)]) (N := nSolve) (sc := defScope sSolve) (by decide +kernel)) (fun _ _ _ _ _ => (pg_seq (K := K) (n := 2) rfl (pgs_cons (pg_name (i := 9) scSolve.nd rfl (Or.inl rfl)) (pgs_cons (pg_name (i := 7) scSolve.nd rfl (Or.inl rfl)) pgs_nil)))) (fun _ _ _ _ _ => pts_nil) (fun _ _ _ _ _ => (pv 7)) (fun _ _ _ _ _ => (pe_op op_add (pe_op op_add (pe_gint (x := "TINY") (by rfl) T.mTINY) pe_int) (pv 9)))))
  (pss_cons (ps_set (i := 3) scSolve.nd rfl (Or.inr rfl) (pe_op op_add (pe_op op_add (pe_gint (x := "TINY") (by rfl) T.mTINY) pe_int) (pe_callB (cr_len (K := K)) (by rfl) T.n_len (by decide +kernel) (pa_cons (pv 1) pa_nil))))
  (pss_cons (ps_setDc (i := 4) (own := [("index", 9), ("bound", 8)]) rfl scSolve.nd rfl rfl (by rfl) (pi_enumA (by rfl) T.n_enumerate (pa_cons (pv 0) pa_nil)) (blkOk_by (own := [("index", 9), ("bound", 8)]) (N := nSolve) (sc := defScope sSolve) (by decide +kernel)) (fun _ _ _ _ _ => (pg_seq (K := K) (n := 2) rfl (pgs_cons (pg_name (i := 9) scSolve.nd rfl (Or.inl rfl)) (pgs_cons (pg_name (i := 8) scSolve.nd rfl (Or.inl rfl)) pgs_nil)))) (fun _ _ _ _ _ => pts_nil) (fun _ _ _ _ _ => (pe_op op_add (pv 3) (pv 9))) (fun _ _ _ _ _ => (pe_cal C_slack_row (hr.mono (by decide)) (by rfl) (pa_cons (pv 8) (pa_cons (pe_op op_add (pv 3) (pv 9)) (pa_cons (pv 2) pa_nil))))))
  (pss_cons (ps_set (i := 5) scSolve.nd rfl (Or.inl rfl) (pe_cal C_slack_to_mend (hr.mono (by decide)) (by rfl) (pa_cons (pv 4) (pa_cons (pv 3) pa_nil))))
  (pss_cons (ps_while PassesOwn.never (pt_cmpR op_notNo (pv 5) pe_non (nomark _)) (pss_cons (ps_set (i := 6) scSolve.nd rfl (Or.inl rfl) (pe_cal C_quantity_to_change (hr.mono (by decide)) (by rfl) (pa_cons (pe_dget hu (pv 4) (pv 5) (fun _ _ => rfl)) (pa_cons (pv 3) pa_nil))))
  (pss_cons (ps_if (pt_cmpR op_isNo (pv 6) pe_non (nomark _)) (pss_one (ps_ret (pe_tup (pa_cons pe_non (pa_cons (pe_cal C_weights_of (hr.mono (by decide)) (by rfl) (pa_cons (pe_dget hu (pv 4) (pv 5) (fun _ _ => rfl)) (pa_cons (pv 0) (pa_cons (pv 3) pa_nil)))) pa_nil))))) pss_nil)
  (pss_cons (ps_set (i := 4) scSolve.nd rfl (Or.inl rfl) (pe_cal C_exchanged (hr.mono (by decide)) (by rfl) (pa_cons (pv 4) (pa_cons (pv 5) (pa_cons (pv 6) pa_nil)))))
  (pss_one (ps_set (i := 5) scSolve.nd rfl (Or.inl rfl) (pe_cal C_slack_to_mend (hr.mono (by decide)) (by rfl) (pa_cons (pv 4) (pa_cons (pv 3) pa_nil)))))))))
  (pss_one (ps_ret (pe_tup (pa_cons (pe_cal C_point_of hr (by rfl) (pa_cons (pv 4) (pa_cons (pv 2) (pa_cons (pv 3) pa_nil)))) (pa_cons pe_non pa_nil))))))))))), fun a ha => ?_⟩
  obtain ⟨d, bs, N⟩ := a
  obtain ⟨⟨ps, g1, g2, g3⟩, hn, h4, hrow, hlen, hgood, hstop, hgo⟩ := ha
  have g3 : ps.map (·.2) = bs := g3
  have hlen : bs.length ≤ 1000 := hlen
  have hgood : ∀ k, k ≤ N → GoodT d bs (itT (fstS bs) (tab0 bs) k) := hgood
  have hstop : stepT (fstS bs) (itT (fstS bs) (tab0 bs) N) = none := hstop
  have hgo : ∀ k, k < N → stepT (fstS bs) (itT (fstS bs) (tab0 bs) k) ≠ none := hgo
  have hrow : ∀ i b, bs[i]? = some b → ∀ dd, BdX dd b → PreRow (dd, b, fstS bs + (i : Nat), numS bs) := hrow
  try dsimp only [cxK]
  have al : (adsS bs).length ≤ 4 := by
    unfold adsS
    rw [(sortA_perm _).length_eq]
    exact h4
  have hpl : ps.length = bs.length := by rw [← g3, List.length_map]
  have ps2 : ∀ p ∈ ps, p.2 ∈ bs := fun p hp => by rw [← g3]; exact List.mem_map.mpr ⟨p, hp, rfl⟩
  -- the addresses
  refine q_asg (d := .lst ((adsS bs).map adr)) ?_ ?_
  · have tms : ∀ p : Dat × Bd, ∃ qs : List (Dat × Tm), p ∈ ps → ∃ (xs x y : Dat), Sqx p.1 [xs, .bl p.2.2] ∧ Sqx xs [x, y] ∧ Sqx x (qs.map (·.1)) ∧ (∀ q ∈ qs, TmX q.1 q.2) ∧ qs.map (·.2) = p.2.1.1 := fun p => by
      by_cases hp : p ∈ ps
      · obtain ⟨xs, k1, x, y, qs, k2, k3, k4, k5, _⟩ := g2 p hp
        exact ⟨qs, fun _ => ⟨xs, x, y, k1, k2, k3, k4, k5⟩⟩
      · exact ⟨[], fun h => absurd h hp⟩
    obtain ⟨qs, hq⟩ := Classical.axiomOfChoice tms
    have ea : (ps.flatMap fun p => (qs p).map fun q => q.2.1) = adsA bs := by
      unfold adsA
      rw [← g3, List.flatMap_map]
      rw [List.flatMap_def, List.flatMap_def]
      congr 1
      refine List.map_congr_left fun p hp => ?_
      obtain ⟨_, _, _, _, _, _, _, e⟩ := hq p hp
      rw [← e, List.map_map]
      rfl
    have hh := evp_sortS (K := K) (P := P) (w := w) (m := none) (l := ps) (enc := (·.1)) (l1 := qs) (enc1 := (·.1)) (ad := fun q => q.2.1) (wi := iSeq K (tVar 0)) (wi1 := iSeq K (tOp (rIx K) (tOp (rIx K) (tVar 8) (tC (.int 0))) (tC (.int 0)))) (g := gName 8) (g1 := gName 10) (vs := [8, 10]) (vs1 := [10]) (te := tCB (rTup K) (tCons (tOp (rIx K) (tVar 10) (tC (.int 0))) tNil)) (δ := startD nSolve.length [d])
      (evi_sq (evp_var rfl) g1.sq) (fun _ _ => offm_none) (by decide) (fun p hp => ?_) (by rw [ea]; exact h4)
    · rw [ea] at hh
      exact hh
    · obtain ⟨xs, x, y, k1, k2, k3, k4, k5⟩ := hq p hp
      refine ⟨_, _, evg_name, by decide, evi_sq (by walk_at "ev") k3.sq, fun q hqm => ⟨?_, _, _, evg_name, by decide, ?_⟩⟩
      · refine hn p.2 (ps2 p hp) q.2 ?_
        rw [← k5]
        exact List.mem_map.mpr ⟨q, hqm, rfl⟩
      · obtain ⟨x', y', j1, j2, j3⟩ := k4 q hqm
        exact evp_cb (eva_cons (by walk_at "ev") eva_nil) (rc_tup j2.sq)
  -- the numbers
  refine q_asg (d := nuD (numS bs)) ?_ ?_
  · refine evp_of_ot (A := Eq (mapV Dat.int (numS bs))) ?_ fun l e => by subst e; rfl
    have e := fold_mapV Dat.int (fun p : Nat × Ad => p.2) (fun p => 1 + 1 + ((p.1 : Nat) : Int)) ((adsS bs).mapIdx fun i a => (i, a)) []
    have e0 : mapV Dat.int ([] : Num) = [] := rfl
    rw [e0] at e
    unfold numS
    rw [← e]
    refine evo_dcT (l := (adsS bs).mapIdx fun i a => (i, a)) (enc := fun p => .tup [.int (p.1 : Nat), adr p.2]) (fun p => p.2) (fun p => .int (1 + 1 + ((p.1 : Nat) : Int))) ((evi_enum (eva_cons (evp_var rfl) eva_nil) (.lst _)).to (enum_pairs adr _)) (fun _ _ => offm_none) (by rw [List.length_mapIdx]; omega) fun p hp => ⟨_, _, evg_two (hd := .tup _), by decide, by walk_at "ev", by walk_at "ev"⟩
  refine q_asg (d := .int (fstS bs)) ?_ ?_
  · refine EvP.to (by walk_at "ev") ?_
    unfold fstS
    rw [List.length_map]
  -- the table
  refine q_asgOK (B := Eq (mapV roD (tab0 bs))) ?_ ?_
  · have e := fold_mapV roD (fun p : Nat × Bd => fstS bs + ((p.1 : Nat) : Int)) (fun p => rowS p.2 (fstS bs + ((p.1 : Nat) : Int)) (numS bs)) (bs.mapIdx fun i b => (i, b)) []
    have e0 : mapV roD ([] : Tab) = [] := rfl
    rw [e0] at e
    have e2 : (bs.mapIdx fun i b => (i, b)) = (ps.mapIdx fun i p => (i, p)).map fun q => (q.1, q.2.2) := by
      rw [← g3]
      apply List.ext_getElem?
      intro i
      rw [List.getElem?_map, List.getElem?_mapIdx, List.getElem?_mapIdx, List.getElem?_map]
      cases ps[i]? <;> rfl
    unfold tab0
    rw [← e, e2, List.foldl_map]
    have hh := evo_dc (K := K) (m := none) (l := ps.mapIdx fun i p => (i, p)) (enc := fun q => .tup [.int (q.1 : Nat), q.2.1]) (δ := [some (.imm d), some (.imm (.lst ((adsS bs).map adr))), some (.imm (nuD (numS bs))), some (.imm (.int (fstS bs))), none, none, none, none, none, none, none]) (wi := iEnumA K (tCons (tVar 0) tNil)) (gt := gSeq K 2 (gCons (gName 9) (gCons (gName 8) gNil))) (tt := tYes) (vs := [9, 8])
      (tk := tOp (rI0 fun i j => .int (i + j)) (tVar 3) (tVar 9)) (tv := tCall (SpD K (fun a : Dat × Bd × Int × Num => [a.1, .int a.2.2.1, nuD a.2.2.2]) PreRow fun a d => d = roD (rowS a.2.1 a.2.2.1 a.2.2.2)) [] E0 (tCons (tVar 8) (tCons (tOp (rI0 fun i j => .int (i + j)) (tVar 3) (tVar 9)) (tCons (tVar 2) tNil))))
      (fun _ => true) (fun q => fstS bs + ((q.1 : Nat) : Int)) (fun q => roD (rowS q.2.2 (fstS bs + ((q.1 : Nat) : Int)) (numS bs))) ((evi_enum (eva_cons (evp_var rfl) eva_nil) g1.sq).to (enum_pairs (·.1) ps)) (fun _ _ => offm_none) (by rw [List.length_mapIdx]; omega) fun q hq => ?_
    · rw [List.filter_eq_self.mpr fun _ _ => rfl] at hh
      exact hh
    · have hi := idx_mem hq
      have hb : bs[q.1]? = some q.2.2 := by rw [← g3, List.getElem?_map, hi]; rfl
      have hx := g2 q.2 (List.mem_of_getElem? hi)
      refine ⟨_, _, evg_two (hd := .tup _), by decide, evb_yes, fun _ => ⟨by walk_at "ev", ?_⟩⟩
      exact evp_callE (q.2.1, q.2.2, fstS bs + ((q.1 : Nat) : Int), numS bs) (by walk_at "ev") (hrow q.1 q.2.2 hb q.2.1 hx) fun d q => q
  intro kvs e
  subst e
  refine t_freeze 4 rfl rfl ?_
  have g0 := hgood 0 (Nat.zero_le _)
  refine q_asg (d := optI (mendS (tab0 bs) (fstS bs))) (evp_callE (tab0 bs, fstS bs) (by walk_at "ev") g0.len fun d q => q) ?_
  -- the loop
  refine t_seq (t_while (fun n δ' => ∃ k a7 a8 a9 a10 a6, n + k = N ∧ δ' = [some (.imm d), some (.imm (.lst ((adsS bs).map adr))), some (.imm (nuD (numS bs))), some (.imm (.int (fstS bs))), some (.imm (taD (itT (fstS bs) (tab0 bs) k))), some (.imm (optI (mendS (itT (fstS bs) (tab0 bs) k) (fstS bs)))), a6, a7, a8, a9, a10]) N ⟨0, _, _, _, _, _, rfl, rfl⟩ ?_)
  rintro n _ ⟨k, a7, a8, a9, a10, a6, hk, rfl⟩
  have gk := hgood k (by omega)
  generalize hTk : itT (fstS bs) (tab0 bs) k = Tk at *
  refine ⟨(mendS Tk (fstS bs)).isSome, ?_, fun c => ?_, fun c => ?_⟩
  · refine EvB.to (evb_test (evp_op (evp_var rfl) evp_non rv_notN)) ?_
    cases mendS Tk (fstS bs) <;> rfl
  · obtain ⟨sl, hs⟩ := Option.isSome_iff_exists.mp c
    have eo : optI (mendS Tk (fstS bs)) = .int sl := by rw [hs]; rfl
    rw [eo]
    have sm := mend_mem hs
    refine q_asg (d := optI (chgS (gr Tk sl) (fstS bs))) (evp_callE (gr Tk sl, fstS bs) (eva_cons (evp_gT (T := Tk) (k := sl) (.inr rfl) (by walk_at "ev") sm) (by walk_at "ev")) (gk.row sl hs) fun d q => q) ?_
    refine q_when (b := !(chgS (gr Tk sl) (fstS bs)).isSome) (EvB.to (evb_test (evp_op (evp_var rfl) evp_non rv_isN)) (by cases chgS (gr Tk sl) (fstS bs) <;> rfl)) (fun c2 => ?_) fun c2 => ?_
    · have hc : chgS (gr Tk sl) (fstS bs) = none := by
        cases e : chgS (gr Tk sl) (fstS bs) with
        | none => rfl
        | some q => rw [e] at c2; cases c2
      have hkN : k = N := by
        rcases Nat.lt_or_ge k N with z | z
        · have := hgo k z
          rw [hTk] at this
          exact absurd (by unfold stepT; rw [hs]; dsimp only; rw [hc]) this
        · omega
      refine t_retNon (A := Eq (.tup ((wgtS (gr Tk sl) bs (fstS bs)).map am))) (evp_callE (d, gr Tk sl, bs, fstS bs) (eva_cons (evp_gT (T := Tk) (k := sl) (.inr rfl) (by walk_at "ev") sm) (by walk_at "ev")) (gk.wgt sl hs hc) fun d q => q) (fun d e => ?_) fun _ _ _ h => h
      subst e
      show _ = resS bs (itT (fstS bs) (tab0 bs) N)
      rw [← hkN, hTk]
      unfold resS
      rw [hs]
    · obtain ⟨q, hc⟩ : ∃ q, chgS (gr Tk sl) (fstS bs) = some q := by
        cases e : chgS (gr Tk sl) (fstS bs) with
        | none => rw [e] at c2; cases c2
        | some q => exact ⟨q, rfl⟩
      have eq : optI (chgS (gr Tk sl) (fstS bs)) = .int q := by rw [hc]; rfl
      rw [eq]
      have est : stepT (fstS bs) Tk = some (excS Tk sl q) := by unfold stepT; rw [hs]; dsimp only; rw [hc]
      have hkN : k < N := by
        rcases Nat.lt_or_ge k N with z | z
        · exact z
        · have : k = N := by omega
          rw [← this, hTk, est] at hstop
          cases hstop
      have enx : itT (fstS bs) (tab0 bs) (k + 1) = excS Tk sl q := by
        show (stepT (fstS bs) (itT (fstS bs) (tab0 bs) k)).getD _ = _
        rw [hTk, est]
        rfl
      have gn := hgood (k + 1) (by omega)
      rw [enx] at gn
      refine q_asg (d := taD (excS Tk sl q)) (evp_callE (Tk, sl, q) (by walk_at "ev") (gk.exc sl q hs hc) fun d q => q) ?_
      refine t_asg (A := Eq (optI (mendS (excS Tk sl q) (fstS bs)))) (evp_callE (excS Tk sl q, fstS bs) (by walk_at "ev") gn.len fun d q => q) fun d' e' => ?_
      subst e'
      refine ⟨n - 1, by omega, k + 1, a7, a8, a9, a10, some (.imm (.int q)), by omega, ?_⟩
      rw [enx]
      rfl
  · have hs : mendS Tk (fstS bs) = none := by
      cases e : mendS Tk (fstS bs) with
      | none => rfl
      | some q => rw [e] at c; cases c
    have hkN : k = N := by
      rcases Nat.lt_or_ge k N with z | z
      · have := hgo k z
        rw [hTk] at this
        exact absurd (by unfold stepT; rw [hs]) this
      · omega
    refine t_retPt (Tk, numS bs, fstS bs) (by walk_at "ev") (gk.pnt hs) (fun d e => ?_) fun _ _ _ h => h
    subst e
    show _ = resS bs (itT (fstS bs) (tab0 bs) N)
    rw [← hkN, hTk]
    unfold resS
    rw [hs]
end
end Tf
/-! text TfX -/
/-! isinstance, in, is, slices, by data -/
namespace Tf
open PySem PySem.Spec PyProof.Rows L2
section
variable {X : Cx} {K : PySem.W.Frag} {k : Nat}
theorem op_inX (hr : Room k X.A) (hK : X.K = K := by rfl) : OpR X (compareOp .In) (rInD K) := hK ▸ op_inD (by have := hr.un; omega)
theorem op_notInX (hr : Room k X.A) (hK : X.K = K := by rfl) : OpR X (compareOp .NotIn) (rNotInD K) := hK ▸ op_notInD (by have := hr.un; omega)
theorem op_notInB (hK : X.K = K := by rfl) : OpR X (compareOp .NotIn) (rIn K true) := hK ▸ op_notIn_seq
theorem cr_isi (hK : X.K = K := by rfl) : CallR X (.builtin "isinstance") (rIsi K) := hK ▸ call_isi
theorem cr_isiT (hK : X.K = K := by rfl) : CallR X (.builtin "isinstance") (rIsiT K) := hK ▸ call_isiT
end
/-- the type of data -/
def tyD : Dat → String
  | .non => "NoneType"
  | .bl _ => "bool"
  | .int _ => "int"
  | .str _ => "str"
  | .lst _ => "list"
  | .scr _ => "list"
  | .tup _ => "tuple"
  | .dk _ => "dict"
  | .dt _ => "dict"
  | .at _ d => tyD d
section
variable {K : PySem.W.Frag} {m : Option LkM} {δ δ' : De} {te ta tb tc tl : TE} {x y z d : Dat} {ds es : List Dat} {i j : Nat} {Hs H : Hp} {R : Dat → Prop}
theorem sqL_ty {a : Addr} {xs : List V} (h : SqL K H a xs) : TyX K H (.ref a) (.type "list") := by
  rcases h with (h | ⟨o, h⟩) | ⟨o, _, _, h1, h2, _⟩
  · exact .base (.lst h)
  · exact .base (.frz h)
  · exact .kList h1 h2
theorem sqT_ty {a : Addr} {xs : List V} (h : SqT K H a xs) : TyX K H (.ref a) (.type "tuple") := by
  rcases h with (h | ⟨o, h⟩) | ⟨o, _, _, h1, h2, _⟩
  · exact .base (.tup h)
  · exact .fTuple h
  · exact .kTuple h1 h2
theorem tr_ty (e : Same Hs H) : ∀ {v : V} {d : Dat}, Tr K Hs v d → TyX K H v (.type (tyD d))
  | _, _, .non => .base .non
  | _, _, .bl b => .base (.bl b)
  | _, _, .int i => .base (.int i)
  | _, _, .str s => .base (.str s)
  | _, _, .am h => sqT_ty (sqT_same e h)
  | _, _, .scr h => sqL_ty (sqL_same e h)
  | _, _, .lst h t => .base (.lst (e _ _ h))
  | _, _, .tup h t => .base (.tup (e _ _ h))
  | _, _, .dk h t => .base (.dK (e _ _ h))
  | _, _, .dt h t => .base (.dT (e _ _ h))
  | _, _, .at (d := d') h => tr_ty (d := d') e h
/-- isinstance(x, T) -/
theorem evp_isi {n : String} {b : Bool} (h : EvP K none ta δ (Eq d)) (e : PySem.W.kitOne K (.type (tyD d)) (.type n) = some b) : EvP K none (tCB (rIsi K) (tCons ta (tCons (tC (.ty n)) tNil))) δ (Eq (.bl b)) := fun Hs0 H0 Hs H σ r Q k =>
  h _ _ _ _ _ r _ fun v H1 Hs1 d1 e1 t1 p1 => by
    subst p1
    exact ⟨v, .ty n, _, _, b, rfl, .ty n, tr_ty (r.grow e1).lk t1, e, k _ H1 Hs1 _ e1 (.bl _) rfl⟩
/-- isinstance(x, (T, U)) -/
theorem evp_isiT {n n' : String} {b : Bool} (h : EvP K none ta δ (Eq d)) (e : PySem.W.kitAny K (.type (tyD d)) [.type n, .type n'] = some b) : EvP K none (tCB (rIsiT K) (tCons ta (tCons (tTup (tCons (tC (.ty n)) (tCons (tC (.ty n')) tNil))) tNil))) δ (Eq (.bl b)) := fun Hs0 H0 Hs H σ r Q k =>
  h _ _ _ _ _ r _ fun v H1 Hs1 d1 e1 t1 p1 => by
    subst p1
    refine ⟨by show 2 ≤ sizeLine; decide, fun p np => ?_⟩
    have e2 : Ext Hs1 H1 Hs1 (upd H1 p (.tup [.ty n, .ty n'])) := ⟨fun a u q => .inl q, same_updN np, Same.refl _, fun b u _ _ q => q⟩
    refine ⟨v, p, _, _, _, b, rfl, upd_same, .cons (.ty n) (.cons (.ty n') .nil), tr_ty ((r.grow e1).grow e2).lk t1, e, k _ _ Hs1 _ (e1.trans e2) (.bl _) rfl⟩
/-! ### in, not in -/
theorem rv_inD (h1 : noD x = true) (h2 : noDL ds = true) (s1 : SeqAt.shaped (toPy x) = true) (s2 : SeqAt.shaped (.list (toPyL ds)) = true) : RV K (rInD K) x (.lst ds) (Eq (.bl ((toPyL ds).any fun z => PyData.eqv z (toPy x)))) := fun Hs H v u s t1 t2 Q k => by
  have h := dp_of s t2 (by rw [noD]; exact h2)
  rw [toPy] at h
  exact ⟨_, _, dp_of s t1 h1, h, s1, s2, k _ H Hs _ .refl (.bl _) rfl⟩
/-- x not in a list that a slot holds -/
theorem evp_notInD (h : EvP K m ta δ (Eq x)) (hl : LAt δ i ds) (h1 : noD x = true) (h2 : noDL ds = true) (s1 : SeqAt.shaped (toPy x) = true) (s2 : SeqAt.shaped (.list (toPyL ds)) = true) : EvP K m (tOp (rNotInD K) ta (tVar i)) δ (Eq (.bl !((toPyL ds).any fun z => PyData.eqv z (toPy x)))) := fun Hs0 H0 Hs H σ r Q k =>
  h _ _ _ _ _ r _ fun v H1 Hs1 d1 e1 t1 p1 => by
    subst p1
    have r1 := r.grow e1
    obtain ⟨p, xs, g1, g2, g3⟩ := r1.lAt hl
    exact ⟨.ref p, g1, _, _, dp_of r1.sub t1 h1, .lst g2 (dpL_of r1.sub g3 h2), s1, s2, k _ H1 Hs1 _ e1 (.bl _) rfl⟩
/-- the data of addresses -/
theorem toPyL_strs : ∀ l : Ad, toPyL (l.map .str) = l.map .str
  | [] => by simp [toPyL]
  | s :: l => by rw [List.map_cons, toPyL, toPyL_strs l, toPy]; rfl
theorem toPy_adr (a : Ad) : toPy (adr a) = encA a := by unfold adr; rw [toPy, toPyL_strs]; rfl
theorem toPyL_adrs : ∀ l : List Ad, toPyL (l.map adr) = l.map encA
  | [] => by simp [toPyL]
  | s :: l => by rw [List.map_cons, toPyL, toPyL_adrs l, toPy_adr]; rfl
/-- an address whose texts may be laid as data -/
def AdOk (a : Ad) : Prop := ∀ s ∈ a, PyData.strOk s = true
theorem can_strs : ∀ l : Ad, AdOk l → PyData.canLayAll0 (l.map .str) = true
  | [], _ => by simp [PyData.canLayAll0]
  | s :: l, h => by
    rw [List.map_cons, PyData.canLayAll0, can_strs l fun x hx => h x (List.mem_cons_of_mem _ hx)]
    simp [PyData.canLay0, h s List.mem_cons_self]
theorem can_encA {a : Ad} (h : AdOk a) : (encA a).canLay0 = true := by
  unfold encA
  rw [PyData.canLay0]
  exact can_strs a h
theorem shaped_encA {a : Ad} (h : AdOk a) : SeqAt.shaped (encA a) = true := by
  unfold SeqAt.shaped
  have := depth_encA a
  rw [can_encA h]
  simp
  omega
theorem can_adrs : ∀ l : List Ad, (∀ a ∈ l, AdOk a) → PyData.canLayAll0 (l.map encA) = true
  | [], _ => by simp [PyData.canLayAll0]
  | s :: l, h => by rw [List.map_cons, PyData.canLayAll0, can_adrs l fun x hx => h x (List.mem_cons_of_mem _ hx), can_encA (h s List.mem_cons_self)]; rfl
theorem depth_adrs : ∀ l : List Ad, PyData.depthAll (l.map encA) ≤ 1
  | [] => by simp [PyData.depthAll]
  | s :: l => by
    rw [List.map_cons, PyData.depthAll]
    have h1 := depth_adrs l
    have h2 := depth_encA s
    omega
theorem shaped_adrs {l : List Ad} (h : ∀ a ∈ l, AdOk a) : SeqAt.shaped (.list (l.map encA)) = true := by
  have h1 := depth_adrs l
  have h2 : PyData.depth (.list (l.map encA)) ≤ 2 := by
    rw [PyData.depth]
    omega
  unfold SeqAt.shaped
  rw [PyData.canLay0, can_adrs l h, Bool.true_and, decide_eq_true_eq]
  omega
theorem eqv_strs : ∀ a b : Ad, PyData.eqvAll (a.map .str) (b.map .str) = decide (a = b)
  | [], [] => by simp [PyData.eqvAll]
  | [], _ :: _ => by simp [PyData.eqvAll]
  | _ :: _, [] => by simp [PyData.eqvAll]
  | x :: a, y :: b => by
    rw [List.map_cons, List.map_cons, PyData.eqvAll, eqv_strs a b]
    by_cases h : x = y <;> by_cases h2 : a = b <;> simp [PyData.eqv, h, h2]
theorem eqv_encA (a b : Ad) : PyData.eqv (encA a) (encA b) = decide (a = b) := by
  unfold encA
  rw [PyData.eqv]
  exact eqv_strs a b
theorem noD_strs : ∀ l : Ad, noDL (l.map .str) = true
  | [] => by simp [noDL]
  | s :: l => by rw [List.map_cons, noDL, noD_strs l]; simp [noD]
theorem noD_adr (a : Ad) : noD (adr a) = true := by unfold adr; rw [noD]; exact noD_strs a
theorem noD_adrs : ∀ l : List Ad, noDL (l.map adr) = true
  | [] => by simp [noDL]
  | s :: l => by rw [List.map_cons, noDL, noD_adrs l, noD_adr]; rfl
/-- an address not in a list of addresses -/
theorem evp_notInA {a : Ad} {l : List Ad} (ha : AdOk a) (hla : ∀ b ∈ l, AdOk b) (h : EvP K m ta δ (Eq (adr a))) (hl : LAt δ i (l.map adr)) : EvP K m (tOp (rNotInD K) ta (tVar i)) δ (Eq (.bl !(decide (a ∈ l)))) :=
  (evp_notInD h hl (noD_adr a) (noD_adrs l) (by rw [toPy_adr]; exact shaped_encA ha) (by rw [toPyL_adrs]; exact shaped_adrs hla)).to (by
    rw [toPyL_adrs, toPy_adr, List.any_map]
    congr 2
    induction l with
    | nil => simp
    | cons b l ih =>
      rw [List.any_cons]
      show (PyData.eqv (encA b) (encA a) || _) = _
      rw [eqv_encA]
      by_cases e : b = a
      · simp [e]
      · have e' : ¬ a = b := fun z => e z.symm
        have ih' : (l.any ((fun z => PyData.eqv z (encA a)) ∘ encA)) = decide (a ∈ l) := by
          clear ih h hl hla
          induction l with
          | nil => simp
          | cons c l ih =>
            rw [List.any_cons, ih]
            show (PyData.eqv (encA c) (encA a) || _) = _
            rw [eqv_encA]
            by_cases e2 : c = a
            · simp [e2]
            · have : ¬ a = c := fun z => e2 z.symm
              simp [e2, this]
        rw [ih']
        simp [e, e'])
/-- is, of truth values -/
theorem rv_isB {a b : Bool} : RV K rIsB (.bl a) (.bl b) (Eq (.bl (decide (a = b)))) := fun Hs H v u s t1 t2 Q k => by
  cases t1; cases t2
  exact ⟨a, b, rfl, rfl, k _ H Hs _ .refl (.bl _) rfl⟩
theorem trL_bls : ∀ {xs : List V} {bs : List Bool}, TrL K Hs xs (bs.map .bl) → xs = bs.map V.bl
  | _, [], t => by cases t; rfl
  | _, b :: bs, t => by
    cases t with
    | cons h t => cases h; rw [trL_bls t]; rfl
/-- False not in [..] -/
theorem rv_notInB {b : Bool} {bs : List Bool} : RV K (rIn K true) (.bl b) (.lst (bs.map .bl)) (Eq (.bl !(bs.any fun c => c == b))) := fun Hs H v u s t1 t2 Q k => by
  cases t1
  obtain ⟨p, xs, rfl, h1, h2⟩ := t2.lst_inv
  have e := trL_bls h2
  subst e
  refine ⟨p, _, rfl, .inl (s.sqL h1), rfl, by simp [List.all_map, flatV], ?_⟩
  have e2 : inV (V.bl b) (bs.map V.bl) = bs.any fun c => c == b := by
    unfold inV
    rw [List.any_map]
    rfl
  rw [if_pos rfl, e2]
  exact k _ H Hs _ .refl (.bl _) rfl
/-- len of a dict by addresses -/
theorem evp_lenT {l : List (Ad × Dat)} (h : EvP K none ta δ (Eq (.dt l))) : EvP K none (tCB rLenT (tCons ta tNil)) δ (Eq (.int (l.length : Nat))) := fun Hs0 H0 Hs H σ r Q k =>
  h _ _ _ _ _ r _ fun v H1 Hs1 d1 e1 t1 p1 => by
    subst p1
    obtain ⟨p, kvs, rfl, h1, h2⟩ := t1.dt_inv
    have sm : Same Hs1 H1 := (r.grow e1).lk
    refine ⟨p, kvs, rfl, sm _ _ h1, ?_⟩
    rw [h2.length]
    exact k _ H1 Hs1 _ e1 (.int _) rfl
end
end Tf
/-! text TfY -/
/-! the law's own arithmetic, walked -/
namespace Tf
open PySem PySem.Spec PyProof.Rows L2
local macro_rules | `(tactic| walk_at "ev1") => `(tactic| first
  | with_reducible exact evp_int | with_reducible exact evp_bl | with_reducible exact evp_str | with_reducible exact evp_non | with_reducible exact evp_gamA | with_reducible exact evp_gam | (with_reducible apply evp_var; (with_unfolding_all exact rfl))
  | with_reducible exact eva_nil | with_reducible apply eva_cons
  | with_reducible apply evp_op | (with_reducible apply evp_un (hr := ru_int)) | with_reducible apply evp_cb
  | with_reducible apply evp_tup' | (with_reducible show List.length _ ≤ 100000; simp; done)
  | with_reducible exact rv_int | with_reducible exact rv_bl | with_reducible apply rv_intC | with_reducible exact rv_eq (.int _ _) | with_reducible exact rv_ne (.int _ _)
  | (with_reducible apply rv_ix; (first | (with_unfolding_all exact Sq.tup _) | (with_unfolding_all exact Sq.lst _) | (with_reducible apply Sqx.sq; with_reducible assumption)); (with_unfolding_all exact rfl))
  | with_reducible exact rc_gcd
  | with_reducible exact rc_tupA | with_reducible exact rc_tupM
  | (with_reducible apply rc_tup; (first | (with_unfolding_all exact Sq.tup _) | (with_unfolding_all exact Sq.lst _) | (with_reducible apply Sqx.sq; with_reducible assumption)))
  | (with_reducible apply rc_lst; (first | (with_unfolding_all exact Sq.tup _) | (with_unfolding_all exact Sq.lst _) | (with_reducible apply Sqx.sq; with_reducible assumption)))
  | (with_reducible apply rc_len; (first | (with_unfolding_all exact Sq.tup _) | (with_unfolding_all exact Sq.lst _) | (with_reducible apply Sqx.sq; with_reducible assumption)))
  | with_reducible apply rv_cat
  | with_reducible exact evb_yes
  | with_reducible apply evb_test | with_reducible apply evb_B | with_reducible apply evb_not | with_reducible apply evb_and | with_reducible apply evb_or | with_reducible apply evp_and | with_reducible apply evp_or | with_reducible apply evp_not
  | (with_reducible refine fun _ => ?_))
local macro_rules | `(tactic| walk_at "ev") => `(tactic| repeat' walk_at "ev1")
theorem evi_rangeN {K : PySem.W.Frag} {m : Option LkM} {δ : De} {t : TA} {N : Nat} (h : EvA K m t δ (Eq [.int (N : Int)])) (hN : N < 2 ^ 62) : EvI K m (iRng1 t) δ (Eq ((List.range N).map fun k : Nat => Dat.int (k : Int))) :=
  (evi_range h (by omega) (by omega)).to (by
    unfold intR
    rw [Int.toNat_natCast]
    exact List.map_congr_left fun k _ => by rw [Int.zero_add])
/-! ### plain: the steps of the law's own gcd -/
structure Euc (b0 : Nat) (k A B : Nat) : Prop where
  lo : B ≠ 0 → B * 2 ^ (k / 2) ≤ b0
  hi : k ≠ 0 → B ≠ 0 → B ≤ A ∧ A * 2 ^ ((k - 1) / 2) ≤ b0
theorem euc_step {b0 k A B : Nat} (h : Euc b0 k A B) (hB : B ≠ 0) : Euc b0 (k + 1) B (A % B) := by
  have lt : A % B < B := Nat.mod_lt _ (Nat.pos_of_ne_zero hB)
  have h1 := h.lo hB
  refine ⟨fun h0 => ?_, fun _ _ => ⟨Nat.le_of_lt lt, h1⟩⟩
  by_cases ev : k % 2 = 0
  · have e : (k + 1) / 2 = k / 2 := by omega
    rw [e]
    exact Nat.le_trans (Nat.mul_le_mul_right _ (Nat.le_of_lt lt)) h1
  · obtain ⟨g1, g2⟩ := h.hi (by omega) hB
    have e : (k + 1) / 2 = (k - 1) / 2 + 1 := by omega
    have two : A % B * 2 ≤ A := by
      have := Nat.div_add_mod A B
      have hd : 1 ≤ A / B := (Nat.le_div_iff_mul_le (Nat.pos_of_ne_zero hB)).mpr (by omega)
      have : B * 1 ≤ B * (A / B) := Nat.mul_le_mul_left _ hd
      omega
    rw [e, Nat.pow_succ, Nat.mul_comm (2 ^ _) 2, ← Nat.mul_assoc]
    exact Nat.le_trans (Nat.mul_le_mul_right _ two) g2
theorem euc_zero {b0 A : Nat} {n : Nat} (hb : b0 < 2 ^ n) {k B : Nat} (hk : 2 * n ≤ k) (h : Euc b0 k A B) : B = 0 := by
  refine Classical.byContradiction fun hB => ?_
  have h1 := h.lo hB
  have h2 : 2 ^ n ≤ 2 ^ (k / 2) := Nat.pow_le_pow_right (by decide) (by omega)
  have h3 : 1 * 2 ^ (k / 2) ≤ B * 2 ^ (k / 2) := Nat.mul_le_mul_right _ (Nat.pos_of_ne_zero hB)
  omega
theorem gcd_step (A B : Nat) : Nat.gcd B (A % B) = Nat.gcd A B := by
  rw [Nat.gcd_comm B, ← Nat.gcd_rec, Nat.gcd_comm]
theorem abs_ite (a : Int) : (if a < 0 then -a else a) = ((a.natAbs : Nat) : Int) := by split <;> omega
abbrev preLam : Int × Int → Prop := fun a => 0 < a.2 ∧ Lt2 a.2 499000
/-- two amounts whose product the law's own gcd takes -/
def PmL (a b : Am) : Prop := ∃ n k, Pn n a ∧ Pn k b ∧ n + k + 1 ≤ 499000
theorem PmL.lt {a b : Am} (h : PmL a b) : 0 < a.2 * b.2 ∧ Lt2 (a.2 * b.2) 499000 := by
  obtain ⟨n, k, h1, h2, h3⟩ := h
  exact ⟨mul_pos' h1.pos h2.pos, (h1.l2.mul h2.l2).mono (by omega)⟩
theorem PmL.pm {a b : Am} (h : PmL a b) : Pm a ∧ Pm b := by
  obtain ⟨n, k, h1, h2, h3⟩ := h
  exact ⟨h1.pm (by omega), h2.pm (by omega)⟩
/-! ### what they compute -/
def lfd0 (l : List Tm) : Pnt := l.foldl (fun acc t => aput acc t.1 t.2) []
def lfdF (f : Am) (acc : Pnt) (t : Tm) : Pnt := aput acc t.1 (pls ((aget acc t.1).getD (0, 1)) (tms f t.2))
def ltms (f : Pnt) : List Tm := ((sortA (f.map (·.1))).filter fun a => !decide (((aget f a).getD (0, 1)).1 = 0)).map fun a => (a, (aget f a).getD (0, 1))
def lawAdd (a b : Su) (f : Am) : Su := (ltms (b.1.foldl (lfdF f) (lfd0 a.1)), pls a.2 (tms f b.2))
section
variable {P : Program} {w : World} {K : PySem.W.Frag} {mg : Str → Option Value} {base : Heap}
abbrev SpLam (K : PySem.W.Frag) : Sp := SpD K encII preLam fun a d => d = am (amt a.1 a.2)
abbrev SpLpl (K : PySem.W.Frag) : Sp := SpD K encAA (fun a => PmL a.1 a.2) fun a d => d = am (pls a.1 a.2)
abbrev SpLtm (K : PySem.W.Frag) : Sp := SpD K encAA (fun a => PmL a.1 a.2) fun a d => d = am (tms a.1 a.2)
theorem ok_law_amount (T : Tx P K mg base) : Cal P w K mg base 36 "_law_amount" ["_law_top", "_law_low"] [] (SpLam K) := by
  refine cal_of (k := 35) T.d_law_amount scLawAmount (fun _ => rfl) (fun _ _ _ _ _ _ us hl => match us, hl with | [_, _], _ => rfl) fun cdv f A outer s H Q E hr => ?_
  have hu := hu_of hr
  have hB := big_of (f := f) (cd := cdv) (A := A) (outer := outer) (s := s) (H := H) (E := E) (w := w) (mg := mg) T scLawAmount hr
  refine ⟨_, (pss_cons (ps_set (i := 2) scLawAmount.nd rfl (Or.inl rfl) (pe_callB cr_abs (by rfl) T.n_abs (by decide +kernel) (pa_cons (pv 0) pa_nil)))
  (pss_cons (ps_set (i := 3) scLawAmount.nd rfl (Or.inl rfl) (pe_callB cr_abs (by rfl) T.n_abs (by decide +kernel) (pa_cons (pv 1) pa_nil)))
  (pss_cons (ps_for PassesOwn.never rfl (pi_range1 rfl T.n_range (pa_cons pe_int pa_nil)) (pg_name (i := 4) scLawAmount.nd rfl (Or.inl rfl)) (pss_cons (ps_if (pt_cmpR op_eq (pv 3) pe_int (nomark _)) (pss_one ps_break) pss_nil)
  (pss_cons (ps_set (i := 5) scLawAmount.nd rfl (Or.inl rfl) (pe_op op_mod (pe_callTy cr_int (by rfl) T.n_int (by decide +kernel) (pa_cons (pv 2) pa_nil)) (pv 3)))
  (pss_cons (ps_set (i := 2) scLawAmount.nd rfl (Or.inl rfl) (pv 3))
  (pss_one (ps_set (i := 3) scLawAmount.nd rfl (Or.inl rfl) (pv 5)))))))
  (pss_cons (ps_set (i := 6) scLawAmount.nd rfl (Or.inl rfl) (pe_op op_mulH (pv 2) (pe_op op_sub pe_int (pe_op op_mulH pe_int (pe_callTy cr_int (by rfl) T.n_int (by decide +kernel) (pa_cons (pe_cmpR op_lt (pv 1) pe_int (nomark _)) pa_nil))))))
  (pss_one (ps_ret (pe_tup (pa_cons (pe_op (op_fdivB hB) (pv 0) (pv 6)) (pa_cons (pe_op (op_fdivB hB) (pv 1) (pv 6)) pa_nil))))))))), fun a ha => ?_⟩
  obtain ⟨t, b⟩ := a
  obtain ⟨h1, h2⟩ := ha
  have h1 : 0 < b := h1
  have h2 : Lt2 b 499000 := h2
  try dsimp only [cxK]
  refine q_asg (d := .int ((t.natAbs : Nat) : Int)) ((evp_cb (eva_cons (evp_var rfl) eva_nil) rc_abs).to (by rw [abs_ite])) ?_
  refine q_asg (d := .int ((b.natAbs : Nat) : Int)) ((evp_cb (eva_cons (evp_var rfl) eva_nil) rc_abs).to (by rw [abs_ite])) ?_
  have fin : ∀ (A' : Nat) (x y z : Option Sl), Nat.gcd A' 0 = Nat.gcd t.natAbs b.natAbs → Tf.T K none (tSeq (tAsg (tOp (rI CMulH fun i j => .int (i * j)) (tVar 2) (tOp (rI0 fun i j => .int (i - j)) (tC (.int 1)) (tOp (rI CMulH fun i j => .int (i * j)) (tC (.int 2)) (tCB rInt (tCons (tOp (rI0 fun i j => .bl (decide (i < j))) (tVar 1) (tC (.int 0))) tNil))))) (gName 6)) (tRet (tTup (tCons (tOp (rI (fun _ j => 0 < j) fun i j => .int (i / j)) (tVar 0) (tVar 6)) (tCons (tOp (rI (fun _ j => 0 < j) fun i j => .int (i / j)) (tVar 1) (tVar 6)) tNil)))))
      [some (.imm (.int t)), some (.imm (.int b)), some (.imm (.int (A' : Int))), x, y, z, none] { nx := fun _ => Dat.non = am (amt t b), rt := fun d => d = am (amt t b) } := fun A' x y z hg => by
    rw [Nat.gcd_zero_right] at hg
    have hp := gcd_pos (t := t) h1
    have hl : Lt2 ((A' : Nat) : Int) 499000 := by
      unfold Lt2 at *
      have := Nat.gcd_le_right (m := t.natAbs) (n := b.natAbs) (by omega)
      rw [Int.natAbs_natCast, hg]
      omega
    refine q_asg (d := .int ((Nat.gcd t.natAbs b.natAbs : Nat) : Int)) (EvP.to (evp_op (evp_var rfl) (evp_op evp_int (evp_op evp_int (evp_cb (eva_cons (evp_op (evp_var rfl) evp_int rv_bl) eva_nil) rc_intB) (rv_intC ?_)) rv_int) (rv_intC ?_)) ?_) ?_
    · refine ⟨2, 1, by show (2 : Nat) < 4; decide, ?_, by decide⟩
      rw [decide_eq_false (by omega)]
      show (0 : Nat) < 2
      decide
    · refine ⟨499000, 2, hl, ?_, by decide⟩
      rw [decide_eq_false (by omega)]
      show (1 : Nat) < 4
      decide
    · rw [decide_eq_false (by omega), ← hg]
      simp
    · apply t_retE'
      · walk_at "ev" <;> exact hp
      · rfl
  obtain ⟨N, hN⟩ : ∃ N : Nat, N = 1000000 := ⟨_, rfl⟩
  have eN : (1000000 : Int) = (N : Int) := by rw [hN]; rfl
  refine q_forM (l := List.range N) (enc := fun k : Nat => .int (k : Int)) (fun pre δ' => ∃ (A' B' : Nat) (x y : Option Sl), δ' = [some (.imm (.int t)), some (.imm (.int b)), some (.imm (.int (A' : Int))), some (.imm (.int (B' : Int))), x, y, none] ∧ Nat.gcd A' B' = Nat.gcd t.natAbs b.natAbs ∧ Euc b.natAbs pre.length A' B')
    (evi_rangeN (eva_cons (evp_int.to (by rw [eN])) eva_nil) (by omega)) ⟨_, _, _, _, rfl, rfl, fun _ => by simp, fun z => absurd rfl z⟩ ?_ ?_
  · rintro pre k _ hp ⟨A', B', x, y, rfl, hg, he⟩
    refine ⟨_, _, evg_name, ?_⟩
    refine q_when (b := decide ((B' : Int) = 0)) (EvB.to (by walk_at "ev") rfl) (fun c => ?_) fun c => ?_
    · have c : B' = 0 := by have := of_decide_eq_true c; omega
      subst c
      exact t_break (fin A' _ _ _ hg)
    · have c : B' ≠ 0 := by have := of_decide_eq_false c; omega
      refine q_asg (d := .int ((A' % B' : Nat) : Int)) (EvP.to (evp_op (evp_cb (eva_cons (by walk_at "ev") eva_nil) rc_int) (evp_var rfl) (rv_intC (by show 0 < (B' : Int); omega))) rfl) ?_
      refine q_asg (by walk_at "ev") ?_
      refine t_asg (by walk_at "ev") fun d e => ?_
      subst e
      refine ⟨B', A' % B', _, _, rfl, by rw [gcd_step]; exact hg, ?_⟩
      rw [List.length_append, List.length_singleton]
      exact euc_step he c
  · rintro _ ⟨A', B', x, y, rfl, hg, he⟩
    rw [List.length_range] at he
    have := euc_zero (n := 499000) h2 (by omega) he
    subst this
    exact fin A' _ _ _ hg
theorem ok_law_plus (T : Tx P K mg base) (C_law_amount : Cal P w K mg base 36 "_law_amount" ["_law_top", "_law_low"] [] (SpLam K)) : Cal P w K mg base 37 "_law_plus" ["_law_one", "_law_two"] [] (SpLpl K) := by
  refine cal_of (k := 36) T.d_law_plus scLawPlus (fun _ => rfl) (fun _ _ _ _ _ _ us hl => match us, hl with | [_, _], _ => rfl) fun cdv f A outer s H Q E hr => ?_
  refine ⟨_, (pss_one (ps_ret (pe_cal C_law_amount hr (by rfl) (pa_cons (pe_op op_add (pe_op op_mulH (pe_ix (ixK (K := K)) (pv 0) pe_int (fun _ _ => rfl)) (pe_ix (ixK (K := K)) (pv 1) pe_int (fun _ _ => rfl))) (pe_op op_mulH (pe_ix (ixK (K := K)) (pv 1) pe_int (fun _ _ => rfl)) (pe_ix (ixK (K := K)) (pv 0) pe_int (fun _ _ => rfl)))) (pa_cons (pe_op op_mulH (pe_ix (ixK (K := K)) (pv 0) pe_int (fun _ _ => rfl)) (pe_ix (ixK (K := K)) (pv 1) pe_int (fun _ _ => rfl))) pa_nil))))), fun a ha => ?_⟩
  obtain ⟨a, b⟩ := a
  have hl : PmL a b := ha
  obtain ⟨h1, h2⟩ := hl.pm
  try dsimp only [cxK]
  refine t_retE (evp_callE (a.1 * b.2 + b.1 * a.2, a.2 * b.2) ?_ hl.lt fun d q => q) rfl
  walk_at "ev"
  · exact cmul h1.l1 h2.l2
  · exact cmul h2.l1 h1.l2
  · exact cmul h1.l2 h2.l2
theorem ok_law_times (T : Tx P K mg base) (C_law_amount : Cal P w K mg base 36 "_law_amount" ["_law_top", "_law_low"] [] (SpLam K)) : Cal P w K mg base 37 "_law_times" ["_law_one", "_law_two"] [] (SpLtm K) := by
  refine cal_of (k := 36) T.d_law_times scLawTimes (fun _ => rfl) (fun _ _ _ _ _ _ us hl => match us, hl with | [_, _], _ => rfl) fun cdv f A outer s H Q E hr => ?_
  refine ⟨_, (pss_one (ps_ret (pe_cal C_law_amount hr (by rfl) (pa_cons (pe_op op_mulH (pe_ix (ixK (K := K)) (pv 0) pe_int (fun _ _ => rfl)) (pe_ix (ixK (K := K)) (pv 1) pe_int (fun _ _ => rfl))) (pa_cons (pe_op op_mulH (pe_ix (ixK (K := K)) (pv 0) pe_int (fun _ _ => rfl)) (pe_ix (ixK (K := K)) (pv 1) pe_int (fun _ _ => rfl))) pa_nil))))), fun a ha => ?_⟩
  obtain ⟨a, b⟩ := a
  have hl : PmL a b := ha
  obtain ⟨h1, h2⟩ := hl.pm
  try dsimp only [cxK]
  refine t_retE (evp_callE (a.1 * b.1, a.2 * b.2) ?_ hl.lt fun d q => q) rfl
  walk_at "ev"
  · exact cmul h1.l1 h2.l1
  · exact cmul h1.l2 h2.l2
structure PreVaL (a : Su × Pnt) : Prop where
  mid : ∀ pre t, pre ++ [t] <+: a.1.1 → ∃ v, aget a.2 t.1 = some v ∧ PmL t.2 v ∧ PmL (valS (pre, a.1.2) a.2) (tms t.2 v)
abbrev SpVaL (K : PySem.W.Frag) : Sp := SpD K (fun a : Su × Pnt => [smD a.1, ptD a.2]) PreVaL fun a d => d = am (valS a.1 a.2)
theorem ok_law_value (T : Tx P K mg base) (C_law_plus : Cal P w K mg base 37 "_law_plus" ["_law_one", "_law_two"] [] (SpLpl K)) (C_law_times : Cal P w K mg base 37 "_law_times" ["_law_one", "_law_two"] [] (SpLtm K)) :
    Cal P w K mg base 38 "_law_value" ["_law_one", "_law_point"] [] (SpVaL K) := by
  refine cal_of (k := 37) T.d_law_value scLawValue (fun _ => rfl) (fun _ _ _ _ _ _ us hl => match us, hl with | [_, _], _ => rfl) fun cdv f A outer s H Q E hr => ?_
  have hu := hu_of hr
  refine ⟨_, (pss_cons (ps_set (i := 2) scLawValue.nd rfl (Or.inl rfl) (pe_ix (ixK (K := K)) (pv 0) pe_int (fun _ _ => rfl)))
  (pss_cons (ps_for PassesOwn.never rfl (pi_seq (K := K) (pe_ix (ixK (K := K)) (pv 0) pe_int (fun _ _ => rfl))) (pg_name (i := 3) scLawValue.nd rfl (Or.inl rfl)) (pss_one (ps_set (i := 2) scLawValue.nd rfl (Or.inl rfl) (pe_cal C_law_plus hr (by rfl) (pa_cons (pv 2) (pa_cons (pe_cal C_law_times hr (by rfl) (pa_cons (pe_ix (ixK (K := K)) (pv 3) pe_int (fun _ _ => rfl)) (pa_cons (pe_dget hu (pv 1) (pe_ix (ixK (K := K)) (pv 3) pe_int (fun _ _ => rfl)) (fun _ _ => rfl)) pa_nil))) pa_nil))))))
  (pss_one (ps_ret (pv 2))))), fun a ha => ?_⟩
  obtain ⟨s, p⟩ := a
  try dsimp only [cxK]
  refine q_asg (d := am s.2) (by walk_at "ev") ?_
  refine q_forM (l := s.1) (enc := tmD) (fun pre δ' => ∃ x, δ' = [some (.imm (smD s)), some (.imm (ptD p)), some (.imm (am (valS (pre, s.2) p))), x]) (evi_sq (by walk_at "ev") (.tup _)) ⟨_, rfl⟩ ?_ ?_
  · rintro pre t _ hp ⟨x, rfl⟩
    obtain ⟨v, hv, m1, m2⟩ := ha.mid pre t hp
    refine ⟨_, _, evg_name, ?_⟩
    refine t_asg (A := Eq (am (valS (pre ++ [t], s.2) p))) (EvP.to (evp_callE (valS (pre, s.2) p, tms t.2 v) (eva_cons (by walk_at "ev") (eva_cons (evp_callE (t.2, v) (eva_cons (by walk_at "ev") (eva_cons ?_ eva_nil)) m1 fun d q => q) eva_nil)) m2 fun d q => q) ?_) (fun d e => ?_)
    · exact evp_getT (l := mapV am p) (k := t.1) (.inr rfl) (by walk_at "ev") (by rw [aget_mapV, hv]; rfl)
    · unfold valS
      rw [List.foldl_append]
      simp [hv]
    · subst e
      exact ⟨_, rfl⟩
  · rintro _ ⟨x, rfl⟩
    exact t_retE (by walk_at "ev") rfl
structure PreLad (a : Su × Su × Am) : Prop where
  nn : ∀ t ∈ a.1.1 ++ a.2.1.1, t.1 ≠ []
  len : a.1.1.length + a.2.1.1.length ≤ 1000
  mid : ∀ pre t, pre ++ [t] <+: a.2.1.1 → PmL a.2.2 t.2 ∧ PmL ((aget (pre.foldl (lfdF a.2.2) (lfd0 a.1.1)) t.1).getD (0, 1)) (tms a.2.2 t.2)
  fin : PmL a.2.2 a.2.1.2 ∧ PmL a.1.2 (tms a.2.2 a.2.1.2)
abbrev SpLad (K : PySem.W.Frag) : Sp := SpD K (fun a : Su × Su × Am => [smD a.1, smD a.2.1, am a.2.2]) PreLad fun a d => d = smD (lawAdd a.1 a.2.1 a.2.2)
theorem lfd0_keys {l : List Tm} {acc : Pnt} {x : Ad} (h : x ∈ (l.foldl (fun acc t => aput acc t.1 t.2) acc).map (·.1)) : x ∈ acc.map (·.1) ∨ ∃ t ∈ l, t.1 = x := by
  induction l generalizing acc with
  | nil => exact .inl h
  | cons t l ih =>
    rcases ih h with h | ⟨u, hu, e⟩
    · rcases aput_key h with h | h
      · exact .inl h
      · exact .inr ⟨t, List.mem_cons_self, h.symm⟩
    · exact .inr ⟨u, List.mem_cons_of_mem _ hu, e⟩
theorem lfdF_keys {f : Am} {l : List Tm} {acc : Pnt} {x : Ad} (h : x ∈ (l.foldl (lfdF f) acc).map (·.1)) : x ∈ acc.map (·.1) ∨ ∃ t ∈ l, t.1 = x := by
  induction l generalizing acc with
  | nil => exact .inl h
  | cons t l ih =>
    rcases ih h with h | ⟨u, hu, e⟩
    · rcases aput_key h with h | h
      · exact .inl h
      · exact .inr ⟨t, List.mem_cons_self, h.symm⟩
    · exact .inr ⟨u, List.mem_cons_of_mem _ hu, e⟩
theorem ok_law_add (T : Tx P K mg base) (C_law_plus : Cal P w K mg base 37 "_law_plus" ["_law_one", "_law_two"] [] (SpLpl K)) (C_law_times : Cal P w K mg base 37 "_law_times" ["_law_one", "_law_two"] [] (SpLtm K)) :
    Cal P w K mg base 38 "_law_add" ["_law_one", "_law_two", "_law_factor"] [] (SpLad K) := by
  refine cal_of (k := 37) T.d_law_add scLawAdd (fun _ => rfl) (fun _ _ _ _ _ _ us hl => match us, hl with | [_, _, _], _ => rfl) fun cdv f A outer s H Q E hr => ?_
  have hu := hu_of hr
  refine ⟨_, (pss_cons (ps_set (i := 3) scLawAdd.nd rfl (Or.inr rfl) pe_dnewT)
  (pss_cons (ps_for PassesOwn.never rfl (pi_seq (K := K) (pe_ix (ixK (K := K)) (pv 0) pe_int (fun _ _ => rfl))) (pg_name (i := 4) scLawAdd.nd rfl (Or.inl rfl)) (pss_one (ps_dput hu (pv 3) (pe_ix (ixK (K := K)) (pv 4) pe_int (fun _ _ => rfl)) (pe_ix (ixK (K := K)) (pv 4) pe_int (fun _ _ => rfl)) rfl)))
  (pss_cons (ps_for PassesOwn.never rfl (pi_seq (K := K) (pe_ix (ixK (K := K)) (pv 1) pe_int (fun _ _ => rfl))) (pg_name (i := 4) scLawAdd.nd rfl (Or.inl rfl)) (pss_one (ps_dput hu (pv 3) (pe_ix (ixK (K := K)) (pv 4) pe_int (fun _ _ => rfl)) (pe_cal C_law_plus hr (by rfl) (pa_cons (pe_dget2 hu (pv 3) (pe_ix (ixK (K := K)) (pv 4) pe_int (fun _ _ => rfl)) (pe_tup (pa_cons pe_int (pa_cons pe_int pa_nil))) ⟨by rfl, by rfl, by rfl, by rfl⟩) (pa_cons (pe_cal C_law_times hr (by rfl) (pa_cons (pv 2) (pa_cons (pe_ix (ixK (K := K)) (pv 4) pe_int (fun _ _ => rfl)) pa_nil))) pa_nil))) rfl)))
  (pss_cons (ps_set (i := 5) scLawAdd.nd rfl (Or.inl rfl) (pe_callTy (cr_tup (K := K)) (by rfl) T.n_tuple (by decide +kernel) (pa_cons (pe_lc (own := [("_law_address", 6)]) rfl scLawAdd.nd (pi_seq (K := K) (pe_callB (cr_sortT hr) (by rfl) T.n_sorted (by decide +kernel) (pa_cons (pv 3) pa_nil))) (blkOk_by (own := [("_law_address", 6)]) (N := nLawAdd) (sc := defScope sLawAdd) (by decide +kernel)) (fun _ _ _ _ _ => (pg_name (i := 6) scLawAdd.nd rfl (Or.inl rfl))) (fun _ _ _ _ _ => (pts_one (pt_cmpR op_ne (pe_ix (ixK (K := K)) (pe_dget hu (pv 3) (pv 6) (fun _ _ => rfl)) pe_int (fun _ _ => rfl)) pe_int (nomark _)))) (fun _ _ _ _ _ => (pe_tup (pa_cons (pv 6) (pa_cons (pe_dget hu (pv 3) (pv 6) (fun _ _ => rfl)) pa_nil))))) pa_nil)))
  (pss_one (ps_ret (pe_tup (pa_cons (pv 5) (pa_cons (pe_cal C_law_plus hr (by rfl) (pa_cons (pe_ix (ixK (K := K)) (pv 0) pe_int (fun _ _ => rfl)) (pa_cons (pe_cal C_law_times hr (by rfl) (pa_cons (pv 2) (pa_cons (pe_ix (ixK (K := K)) (pv 1) pe_int (fun _ _ => rfl)) pa_nil))) pa_nil))) pa_nil))))))))), fun a ha => ?_⟩
  obtain ⟨a, b, f⟩ := a
  obtain ⟨h1, h2, h3, h4, h5⟩ := ha
  have h2 : a.1.length + b.1.length ≤ 1000 := h2
  try dsimp only [cxK]
  refine q_asgOT eo_dt fun kvs e => ?_
  subst e
  have l0 : ∀ l : List Tm, (lfd0 l).length ≤ l.length := fun l => by
    have := fold_aput_len (fun (acc : Pnt) (t : Tm) => aput acc t.1 t.2) (fun acc x => aput_len _ _ _) l []
    have e0 : ([] : Pnt).length = 0 := rfl
    show (l.foldl _ []).length ≤ _
    omega
  have l1 : ∀ l : List Tm, (l.foldl (lfdF f) (lfd0 a.1)).length ≤ a.1.length + l.length := fun l => by
    have h := fold_aput_len (lfdF f) (fun acc x => aput_len _ _ _) l (lfd0 a.1)
    have := l0 a.1
    omega
  refine q_forM (l := a.1) (enc := tmD) (fun pre δ' => ∃ x, δ' = [some (.imm (smD a)), some (.imm (smD b)), some (.imm (am f)), some (.ot (mapV am (lfd0 pre))), x, none, none]) (evi_sq (by walk_at "ev") (.tup _)) ⟨_, rfl⟩ ?_ ?_
  · rintro pre t _ hp ⟨x, rfl⟩
    have hp2 := hp.length_le
    rw [List.length_append, List.length_singleton] at hp2
    have := l0 pre
    refine ⟨_, _, evg_name, ?_⟩
    refine t_putT (A := Eq (am t.2)) (l := mapV am (lfd0 pre)) (k := t.1) rfl (by walk_at "ev") (by walk_at "ev") (by rw [mapV_len]; omega) fun d e => ?_
    subst e
    rw [aput_mapV]
    refine ⟨some (.imm (tmD t)), ?_⟩
    unfold lfd0
    rw [List.foldl_append]
    rfl
  rintro _ ⟨x, rfl⟩
  refine q_forM (l := b.1) (enc := tmD) (fun pre δ' => ∃ x, δ' = [some (.imm (smD a)), some (.imm (smD b)), some (.imm (am f)), some (.ot (mapV am (pre.foldl (lfdF f) (lfd0 a.1)))), x, none, none]) (evi_sq (by walk_at "ev") (.tup _)) ⟨_, rfl⟩ ?_ ?_
  · rintro pre t _ hp ⟨x, rfl⟩
    have hp2 := hp.length_le
    rw [List.length_append, List.length_singleton] at hp2
    have := l1 pre
    obtain ⟨m1, m2⟩ := h3 pre t hp
    refine ⟨_, _, evg_name, ?_⟩
    refine t_putT (A := Eq (am (pls ((aget (pre.foldl (lfdF f) (lfd0 a.1)) t.1).getD (0, 1)) (tms f t.2)))) (l := mapV am (pre.foldl (lfdF f) (lfd0 a.1))) (k := t.1) rfl ?_ (by walk_at "ev") (by rw [mapV_len]; omega) fun d e => ?_
    · refine evp_callE ((aget (pre.foldl (lfdF f) (lfd0 a.1)) t.1).getD (0, 1), tms f t.2) (eva_cons ?_ (eva_cons (evp_callE (f, t.2) (by walk_at "ev") m1 fun d q => q) eva_nil)) m2 fun d q => q
      refine (evp_get2T (l := mapV am (pre.foldl (lfdF f) (lfd0 a.1))) (k := t.1) (x := am (0, 1)) (.inl rfl) (by walk_at "ev") (evp_tup' (eva_cons evp_int (eva_cons evp_int eva_nil)) (by show 2 ≤ 100000; decide))).to ?_
      rw [aget_mapV]
      cases aget (pre.foldl (lfdF f) (lfd0 a.1)) t.1 <;> rfl
    · subst e
      rw [aput_mapV, List.foldl_append]
      exact ⟨_, rfl⟩
  rintro _ ⟨x, rfl⟩
  refine t_freeze 3 rfl rfl ?_
  generalize hF : b.1.foldl (lfdF f) (lfd0 a.1) = F
  have lF : F.length ≤ 1000 := by have := l1 b.1; rw [hF] at this; omega
  have hkeys : ∀ k ∈ F.map (·.1), k ≠ [] := fun k hk => by
    rw [← hF] at hk
    rcases lfdF_keys hk with h | ⟨t, ht, rfl⟩
    · rcases lfd0_keys h with h | ⟨t, ht, rfl⟩
      · simp at h
      · exact h1 t (List.mem_append_left _ ht)
    · exact h1 t (List.mem_append_right _ ht)
  have fr : ((mapV am F).map (·.1)) = F.map (·.1) := mapV_keys
  refine q_asg (d := .tup ((ltms F).map tmD)) ?_ ?_
  · refine evp_cb (eva_cons (EvP.to (evp_lcE (l := sortA (F.map (·.1))) (enc := adr) (fun k => !decide (((aget F k).getD (0, 1)).1 = 0)) (fun k => tmD (k, (aget F k).getD (0, 1))) ?_ (fun _ _ => offm_none) ?_ ?_) (y := .lst ((ltms F).map tmD)) ?_) eva_nil) (rc_tup (.lst _))
    · refine evi_sq (evp_cb (eva_cons (evp_var rfl) eva_nil) (R := Eq (.lst ((sortA (F.map (·.1))).map adr))) ?_) (.lst _)
      rw [← fr]
      refine rc_sortT ?_ fun p hp => ?_
      · rw [mapV_len]; exact lF
      · exact hkeys _ (by rw [← fr]; exact List.mem_map.mpr ⟨p, hp, rfl⟩)
    · rw [(sortA_perm _).length_eq, List.length_map]; omega
    · intro k hk
      have hk2 := (sortA_perm _).mem_iff.mp hk
      obtain ⟨v, hv⟩ := aget_key hk2
      have hg : aget (mapV am F) k = some (am v) := by rw [aget_mapV, hv]; rfl
      refine ⟨_, _, evg_name, by decide, ?_, fun _ => ?_⟩
      · refine EvB.to (evb_test (evp_op (evp_op (evp_getT (.inr rfl) (evp_var rfl) hg) evp_int (rv_ix (.tup _) rfl)) evp_int (rv_ne (.int _ _)))) ?_
        rw [hv]
        show (!(v.1 == 0)) = !decide (v.1 = 0)
        rfl
      · refine EvP.to (evp_tup' (eva_cons (evp_var rfl) (eva_cons (evp_getT (.inr rfl) (evp_var rfl) hg) eva_nil)) (by show 2 ≤ 100000; decide)) ?_
        rw [hv]; rfl
    · unfold ltms
      rw [List.map_map]
      rfl
  refine t_retE (d := .tup [.tup ((ltms F).map tmD), am (pls a.2 (tms f b.2))]) (evp_tup' (eva_cons (by walk_at "ev") (eva_cons (evp_callE (a.2, tms f b.2) (eva_cons (by walk_at "ev") (eva_cons (evp_callE (f, b.2) (by walk_at "ev") h4 fun d q => q) eva_nil)) h5 fun d q => q) eva_nil)) (by show 2 ≤ 100000; decide)) ?_
  show _ = smD (lawAdd a b f)
  unfold lawAdd
  rw [hF]
  rfl
end
end Tf
/-! text TfZ -/
/-! the law's judges, walked -/
namespace Tf
open PySem PySem.Spec PyProof.Rows L2
local macro_rules | `(tactic| walk_at "ev1") => `(tactic| first
  | with_reducible exact evp_int | with_reducible exact evp_bl | with_reducible exact evp_str | with_reducible exact evp_non | with_reducible exact evp_gamA | with_reducible exact evp_gam | (with_reducible apply evp_var; (with_unfolding_all exact rfl))
  | with_reducible exact eva_nil | with_reducible apply eva_cons
  | with_reducible apply evp_op | (with_reducible apply evp_un (hr := ru_int)) | with_reducible apply evp_cb
  | with_reducible apply evp_tup' | (with_reducible show List.length _ ≤ 100000; simp; done)
  | with_reducible exact rv_int | with_reducible exact rv_bl | with_reducible apply rv_intC | with_reducible exact rv_eq (.int _ _) | with_reducible exact rv_ne (.int _ _)
  | (with_reducible apply rv_ix; (first | (with_unfolding_all exact Sq.tup _) | (with_unfolding_all exact Sq.lst _) | (with_reducible apply Sqx.sq; with_reducible assumption)); (with_unfolding_all exact rfl))
  | with_reducible exact rc_gcd
  | with_reducible exact rc_tupA | with_reducible exact rc_tupM
  | (with_reducible apply rc_tup; (first | (with_unfolding_all exact Sq.tup _) | (with_unfolding_all exact Sq.lst _) | (with_reducible apply Sqx.sq; with_reducible assumption)))
  | (with_reducible apply rc_lst; (first | (with_unfolding_all exact Sq.tup _) | (with_unfolding_all exact Sq.lst _) | (with_reducible apply Sqx.sq; with_reducible assumption)))
  | (with_reducible apply rc_len; (first | (with_unfolding_all exact Sq.tup _) | (with_unfolding_all exact Sq.lst _) | (with_reducible apply Sqx.sq; with_reducible assumption)))
  | with_reducible apply rv_cat
  | with_reducible exact evb_yes
  | with_reducible apply evb_test | with_reducible apply evb_B | with_reducible apply evb_not | with_reducible apply evb_and | with_reducible apply evb_or | with_reducible apply evp_and | with_reducible apply evp_or | with_reducible apply evp_not
  | (with_reducible refine fun _ => ?_))
local macro_rules | `(tactic| walk_at "ev") => `(tactic| repeat' walk_at "ev1")
theorem beq_dec (a b : Int) : (a == b) = decide (a = b) := rfl
/-! ### what they compute -/
def brkS (b : Bd) (p : Pnt) : Bool := decide (0 < (valS b.1 p).1) || (decide ((valS b.1 p).1 = 0) && b.2)
def kepS (bs : List Bd) (p : Pnt) : Bool := bs.all fun b => !brkS b p
def lrfG : List (Bd × Am) → Su → Bool → Bool
  | [], t, st => decide (t.1 = []) && (decide (0 < t.2.1) || (decide (t.2.1 = 0) && st))
  | (b, w) :: r, t, st => if w.1 < 0 then false else lrfG r (lawAdd t b.1 w) (st || (b.2 && decide (0 < w.1)))
def LrfOk : List (Bd × Am) → Su → Prop
  | [], _ => True
  | (b, w) :: r, t => w.1 < 0 ∨ (PreLad (t, b.1, w) ∧ LrfOk r (lawAdd t b.1 w))
section
variable {P : Program} {w : World} {K : PySem.W.Frag} {mg : Str → Option Value} {base : Heap}
abbrev SpKep (K : PySem.W.Frag) : Sp := SpD K (fun a : List Bd × Pnt => [.lst (a.1.map bdD), ptD a.2]) (fun a => ∀ b ∈ a.1, PreVaL (b.1, a.2)) fun a d => d = .bl (kepS a.1 a.2)
theorem ok_law_keeps (T : Tx P K mg base) (C_law_value : Cal P w K mg base 38 "_law_value" ["_law_one", "_law_point"] [] (SpVaL K)) :
    Cal P w K mg base 39 "_law_keeps" ["_law_bounds", "_law_point"] [] (SpKep K) := by
  refine cal_of (k := 38) T.d_law_keeps scLawKeeps (fun _ => rfl) (fun _ _ _ _ _ _ us hl => match us, hl with | [_, _], _ => rfl) fun cdv f A outer s H Q E hr => ?_
  have hu := hu_of hr
  refine ⟨_, (pss_cons (ps_for PassesOwn.never rfl (pi_seq (K := K) (pv 0)) (pg_name (i := 2) scLawKeeps.nd rfl (Or.inl rfl)) (pss_cons (ps_set (i := 3) scLawKeeps.nd rfl (Or.inl rfl) (pe_cal C_law_value hr (by rfl) (pa_cons (pe_ix (ixK (K := K)) (pv 2) pe_int (fun _ _ => rfl)) (pa_cons (pv 1) pa_nil))))
  (pss_one (ps_if (PW.pt (pw_or (pt_cmpR op_gt (pe_ix (ixK (K := K)) (pv 3) pe_int (fun _ _ => rfl)) pe_int (nomark _)) (pw_or1 (PW.pt (pw_and (pt_cmpR op_eq (pe_ix (ixK (K := K)) (pv 3) pe_int (fun _ _ => rfl)) pe_int (nomark _)) (pw_and1 (pt_val (pe_ix (ixK (K := K)) (pv 2) pe_int (fun _ _ => rfl))))))))) (pss_one (ps_ret pe_bl)) pss_nil))))
  (pss_one (ps_ret pe_bl))), fun a ha => ?_⟩
  obtain ⟨bs, p⟩ := a
  have ha : ∀ b ∈ bs, PreVaL (b.1, p) := ha
  try dsimp only [cxK]
  refine q_forM (l := bs) (enc := bdD) (fun pre δ' => (∀ b ∈ pre, brkS b p = false) ∧ ∃ x y, δ' = [some (.imm (.lst (bs.map bdD))), some (.imm (ptD p)), x, y]) (evi_sq (evp_var rfl) (.lst _)) ⟨(fun b h => nomatch h), _, _, rfl⟩ ?_ ?_
  · rintro pre b _ hp ⟨hn, x, y, rfl⟩
    refine ⟨_, _, evg_name, ?_⟩
    refine q_asg (evp_callE (b.1, p) (by walk_at "ev") (ha b (pre_mem hp)) fun d q => q) ?_
    refine t_when (b := brkS b p) (EvB.to (by walk_at "ev") (by rfl)) (fun c => ?_) fun c => ?_
    · refine t_retE (by walk_at "ev") ?_
      show _ = Dat.bl (kepS bs p)
      congr 1
      unfold kepS
      rw [eq_comm, List.all_eq_false]
      exact ⟨b, pre_mem hp, by simp [c]⟩
    · refine ⟨fun b' hb => ?_, _, _, rfl⟩
      rcases List.mem_append.mp hb with h | h
      · exact hn b' h
      · rw [List.mem_singleton.mp h]; exact c
  · rintro _ ⟨hn, x, y, rfl⟩
    refine t_retE (by walk_at "ev") ?_
    show _ = Dat.bl (kepS bs p)
    congr 1
    unfold kepS
    rw [eq_comm, List.all_eq_true]
    exact fun b hb => by rw [hn b hb]; rfl
theorem len_ix {α : Type} {l : List α} {f : α → Dat} {n : Nat} {x : α} (h : l[n]? = some x) : atI (l.map f) (n : Int) = some (f x) := by
  have hl : n < l.length := (List.getElem?_eq_some_iff.mp h).1
  have e : ixN (l.map f).length (n : Int) = some n := by
    rw [List.length_map]
    unfold ixN
    simp
    omega
  unfold L2.atI
  rw [e]
  show (l.map f)[n]? = _
  rw [List.getElem?_map, h]
  rfl
abbrev SpLrf (K : PySem.W.Frag) : Sp := SpD K (fun a : List (Bd × Am) × Dat × List Am => [.lst (a.1.map fun p => bdD p.1), a.2.1]) (fun a => Sq a.2.1 ((a.1.map (·.2) ++ a.2.2).map am) ∧ a.1.length ≤ 1000 ∧ LrfOk a.1 ([], (0, 1))) fun a d => d = .bl (lrfG a.1 ([], (0, 1)) false)
theorem ok_law_refutes (T : Tx P K mg base) (C_law_add : Cal P w K mg base 38 "_law_add" ["_law_one", "_law_two", "_law_factor"] [] (SpLad K)) :
    Cal P w K mg base 39 "_law_refutes" ["_law_bounds", "_law_weights"] [] (SpLrf K) := by
  refine cal_of (k := 38) T.d_law_refutes scLawRefutes (fun _ => rfl) (fun _ _ _ _ _ _ us hl => match us, hl with | [_, _], _ => rfl) fun cdv f A outer s H Q E hr => ?_
  have hu := hu_of hr
  refine ⟨_, (pss_cons (ps_set (i := 2) scLawRefutes.nd rfl (Or.inl rfl) (pe_tup (pa_cons (pe_tup pa_nil) (pa_cons (pe_tup (pa_cons pe_int (pa_cons pe_int pa_nil))) pa_nil))))
  (pss_cons (ps_set (i := 3) scLawRefutes.nd rfl (Or.inl rfl) pe_bl)
  (pss_cons (ps_for PassesOwn.never rfl (pi_range1 rfl T.n_range (pa_cons (pe_callB (cr_len (K := K)) (by rfl) T.n_len (by decide +kernel) (pa_cons (pv 0) pa_nil)) pa_nil)) (pg_name (i := 4) scLawRefutes.nd rfl (Or.inl rfl)) (pss_cons (ps_if (pt_cmpR op_lt (pe_ix (ixK (K := K)) (pe_ix (ixK (K := K)) (pv 1) (pv 4) (fun _ _ => rfl)) pe_int (fun _ _ => rfl)) pe_int (nomark _)) (pss_one (ps_ret pe_bl)) pss_nil)
  (pss_cons (ps_set (i := 2) scLawRefutes.nd rfl (Or.inl rfl) (pe_cal C_law_add hr (by rfl) (pa_cons (pv 2) (pa_cons (pe_ix (ixK (K := K)) (pe_ix (ixK (K := K)) (pv 0) (pv 4) (fun _ _ => rfl)) pe_int (fun _ _ => rfl)) (pa_cons (pe_ix (ixK (K := K)) (pv 1) (pv 4) (fun _ _ => rfl)) pa_nil)))))
  (pss_one (ps_set (i := 3) scLawRefutes.nd rfl (Or.inl rfl) (pe_or (pv 3) (pe_one (pe_and (pe_ix (ixK (K := K)) (pe_ix (ixK (K := K)) (pv 0) (pv 4) (fun _ _ => rfl)) pe_int (fun _ _ => rfl)) (pe_one (pe_cmpR op_gt (pe_ix (ixK (K := K)) (pe_ix (ixK (K := K)) (pv 1) (pv 4) (fun _ _ => rfl)) pe_int (fun _ _ => rfl)) pe_int (nomark _)))))))))))
  (pss_one (ps_ret (pe_and (pe_cmpR op_eq (pe_callB (cr_len (K := K)) (by rfl) T.n_len (by decide +kernel) (pa_cons (pe_ix (ixK (K := K)) (pv 2) pe_int (fun _ _ => rfl)) pa_nil)) pe_int (nomark _)) (pe_one (pe_or (pe_cmpR op_gt (pe_ix (ixK (K := K)) (pe_ix (ixK (K := K)) (pv 2) pe_int (fun _ _ => rfl)) pe_int (fun _ _ => rfl)) pe_int (nomark _)) (pe_one (pe_and (pe_cmpR op_eq (pe_ix (ixK (K := K)) (pe_ix (ixK (K := K)) (pv 2) pe_int (fun _ _ => rfl)) pe_int (fun _ _ => rfl)) pe_int (nomark _)) (pe_one (pv 3)))))))))))), fun a ha => ?_⟩
  obtain ⟨l, d, more⟩ := a
  obtain ⟨h1, h2, h3⟩ := ha
  have h2 : l.length ≤ 1000 := h2
  have h3 : LrfOk l ([], (0, 1)) := h3
  try dsimp only [cxK]
  refine q_asg (d := smD ([], (0, 1))) (EvP.to (by walk_at "ev") (by rfl)) ?_
  refine q_asg (by walk_at "ev") ?_
  refine q_forM (l := List.range l.length) (enc := fun k : Nat => .int (k : Int)) (fun pre δ' => ∃ r t st x, l = l.take pre.length ++ r ∧ r.length + pre.length = l.length ∧ lrfG l ([], (0, 1)) false = lrfG r t st ∧ LrfOk r t ∧ δ' = [some (.imm (.lst (l.map fun p => bdD p.1))), some (.imm d), some (.imm (smD t)), some (.imm (.bl st)), x]) ?_ ⟨l, _, _, _, rfl, rfl, rfl, h3, rfl⟩ ?_ ?_
  · refine evi_rangeN (N := l.length) (eva_cons (EvP.to (evp_cb (eva_cons (evp_var rfl) eva_nil) (rc_len (.lst _))) ?_) eva_nil) (by omega)
    rw [List.length_map]
  · rintro pre k _ hp ⟨r, t, st, x, hl, hlen, hG, hO, rfl⟩
    have hk : k = pre.length := by
      obtain ⟨z, hz⟩ := hp
      have : (List.range l.length)[pre.length]? = some k := by rw [← hz]; simp
      have hlt := (List.getElem?_eq_some_iff.mp this).1
      rw [List.length_range] at hlt
      rw [List.getElem?_range hlt] at this
      exact (Option.some.inj this).symm
    have hlt : pre.length < l.length := by
      have := hp.length_le
      rw [List.length_append, List.length_singleton, List.length_range] at this
      omega
    cases r with
    | nil => rw [List.length_nil] at hlen; omega
    | cons bw r =>
      obtain ⟨b, w⟩ := bw
      have hget : l[k]? = some (b, w) := by
        rw [hk, hl, List.getElem?_append_right (by rw [List.length_take]; omega), List.length_take]
        have : pre.length - min pre.length l.length = 0 := by omega
        rw [this]
        rfl
      have ib : atI (l.map fun p => bdD p.1) (k : Int) = some (bdD b) := len_ix (f := fun p : Bd × Am => bdD p.1) hget
      have iw : atI ((l.map (·.2) ++ more).map am) (k : Int) = some (am w) := by
        refine len_ix (f := am) ?_
        have hkl : k < l.length := by omega
        rw [List.getElem?_append_left (by rw [List.length_map]; exact hkl), List.getElem?_map, hget]
        rfl
      have eb : ∀ {δ : De} (e0 : δ[0]? = some (some (.imm (.lst (l.map fun p => bdD p.1))))) (e4 : δ[4]? = some (some (.imm (.int (k : Int))))), EvP K none (tOp (rIx K) (tVar 0) (tVar 4)) δ (Eq (bdD b)) := fun e0 e4 => evp_op (evp_var e0) (evp_var e4) (rv_ix (.lst _) ib)
      have ew : ∀ {δ : De} (e1 : δ[1]? = some (some (.imm d))) (e4 : δ[4]? = some (some (.imm (.int (k : Int))))), EvP K none (tOp (rIx K) (tVar 1) (tVar 4)) δ (Eq (am w)) := fun e1 e4 => evp_op (evp_var e1) (evp_var e4) (rv_ix h1 iw)
      refine ⟨_, _, evg_name, ?_⟩
      apply q_when (b := decide (w.1 < 0))
      · exact evb_test (evp_op (evp_op (ew rfl rfl) evp_int (rv_ix (.tup _) rfl)) evp_int rv_bl)
      · intro c
        have c : w.1 < 0 := of_decide_eq_true c
        refine t_retE (by walk_at "ev") ?_
        show _ = Dat.bl _
        rw [hG]
        unfold lrfG
        rw [if_pos c]
      intro c
      have c : ¬ w.1 < 0 := of_decide_eq_false c
      rcases hO with hO | ⟨o1, o3⟩
      · exact absurd hO c
      have e2 : lrfG l ([], (0, 1)) false = lrfG r (lawAdd t b.1 w) (st || (b.2 && decide (0 < w.1))) := by
        rw [hG]
        conv => lhs; unfold lrfG
        rw [if_neg c]
      refine q_asg (evp_callE (t, b.1, w) (eva_cons (by walk_at "ev") (eva_cons (evp_op (eb rfl rfl) evp_int (rv_ix (.tup _) rfl)) (eva_cons (ew rfl rfl) eva_nil))) o1 fun d q => q) ?_
      refine t_asg (A := Eq (.bl (st || (b.2 && decide (0 < w.1))))) (evp_or (evp_var rfl) fun _ => evp_and (evp_op (eb rfl rfl) evp_int (rv_ix (.tup _) rfl)) fun _ => evp_op (evp_op (ew rfl rfl) evp_int (rv_ix (.tup _) rfl)) evp_int rv_bl) fun d' e' => ?_
      subst e'
      refine ⟨r, _, _, _, ?_, ?_, e2, o3, rfl⟩
      · rw [List.length_append, List.length_singleton, List.take_add_one, ← hk, hget, List.append_assoc]
        show l = _ ++ ((b, w) :: r)
        rw [hk]
        exact hl
      · rw [List.length_append, List.length_singleton]
        rw [List.length_cons] at hlen
        omega
  · rintro _ ⟨r, t, st, x, hl, hlen, hG, hO, rfl⟩
    rw [List.length_range] at hlen
    have er : r = [] := List.length_eq_zero_iff.mp (by omega)
    subst er
    have hG : lrfG l ([], (0, 1)) false = (decide (t.1 = []) && (decide (0 < t.2.1) || (decide (t.2.1 = 0) && st))) := hG
    refine t_retE (d := .bl (decide (t.1 = []) && (decide (0 < t.2.1) || (decide (t.2.1 = 0) && st)))) (EvP.to (by walk_at "ev") ?_) (by show _ = Dat.bl _; rw [hG])
    rw [List.length_map]
    congr 2
    cases t.1 <;> simp <;> omega
abbrev SpOcc (K : PySem.W.Frag) : Sp := SpD K (fun a : List Bd => [.lst (a.map bdD)]) (fun a => (∀ k ∈ adsA a, AdOk k) ∧ (nubA (adsA a)).length ≤ 1000) fun a d => d = .lst ((nubA (adsA a)).map adr)
theorem nub_app (l : List Ad) (a : Ad) : nubA (l ++ [a]) = if a ∈ nubA l then nubA l else nubA l ++ [a] := by
  unfold nubA
  rw [List.foldl_append]
  rfl
theorem nub_le (l m : List Ad) : (nubA l).length ≤ (nubA (l ++ m)).length := nodup_len (nub_nodup l) fun x hx => (nub_mem _ x).mpr (List.mem_append_left _ ((nub_mem l x).mp hx))
theorem ok_law_occurring (T : Tx P K mg base) : Cal P w K mg base 36 "_law_occurring" ["_law_bounds"] [] (SpOcc K) := by
  refine cal_of (k := 35) T.d_law_occurring scLawOccurring (fun _ => rfl) (fun _ _ _ _ _ _ us hl => match us, hl with | [_], _ => rfl) fun cdv f A outer s H Q E hr => ?_
  have hu := hu_of hr
  refine ⟨_, (pss_cons (ps_set (i := 1) scLawOccurring.nd rfl (Or.inl rfl) (pe_lst pa_nil))
  (pss_cons (ps_for PassesOwn.never rfl (pi_seq (K := K) (pv 0)) (pg_name (i := 2) scLawOccurring.nd rfl (Or.inl rfl)) (pss_one (ps_for PassesOwn.never rfl (pi_seq (K := K) (pe_ix (ixK (K := K)) (pe_ix (ixK (K := K)) (pv 2) pe_int (fun _ _ => rfl)) pe_int (fun _ _ => rfl))) (pg_name (i := 3) scLawOccurring.nd rfl (Or.inl rfl)) (pss_one (ps_if (pt_cmpR (op_notInX (K := K) hr) (pe_ix (ixK (K := K)) (pv 3) pe_int (fun _ _ => rfl)) (pv 1) (by rfl)) (pss_one (ps_expr (pe_bm PySem.F.plainAttrs_list PySem.F.slot_list_append PySem.F.type_list_append mt_append (pv 1) (pa_cons (pe_ix (ixK (K := K)) (pv 3) pe_int (fun _ _ => rfl)) pa_nil)))) pss_nil)))))
  (pss_one (ps_ret (pv 1))))), fun bs ha => ?_⟩
  obtain ⟨h1, h2⟩ := ha
  try dsimp only [cxK]
  refine q_asgOL eo_nil ?_
  refine q_forM (l := bs) (enc := bdD) (fun pre δ' => ∃ x y, δ' = [some (.imm (.lst (bs.map bdD))), some (.ol ((nubA (adsA pre)).map adr)), x, y]) (evi_sq (evp_var rfl) (.lst _)) ⟨_, _, rfl⟩ ?_ ?_
  · rintro pre b _ hp ⟨x, y, rfl⟩
    refine ⟨_, _, evg_name, ?_⟩
    have eads : adsA (pre ++ [b]) = adsA pre ++ b.1.1.map (·.1) := by unfold adsA; rw [List.flatMap_append]; simp
    have sub : ∀ k ∈ adsA (pre ++ [b]), k ∈ adsA bs := fun k hk => by
      obtain ⟨b', hb', hk⟩ := List.mem_flatMap.mp hk
      exact List.mem_flatMap.mpr ⟨b', hp.subset hb', hk⟩
    refine t_forM (l := b.1.1) (enc := tmD) (fun pr δ' => ∃ y, δ' = [some (.imm (.lst (bs.map bdD))), some (.ol ((nubA (adsA pre ++ pr.map (·.1))).map adr)), some (.imm (bdD b)), y]) (evi_sq (by walk_at "ev") (.tup _)) ⟨_, by rw [List.map_nil, List.append_nil]; rfl⟩ ?_ ?_
    · rintro pr t _ hpr ⟨y, rfl⟩
      have tm : t.1 ∈ adsA bs := sub _ (by rw [eads]; exact List.mem_append_right _ (List.mem_map.mpr ⟨t, pre_mem hpr, rfl⟩))
      have okl : ∀ k ∈ nubA (adsA pre ++ pr.map (·.1)), AdOk k := fun k hk => by
        refine h1 k (sub k ?_)
        rw [eads]
        rcases List.mem_append.mp ((nub_mem _ k).mp hk) with z | z
        · exact List.mem_append_left _ z
        · obtain ⟨u, hu, rfl⟩ := List.mem_map.mp z
          exact List.mem_append_right _ (List.mem_map.mpr ⟨u, hpr.subset (List.mem_append_left _ hu), rfl⟩)
      refine ⟨_, _, evg_name, ?_⟩
      have en : nubA (adsA pre ++ (pr ++ [t]).map (·.1)) = if t.1 ∈ nubA (adsA pre ++ pr.map (·.1)) then nubA (adsA pre ++ pr.map (·.1)) else nubA (adsA pre ++ pr.map (·.1)) ++ [t.1] := by
        rw [List.map_append, ← List.append_assoc]
        exact nub_app _ _
      rw [en]
      refine t_when (b := !decide (t.1 ∈ nubA (adsA pre ++ pr.map (·.1)))) (evb_test (evp_notInA (h1 _ tm) okl (by walk_at "ev") (.inl rfl))) (fun c => ?_) fun c => ?_
      · have c : ¬ t.1 ∈ nubA (adsA pre ++ pr.map (·.1)) := by simpa using c
        rw [if_neg c]
        refine t_app (i := 1) rfl (A := Eq (adr t.1)) (by walk_at "ev") ?_ fun d e => ?_
        · rw [List.length_map]
          have := nodup_len (m := nubA (adsA bs)) (nub_nodup (adsA pre ++ pr.map (·.1))) fun k hk => by
            rw [nub_mem]
            refine sub k ?_
            rw [eads]
            rcases List.mem_append.mp ((nub_mem _ k).mp hk) with z | z
            · exact List.mem_append_left _ z
            · obtain ⟨u, hu, rfl⟩ := List.mem_map.mp z
              exact List.mem_append_right _ (List.mem_map.mpr ⟨u, hpr.subset (List.mem_append_left _ hu), rfl⟩)
          omega
        · subst e
          rw [List.map_append]
          exact ⟨_, rfl⟩
      · have c : t.1 ∈ nubA (adsA pre ++ pr.map (·.1)) := by simpa using c
        rw [if_pos c]
        exact ⟨_, rfl⟩
    · rintro _ ⟨y, rfl⟩
      rw [eads]
      exact ⟨_, _, rfl⟩
  · rintro _ ⟨x, y, rfl⟩
    exact t_freeze 1 rfl rfl (t_retE (by walk_at "ev") rfl)
end
end Tf
/-! text TfAA -/
/-! the law's checks of a result, walked -/
namespace Tf
open PySem PySem.Spec PyProof.Rows L2
local macro_rules | `(tactic| walk_at "ev1") => `(tactic| first
  | with_reducible exact evp_int | with_reducible exact evp_bl | with_reducible exact evp_str | with_reducible exact evp_non | with_reducible exact evp_gamA | with_reducible exact evp_gam | (with_reducible apply evp_var; (with_unfolding_all exact rfl))
  | with_reducible exact eva_nil | with_reducible apply eva_cons
  | with_reducible apply evp_op | (with_reducible apply evp_un (hr := ru_int)) | with_reducible apply evp_cb
  | with_reducible apply evp_tup' | (with_reducible show List.length _ ≤ 100000; simp; done)
  | with_reducible exact rv_int | with_reducible exact rv_bl | with_reducible apply rv_intC | with_reducible exact rv_eq (.int _ _) | with_reducible exact rv_ne (.int _ _)
  | (with_reducible apply rv_ix; (first | (with_unfolding_all exact Sq.tup _) | (with_unfolding_all exact Sq.lst _) | (with_reducible apply Sqx.sq; with_reducible assumption)); (with_unfolding_all exact rfl))
  | with_reducible exact rc_gcd
  | with_reducible exact rc_tupA | with_reducible exact rc_tupM
  | (with_reducible apply rc_tup; (first | (with_unfolding_all exact Sq.tup _) | (with_unfolding_all exact Sq.lst _) | (with_reducible apply Sqx.sq; with_reducible assumption)))
  | (with_reducible apply rc_lst; (first | (with_unfolding_all exact Sq.tup _) | (with_unfolding_all exact Sq.lst _) | (with_reducible apply Sqx.sq; with_reducible assumption)))
  | (with_reducible apply rc_len; (first | (with_unfolding_all exact Sq.tup _) | (with_unfolding_all exact Sq.lst _) | (with_reducible apply Sqx.sq; with_reducible assumption)))
  | with_reducible apply rv_cat
  | with_reducible exact evb_yes
  | with_reducible apply evb_test | with_reducible apply evb_B | with_reducible apply evb_not | with_reducible apply evb_and | with_reducible apply evb_or | with_reducible apply evp_and | with_reducible apply evp_or | with_reducible apply evp_not
  | (with_reducible refine fun _ => ?_))
local macro_rules | `(tactic| walk_at "ev") => `(tactic| repeat' walk_at "ev1")
section
variable {K : PySem.W.Frag} {δ : De} {ta : TE} {ds : List Dat} {l : List (Ad × Dat)} {i : Int}
theorem kit_tt : PySem.W.kitOne K (.type "tuple") (.type "tuple") = some true := by rfl
theorem kit_ii : PySem.W.kitOne K (.type "int") (.type "int") = some true := by rfl
theorem kit_ib : PySem.W.kitOne K (.type "int") (.type "bool") = some false := by rfl
theorem kit_dd : PySem.W.kitOne K (.type "dict") (.type "dict") = some true := by rfl
theorem isi_tup (h : EvP K none ta δ (Eq (.tup ds))) : EvP K none (tCB (rIsi K) (tCons ta (tCons (tC (.ty "tuple")) tNil))) δ (Eq (.bl true)) := evp_isi h kit_tt
end
theorem any_all {α : Type} (f : α → Bool) : ∀ l : List α, (!(l.any ((fun c => c == false) ∘ f))) = l.all f
  | [] => rfl
  | b :: l => by
    rw [List.any_cons, List.all_cons, Bool.not_or, any_all f l]
    congr 1
    show (!(f b == false)) = _
    cases f b <;> rfl
def isA (a : Am) : Bool := decide (amt a.1 a.2 = a)
def GoodA (a : Am) : Prop := 0 < a.2 ∧ Lt2 a.2 499000 ∧ amt a.1 a.2 = a
abbrev ResX := List Am ⊕ Pnt
def resD : ResX → Dat
  | .inl ws => .tup [.non, .tup (ws.map am)]
  | .inr p => .tup [ptD p, .non]
def rightS (bs : List Bd) : ResX → Bool
  | .inl ws => lrfG (bs.zip ws) ([], (0, 1)) false
  | .inr p => kepS bs p
def PreRight (bs : List Bd) : ResX → Prop
  | .inl ws => ws.length = bs.length ∧ bs.length ≤ 1000 ∧ (∀ w ∈ ws, GoodA w) ∧ LrfOk (bs.zip ws) ([], (0, 1))
  | .inr p => (∀ k ∈ adsA bs, AdOk k) ∧ (nubA (adsA bs)).length ≤ 1000 ∧ p.length = (nubA (adsA bs)).length ∧ (∀ a ∈ adsA bs, ∃ v, aget p a = some v ∧ GoodA v) ∧ ∀ b ∈ bs, PreVaL (b.1, p)
section
variable {P : Program} {w : World} {K : PySem.W.Frag} {mg : Str → Option Value} {base : Heap}
abbrev SpWho (K : PySem.W.Frag) : Sp := SpD K (fun i : Int => [.int i]) (fun _ => True) fun _ d => d = .bl true
theorem ok_law_whole (T : Tx P K mg base) : Cal P w K mg base 36 "_law_whole" ["_law_value_here"] [] (SpWho K) := by
  refine cal_of (k := 35) T.d_law_whole scLawWhole (fun _ => rfl) (fun _ _ _ _ _ _ us hl => match us, hl with | [_], _ => rfl) fun cdv f A outer s H Q E hr => ?_
  have hu := hu_of hr
  refine ⟨_, (pss_one (ps_ret (pe_and (pe_callB (cr_isi (K := K)) (by rfl) T.n_isinstance (by decide +kernel) (pa_cons (pv 0) (pa_cons (pe_bltn (v := .ty "int") (by rfl) T.n_int (by decide +kernel) rfl) pa_nil))) (pe_one (pe_not (pe_callB (cr_isi (K := K)) (by rfl) T.n_isinstance (by decide +kernel) (pa_cons (pv 0) (pa_cons (pe_bltn (v := .ty "bool") (by rfl) T.n_bool (by decide +kernel) rfl) pa_nil)))))))), fun i ha => ?_⟩
  try dsimp only [cxK]
  exact t_retE (evp_and (evp_isi (d := .int i) (evp_var rfl) kit_ii) fun _ => evp_not (evp_isi (d := .int i) (evp_var rfl) kit_ib)) rfl
abbrev SpIsA (K : PySem.W.Frag) : Sp := SpD K (fun a : Am => [am a]) GoodA fun _ d => d = .bl true
theorem ok_law_is_amount (T : Tx P K mg base) (C_law_whole : Cal P w K mg base 36 "_law_whole" ["_law_value_here"] [] (SpWho K)) (C_law_amount : Cal P w K mg base 36 "_law_amount" ["_law_top", "_law_low"] [] (SpLam K)) :
    Cal P w K mg base 37 "_law_is_amount" ["_law_value_here"] [] (SpIsA K) := by
  refine cal_of (k := 36) T.d_law_is_amount scLawIsAmount (fun _ => rfl) (fun _ _ _ _ _ _ us hl => match us, hl with | [_], _ => rfl) fun cdv f A outer s H Q E hr => ?_
  have hu := hu_of hr
  refine ⟨_, (pss_cons (ps_if (PW.pt (pw_or (pt_not (pt_val (pe_callB (cr_isi (K := K)) (by rfl) T.n_isinstance (by decide +kernel) (pa_cons (pv 0) (pa_cons (pe_bltn (v := .ty "tuple") (by rfl) T.n_tuple (by decide +kernel) rfl) pa_nil))))) (pw_or (pt_cmpR op_ne (pe_callB (cr_len (K := K)) (by rfl) T.n_len (by decide +kernel) (pa_cons (pv 0) pa_nil)) pe_int (nomark _)) (pw_or (pt_not (pt_val (pe_cal C_law_whole hr (by rfl) (pa_cons (pe_ix (ixK (K := K)) (pv 0) pe_int (fun _ _ => rfl)) pa_nil)))) (pw_or1 (pt_not (pt_val (pe_cal C_law_whole hr (by rfl) (pa_cons (pe_ix (ixK (K := K)) (pv 0) pe_int (fun _ _ => rfl)) pa_nil))))))))) (pss_one (ps_ret pe_bl)) pss_nil)
  (pss_one (ps_ret (pe_and (pe_cmpR op_ge (pe_ix (ixK (K := K)) (pv 0) pe_int (fun _ _ => rfl)) pe_int (nomark _)) (pe_one (pe_cmpR (op_eqX (K := K) hr) (pe_cal C_law_amount hr (by rfl) (pa_cons (pe_ix (ixK (K := K)) (pv 0) pe_int (fun _ _ => rfl)) (pa_cons (pe_ix (ixK (K := K)) (pv 0) pe_int (fun _ _ => rfl)) pa_nil))) (pv 0) (nomark _))))))), fun a ha => ?_⟩
  obtain ⟨h1, h2, h3⟩ := ha
  try dsimp only [cxK]
  refine q_skip (EvB.to (evb_or (evb_not (evb_test (isi_tup (ds := [.int a.1, .int a.2]) (evp_var rfl)))) fun _ => evb_or (by walk_at "ev") fun _ => evb_or (evb_not (evb_test (evp_callE a.1 (by walk_at "ev") trivial fun d q => q))) fun _ => evb_not (evb_test (evp_callE a.2 (by walk_at "ev") trivial fun d q => q))) (by rfl)) ?_
  refine t_retE (evp_and (by walk_at "ev") fun _ => evp_op (evp_callE (a.1, a.2) (by walk_at "ev") ⟨h1, h2⟩ fun d q => q) (evp_var (d := am a) rfl) (rv_eqAm _ _)) ?_
  rw [decide_eq_true (show (1 : Int) ≤ a.2 by omega)]
  show Dat.bl (true && decide (amt a.1 a.2 = a)) = _
  rw [h3]
  simp
abbrev SpRig (K : PySem.W.Frag) : Sp := SpD K (fun a : List Bd × ResX => [resD a.2, .lst (a.1.map bdD)]) (fun a => PreRight a.1 a.2) fun a d => d = .bl (rightS a.1 a.2)
theorem ok_law_right (T : Tx P K mg base) (C_law_is_amount : Cal P w K mg base 37 "_law_is_amount" ["_law_value_here"] [] (SpIsA K)) (C_law_refutes : Cal P w K mg base 39 "_law_refutes" ["_law_bounds", "_law_weights"] [] (SpLrf K))
    (C_law_occurring : Cal P w K mg base 36 "_law_occurring" ["_law_bounds"] [] (SpOcc K)) (C_law_keeps : Cal P w K mg base 39 "_law_keeps" ["_law_bounds", "_law_point"] [] (SpKep K)) :
    Cal P w K mg base 40 "_law_right" ["_law_actual", "_law_bounds"] [] (SpRig K) := by
  refine cal_of (k := 39) T.d_law_right scLawRight (fun _ => rfl) (fun _ _ _ _ _ _ us hl => match us, hl with | [_, _], _ => rfl) fun cdv f A outer s H Q E hr => ?_
  have hu := hu_of hr
  refine ⟨_, (pss_cons (ps_if (PW.pt (pw_or (pt_not (pt_val (pe_callB (cr_isi (K := K)) (by rfl) T.n_isinstance (by decide +kernel) (pa_cons (pv 0) (pa_cons (pe_bltn (v := .ty "tuple") (by rfl) T.n_tuple (by decide +kernel) rfl) pa_nil))))) (pw_or (pt_cmpR op_ne (pe_callB (cr_len (K := K)) (by rfl) T.n_len (by decide +kernel) (pa_cons (pv 0) pa_nil)) pe_int (nomark _)) (pw_or1 (pt_cmpR op_eq (pe_cmpR op_isNo (pe_ix (ixK (K := K)) (pv 0) pe_int (fun _ _ => rfl)) pe_non (nomark _)) (pe_cmpR op_isNo (pe_ix (ixK (K := K)) (pv 0) pe_int (fun _ _ => rfl)) pe_non (nomark _)) (nomark _)))))) (pss_one (ps_ret pe_bl)) pss_nil)
  (pss_cons (ps_if (pt_cmpR op_isNo (pe_ix (ixK (K := K)) (pv 0) pe_int (fun _ _ => rfl)) pe_non (nomark _)) (pss_cons (ps_if (PW.pt (pw_or (pt_not (pt_val (pe_callB (cr_isi (K := K)) (by rfl) T.n_isinstance (by decide +kernel) (pa_cons (pe_ix (ixK (K := K)) (pv 0) pe_int (fun _ _ => rfl)) (pa_cons (pe_bltn (v := .ty "tuple") (by rfl) T.n_tuple (by decide +kernel) rfl) pa_nil))))) (pw_or1 (pt_cmpR op_ne (pe_callB (cr_len (K := K)) (by rfl) T.n_len (by decide +kernel) (pa_cons (pe_ix (ixK (K := K)) (pv 0) pe_int (fun _ _ => rfl)) pa_nil)) (pe_callB (cr_len (K := K)) (by rfl) T.n_len (by decide +kernel) (pa_cons (pv 1) pa_nil)) (nomark _))))) (pss_one (ps_ret pe_bl)) pss_nil)
  (pss_one (ps_ret (pe_and (pe_cmpR op_eq (pe_callB (cr_len (K := K)) (by rfl) T.n_len (by decide +kernel) (pa_cons (pe_lc (own := [("_law_one", 5)]) rfl scLawRight.nd (pi_seq (K := K) (pe_ix (ixK (K := K)) (pv 0) pe_int (fun _ _ => rfl))) (blkOk_by (own := [("_law_one", 5)]) (N := nLawRight) (sc := defScope sLawRight) (by decide +kernel)) (fun _ _ _ _ _ => (pg_name (i := 5) scLawRight.nd rfl (Or.inl rfl))) (fun _ _ _ _ _ => (pts_one (pt_not (pt_val (pe_cal C_law_is_amount (hr.mono (by decide)) (by rfl) (pa_cons (pv 5) pa_nil)))))) (fun _ _ _ _ _ => (pv 5))) pa_nil)) pe_int (nomark _)) (pe_one (pe_cal C_law_refutes hr (by rfl) (pa_cons (pv 1) (pa_cons (pe_ix (ixK (K := K)) (pv 0) pe_int (fun _ _ => rfl)) pa_nil)))))))) pss_nil)
  (pss_cons (ps_set (i := 2) scLawRight.nd rfl (Or.inl rfl) (pe_ix (ixK (K := K)) (pv 0) pe_int (fun _ _ => rfl)))
  (pss_cons (ps_set (i := 3) scLawRight.nd rfl (Or.inl rfl) (pe_cal C_law_occurring (hr.mono (by decide)) (by rfl) (pa_cons (pv 1) pa_nil)))
  (pss_cons (ps_if (PW.pt (pw_or (pt_not (pt_val (pe_callB (cr_isi (K := K)) (by rfl) T.n_isinstance (by decide +kernel) (pa_cons (pv 2) (pa_cons (pe_bltn (v := .ty "dict") (by rfl) T.n_dict (by decide +kernel) rfl) pa_nil))))) (pw_or1 (pt_cmpR op_ne (pe_callB call_len_dT (by rfl) T.n_len (by decide +kernel) (pa_cons (pv 2) pa_nil)) (pe_callB (cr_len (K := K)) (by rfl) T.n_len (by decide +kernel) (pa_cons (pv 3) pa_nil)) (nomark _))))) (pss_one (ps_ret pe_bl)) pss_nil)
  (pss_cons (ps_for PassesOwn.never rfl (pi_seq (K := K) (pv 3)) (pg_name (i := 4) scLawRight.nd rfl (Or.inl rfl)) (pss_one (ps_if (PW.pt (pw_or (pt_cmp (pc_dnotin hu (pv 4) (pv 2))) (pw_or1 (pt_not (pt_val (pe_cal C_law_is_amount (hr.mono (by decide)) (by rfl) (pa_cons (pe_dget hu (pv 2) (pv 4) (fun _ _ => rfl)) pa_nil))))))) (pss_one (ps_ret pe_bl)) pss_nil)))
  (pss_one (ps_ret (pe_cal C_law_keeps hr (by rfl) (pa_cons (pv 1) (pa_cons (pv 2) pa_nil))))))))))), fun a ha => ?_⟩
  obtain ⟨bs, x⟩ := a
  try dsimp only [cxK]
  cases x with
  | inl ws =>
    obtain ⟨h1, h2, h3, h4⟩ := ha
    have h1 : ws.length = bs.length := h1
    have h2 : bs.length ≤ 1000 := h2
    have e0 : ∀ {δ : De}, δ[0]? = some (some (.imm (resD (.inl ws)))) → EvP K none (tOp (rIx K) (tVar 0) (tC (.int 0))) δ (Eq .non) := fun e => evp_op (evp_var e) evp_int (rv_ix (.tup _) rfl)
    have e1 : ∀ {δ : De}, δ[0]? = some (some (.imm (resD (.inl ws)))) → EvP K none (tOp (rIx K) (tVar 0) (tC (.int 1))) δ (Eq (.tup (ws.map am))) := fun e => evp_op (evp_var e) evp_int (rv_ix (.tup _) rfl)
    refine q_skip (EvB.to (evb_or (evb_not (evb_test (isi_tup (ds := [.non, .tup (ws.map am)]) (evp_var rfl)))) fun _ => evb_or (by walk_at "ev") fun _ => evb_test (evp_op (evp_op (e0 rfl) evp_non rv_isN) (evp_op (e1 rfl) evp_non rv_isN) (rv_eq (.bl _ _)))) (by rfl)) ?_
    refine q_when (b := true) (evb_test (evp_op (e0 rfl) evp_non rv_isN)) (fun _ => ?_) fun c => nomatch c
    refine q_skip (EvB.to (evb_or (evb_not (evb_test (isi_tup (e1 rfl)))) fun _ => evb_test (evp_op (evp_cb (eva_cons (e1 rfl) eva_nil) (rc_len (.tup _))) (evp_cb (eva_cons (evp_var rfl) eva_nil) (rc_len (.lst _))) (rv_ne (.int _ _)))) ?_) ?_
    · rw [List.length_map, List.length_map, h1]
      simp
    have hlc : EvP K none (tLc (iSeq K (tOp (rIx K) (tVar 0) (tC (.int 1)))) (gName 5) (tNot (tTest (tCall (SpIsA K) [] E0 (tCons (tVar 5) tNil)))) (tVar 5) [5]) (startD nLawRight.length [resD (.inl ws), .lst (bs.map bdD)]) (Eq (.lst ((ws.filter fun _ => false).map am))) := by
      refine evp_lcE (l := ws) (enc := am) (fun _ => false) am (evi_sq (e1 rfl) (.tup _)) (fun _ _ => offm_none) (by omega) fun w hw => ⟨_, _, evg_name, by decide, evb_not (evb_test (evp_callE (r := .bl true) w ?_ (h3 w hw) fun d q => q)), fun _ => evp_var rfl⟩
      walk_at "ev"
    refine t_retE (d := .bl (lrfG (bs.zip ws) ([], (0, 1)) false)) (EvP.to (evp_and (evp_op (evp_cb (eva_cons hlc eva_nil) (rc_len (.lst _))) evp_int (rv_eq (.int _ _))) fun _ => evp_callE (bs.zip ws, .tup (ws.map am), []) (eva_cons (EvP.to (evp_var rfl) ?_) (eva_cons (e1 rfl) eva_nil)) ⟨?_, ?_, h4⟩ fun d q => q) ?_) rfl
    · show Dat.lst (bs.map bdD) = Dat.lst ((bs.zip ws).map fun p => bdD p.1)
      have : (bs.zip ws).map (·.1) = bs := List.map_fst_zip (by omega)
      conv => lhs; rw [← this, List.map_map]
      rfl
    · show Sq (Dat.tup (ws.map am)) (((bs.zip ws).map (fun p : Bd × Am => p.2) ++ []).map am)
      rw [List.append_nil, List.map_snd_zip (by omega)]
      exact .tup _
    · show (bs.zip ws).length ≤ 1000
      rw [List.length_zip]
      omega
    · rw [List.filter_eq_nil_iff.mpr (by simp)]
      rfl
  | inr p =>
    obtain ⟨h1, h2, h3, h4, h5⟩ := ha
    have e0 : ∀ {δ : De}, δ[0]? = some (some (.imm (resD (.inr p)))) → EvP K none (tOp (rIx K) (tVar 0) (tC (.int 0))) δ (Eq (ptD p)) := fun e => evp_op (evp_var e) evp_int (rv_ix (.tup _) rfl)
    have e1 : ∀ {δ : De}, δ[0]? = some (some (.imm (resD (.inr p)))) → EvP K none (tOp (rIx K) (tVar 0) (tC (.int 1))) δ (Eq .non) := fun e => evp_op (evp_var e) evp_int (rv_ix (.tup _) rfl)
    refine q_skip (EvB.to (evb_or (evb_not (evb_test (isi_tup (ds := [ptD p, .non]) (evp_var rfl)))) fun _ => evb_or (by walk_at "ev") fun _ => evb_test (evp_op (evp_op (e0 rfl) evp_non rv_isN) (evp_op (e1 rfl) evp_non rv_isN) (rv_eq (.bl _ _)))) (by rfl)) ?_
    refine q_when (b := false) (evb_test (evp_op (e0 rfl) evp_non rv_isN)) (fun c => nomatch c) fun _ => ?_
    refine q_asg (e0 rfl) ?_
    refine q_asg (evp_callE bs (by walk_at "ev") ⟨h1, h2⟩ fun d q => q) ?_
    refine q_skip (EvB.to (evb_or (evb_not (evb_test (evp_isi (d := ptD p) (evp_var rfl) kit_dd))) fun _ => evb_test (evp_op (evp_lenT (l := mapV am p) (evp_var rfl)) (evp_cb (eva_cons (evp_var rfl) eva_nil) (rc_len (.lst _))) (rv_ne (.int _ _)))) ?_) ?_
    · rw [mapV_len, List.length_map, h3]
      simp
    refine q_forM (l := nubA (adsA bs)) (enc := adr) (fun pre δ' => ∃ x, δ' = [some (.imm (resD (.inr p))), some (.imm (.lst (bs.map bdD))), some (.imm (ptD p)), some (.imm (.lst ((nubA (adsA bs)).map adr))), x, none]) (evi_sq (evp_var rfl) (.lst _)) ⟨_, rfl⟩ ?_ ?_
    · rintro pre a _ hp ⟨x, rfl⟩
      obtain ⟨v, hv, gv⟩ := h4 a ((nub_mem _ a).mp (pre_mem hp))
      refine ⟨_, _, evg_name, ?_⟩
      refine t_when (b := false) (EvB.to (evb_or (evb_test (evp_notInT (l := mapV am p) (k := a) (by walk_at "ev") (.inr rfl))) fun _ => evb_not (evb_test (evp_callE v (eva_cons (evp_getT (l := mapV am p) (k := a) (.inr rfl) (by walk_at "ev") (by rw [aget_mapV, hv]; rfl)) eva_nil) gv fun d q => q))) ?_) (fun c => nomatch c) fun _ => ⟨_, rfl⟩
      rw [aget_mapV, hv]
      rfl
    · rintro _ ⟨x, rfl⟩
      refine t_ret (A := Eq (.bl (kepS bs p))) (evp_callE (bs, p) (by walk_at "ev") h5 fun d q => q) fun d e => ?_
      exact e.symm
/-- what the law keeps of a result -/
def toldD : ResX → Dat
  | .inl ws => .tup [.non, .tup (ws.map am)]
  | .inr p => .tup [.tup (p.map tmD), .non]
def confS (bs : List Bd) : ResX → Bool
  | .inl ws => refG (bs.zip ws) ([], (0, 1)) false
  | .inr p => bs.all fun b => hldS b (p.foldl (fun acc t => aput acc t.1 t.2) [])
def PreConf (bs : List Bd) : ResX → Prop
  | .inl ws => ws.length = bs.length ∧ RefOk (bs.zip ws) ([], (0, 1))
  | .inr p => p.length ≤ 1000 ∧ bs.length ≤ 1000 ∧ ∀ b ∈ bs, PreVal (b.1, p.foldl (fun acc t => aput acc t.1 t.2) [])
abbrev SpCon (K : PySem.W.Frag) : Sp := SpD K (fun a : List Bd × ResX => [.lst (a.1.map bdD), toldD a.2]) (fun a => PreConf a.1 a.2) fun a d => d = .bl (confS a.1 a.2)
theorem ok_law_confirmed (T : Tx P K mg base) (C_holds : Cal P w K mg base 39 "holds" ["bound", "point"] [] (SpD K (fun a : Bd × Pnt => [bdD a.1, ptD a.2]) (fun a => PreVal (a.1.1, a.2)) fun a d => d = .bl (hldS a.1 a.2)))
    (C_refutes : Cal P w K mg base 39 "refutes" ["bounds", "weights"] [] (SpD K (fun a : List (Bd × Am) => [.tup (a.map fun p => bdD p.1), .tup (a.map fun p => am p.2)]) (fun a => RefOk a ([], (0, 1))) fun a d => d = .bl (refG a ([], (0, 1)) false))) :
    Cal P w K mg base 40 "_law_confirmed" ["_law_bounds", "_law_told"] [] (SpCon K) := by
  refine cal_of (k := 39) T.d_law_confirmed scLawConfirmed (fun _ => rfl) (fun _ _ _ _ _ _ us hl => match us, hl with | [_, _], _ => rfl) fun cdv f A outer s H Q E hr => ?_
  have hu := hu_of hr
  refine ⟨_, (pss_cons (ps_if (pt_cmpR op_isNo (pe_ix (ixK (K := K)) (pv 1) pe_int (fun _ _ => rfl)) pe_non (nomark _)) (pss_one (ps_ret (pe_cmpR op_isBl (pe_cal C_refutes hr (by rfl) (pa_cons (pe_callTy (cr_tup (K := K)) (by rfl) T.n_tuple (by decide +kernel) (pa_cons (pv 0) pa_nil)) (pa_cons (pe_ix (ixK (K := K)) (pv 1) pe_int (fun _ _ => rfl)) pa_nil))) pe_bl (nomark _)))) pss_nil)
  (pss_cons (ps_set (i := 2) scLawConfirmed.nd rfl (Or.inr rfl) pe_dnewT)
  (pss_cons (ps_for PassesOwn.never rfl (pi_seq (K := K) (pe_ix (ixK (K := K)) (pv 1) pe_int (fun _ _ => rfl))) (pg_name (i := 3) scLawConfirmed.nd rfl (Or.inl rfl)) (pss_one (ps_dput hu (pv 2) (pe_ix (ixK (K := K)) (pv 3) pe_int (fun _ _ => rfl)) (pe_ix (ixK (K := K)) (pv 3) pe_int (fun _ _ => rfl)) rfl)))
  (pss_one (ps_ret (pe_cmpR (op_notInB (K := K)) pe_bl (pe_lc (own := [("_law_bound", 4)]) rfl scLawConfirmed.nd (pi_seq (K := K) (pv 0)) (blkOk_by (own := [("_law_bound", 4)]) (N := nLawConfirmed) (sc := defScope sLawConfirmed) (by decide +kernel)) (fun _ _ _ _ _ => (pg_name (i := 4) scLawConfirmed.nd rfl (Or.inl rfl))) (fun _ _ _ _ _ => pts_nil) (fun _ _ _ _ _ => (pe_cmpR op_isBl (pe_cal C_holds hr (by rfl) (pa_cons (pv 4) (pa_cons (pv 2) pa_nil))) pe_bl (nomark _)))) (by rfl))))))), fun a ha => ?_⟩
  obtain ⟨bs, x⟩ := a
  try dsimp only [cxK]
  cases x with
  | inl ws =>
    obtain ⟨h1, h2⟩ := ha
    have h1 : ws.length = bs.length := h1
    refine q_when (b := true) (evb_test (evp_op (evp_op (evp_var (d := toldD (.inl ws)) rfl) evp_int (rv_ix (.tup _) rfl)) evp_non rv_isN)) (fun _ => ?_) fun c => nomatch c
    refine t_retE (d := .bl (refG (bs.zip ws) ([], (0, 1)) false)) (EvP.to (evp_op (evp_callE (bs.zip ws) (eva_cons (EvP.to (evp_cb (eva_cons (evp_var rfl) eva_nil) (rc_tup (.lst _))) ?_) (eva_cons (EvP.to (evp_op (evp_var (d := toldD (.inl ws)) rfl) evp_int (rv_ix (.tup _) rfl)) ?_) eva_nil)) h2 fun d q => q) evp_bl rv_isB) ?_) rfl
    · show Dat.tup (bs.map bdD) = Dat.tup ((bs.zip ws).map fun p => bdD p.1)
      have : (bs.zip ws).map (·.1) = bs := List.map_fst_zip (by omega)
      conv => lhs; rw [← this, List.map_map]
      rfl
    · show Dat.tup (ws.map am) = Dat.tup ((bs.zip ws).map fun p => am p.2)
      have : (bs.zip ws).map (·.2) = ws := List.map_snd_zip (by omega)
      conv => lhs; rw [← this, List.map_map]
      rfl
    · cases refG (bs.zip ws) ([], (0, 1)) false <;> rfl
  | inr p =>
    obtain ⟨h1, h2, h3⟩ := ha
    have h1 : p.length ≤ 1000 := h1
    have h2 : bs.length ≤ 1000 := h2
    have h3 : ∀ b ∈ bs, PreVal (b.1, p.foldl (fun (acc : Pnt) t => aput acc t.1 t.2) []) := h3
    refine q_when (b := false) (evb_test (evp_op (evp_op (evp_var (d := toldD (.inr p)) rfl) evp_int (rv_ix (.tup _) rfl)) evp_non rv_isN)) (fun c => nomatch c) fun _ => ?_
    refine q_asgOT eo_dt fun kvs e => ?_
    subst e
    have l0 : ∀ l : List Tm, (l.foldl (fun (acc : Pnt) t => aput acc t.1 t.2) []).length ≤ l.length := fun l => by
      have := fold_aput_len (fun (acc : Pnt) (t : Tm) => aput acc t.1 t.2) (fun acc x => aput_len _ _ _) l []
      have e0 : ([] : Pnt).length = 0 := rfl
      omega
    refine q_forM (l := p) (enc := tmD) (fun pre δ' => ∃ x, δ' = [some (.imm (.lst (bs.map bdD))), some (.imm (toldD (.inr p))), some (.ot (mapV am (pre.foldl (fun (acc : Pnt) t => aput acc t.1 t.2) []))), x, none]) (evi_sq (evp_op (evp_var (d := toldD (.inr p)) rfl) evp_int (rv_ix (.tup _) rfl)) (.tup _)) ⟨_, rfl⟩ ?_ ?_
    · rintro pre t _ hp ⟨x, rfl⟩
      have hp2 := hp.length_le
      rw [List.length_append, List.length_singleton] at hp2
      have := l0 pre
      refine ⟨_, _, evg_name, ?_⟩
      refine t_putT (A := Eq (am t.2)) (l := mapV am (pre.foldl (fun (acc : Pnt) t => aput acc t.1 t.2) [])) (k := t.1) rfl (by walk_at "ev") (by walk_at "ev") (by rw [mapV_len]; exact Nat.lt_of_le_of_lt this (by omega)) fun d e => ?_
      subst e
      rw [aput_mapV, List.foldl_append]
      exact ⟨_, rfl⟩
    · rintro _ ⟨x, rfl⟩
      refine t_freeze 2 rfl rfl ?_
      generalize hp : p.foldl (fun (acc : Pnt) t => aput acc t.1 t.2) [] = q at *
      refine t_retE (d := .bl (bs.all fun b => hldS b q)) (EvP.to (evp_op evp_bl (EvP.to (evp_lcA (l := bs) (enc := bdD) (fun b => .bl (hldS b q)) (evi_sq (evp_var rfl) (.lst _)) (fun _ _ => offm_none) (by omega) fun b hb => ⟨_, _, evg_name, by decide, EvP.to (evp_op (evp_callE (b, q) (by walk_at "ev") (h3 b hb) fun d q => q) evp_bl rv_isB) (by cases hldS b q <;> rfl)⟩) (y := .lst ((bs.map fun b => hldS b q).map .bl)) (by rw [List.map_map]; rfl)) rv_notInB) ?_) ?_
      · congr 1
        rw [List.any_map]
        exact any_all (fun b => hldS b q) bs
      · show _ = Dat.bl (confS bs (.inr p))
        unfold confS
        rw [← hp]
end
end Tf
/-! text TfAB -/
/-! the law's copy of the bounds in lists and tuples, walked -/
namespace Tf
open PySem PySem.Spec PyProof.Rows L2
local macro_rules | `(tactic| walk_at "ev1") => `(tactic| first
  | with_reducible exact evp_int | with_reducible exact evp_bl | with_reducible exact evp_str | with_reducible exact evp_non | with_reducible exact evp_gamA | with_reducible exact evp_gam | (with_reducible apply evp_var; (with_unfolding_all exact rfl))
  | with_reducible exact eva_nil | with_reducible apply eva_cons
  | with_reducible apply evp_op | (with_reducible apply evp_un (hr := ru_int)) | with_reducible apply evp_cb
  | with_reducible apply evp_tup' | (with_reducible show List.length _ ≤ 100000; simp; done)
  | with_reducible exact rv_int | with_reducible exact rv_bl | with_reducible apply rv_intC | with_reducible exact rv_eq (.int _ _) | with_reducible exact rv_ne (.int _ _)
  | (with_reducible apply rv_ix; (first | (with_unfolding_all exact Sq.tup _) | (with_unfolding_all exact Sq.lst _) | (with_reducible apply Sqx.sq; with_reducible assumption)); (with_unfolding_all exact rfl))
  | with_reducible exact rc_gcd
  | with_reducible exact rc_tupA | with_reducible exact rc_tupM
  | (with_reducible apply rc_tup; (first | (with_unfolding_all exact Sq.tup _) | (with_unfolding_all exact Sq.lst _) | (with_reducible apply Sqx.sq; with_reducible assumption)))
  | (with_reducible apply rc_lst; (first | (with_unfolding_all exact Sq.tup _) | (with_unfolding_all exact Sq.lst _) | (with_reducible apply Sqx.sq; with_reducible assumption)))
  | (with_reducible apply rc_len; (first | (with_unfolding_all exact Sq.tup _) | (with_unfolding_all exact Sq.lst _) | (with_reducible apply Sqx.sq; with_reducible assumption)))
  | with_reducible apply rv_cat
  | with_reducible exact evb_yes
  | with_reducible apply evb_test | with_reducible apply evb_B | with_reducible apply evb_not | with_reducible apply evb_and | with_reducible apply evb_or | with_reducible apply evp_and | with_reducible apply evp_or | with_reducible apply evp_not
  | (with_reducible refine fun _ => ?_))
local macro_rules | `(tactic| walk_at "ev") => `(tactic| repeat' walk_at "ev1")
mutual
/-- the copy: which tuples become lists -/
def liD (row : List Int) (a : Int) : Dat → Dat
  | .tup ds => if row.getD (a % 60).toNat 0 % 2 = 0 then .lst (liDL row a 0 ds) else .tup (liDL row a 0 ds)
  | d => d
def liDL (row : List Int) (a : Int) (k : Nat) : List Dat → List Dat
  | [] => []
  | d :: ds => liD row (3 * a + k + 1) d :: liDL row a (k + 1) ds
end
theorem liDL_idx (row : List Int) (a : Int) : ∀ (ds : List Dat) (k : Nat), liDL row a k ds = ds.mapIdx fun i d => liD row (3 * a + ((k + i : Nat) : Int) + 1) d
  | [], k => by rw [liDL]; rfl
  | d :: ds, k => by
    rw [liDL, liDL_idx row a ds (k + 1), List.mapIdx_cons]
    congr 1
    exact List.mapIdx_eq_mapIdx_iff.mpr fun i _ => by rw [show k + 1 + i = k + (i + 1) by omega]
/-- tuples in tuples, n deep -/
def TD : Nat → Dat → Prop
  | _, .non => True
  | _, .bl _ => True
  | _, .int _ => True
  | _, .str _ => True
  | n + 1, .tup ds => ds.length ≤ 1000 ∧ ∀ x ∈ ds, TD n x
  | _, _ => False
/-- a value that is no list, no tuple, no dict -/
def LeafV : V → Prop
  | .non => True
  | .bl _ => True
  | .int _ => True
  | .str _ => True
  | _ => False
/-- tuples and lists, n deep; every list is new: nothing stood there in H0 -/
inductive NwT (K : PySem.W.Frag) (H0 Hs : Hp) : Nat → V → Prop
  | leaf {n : Nat} {v : V} : LeafV v → NwT K H0 Hs n v
  | tup {n : Nat} {a : Addr} {xs : List V} : Hs a = some (.tup xs) → (∀ x ∈ xs, NwT K H0 Hs n x) → NwT K H0 Hs (n + 1) (.ref a)
  | lst {n : Nat} {a : Addr} {xs : List V} : Hs a = some (.lst xs) → H0 a = none → (∀ x ∈ xs, NwT K H0 Hs n x) → NwT K H0 Hs (n + 1) (.ref a)
theorem NwT.mono {K : PySem.W.Frag} {H0 H0' Hs Hs' : Hp} (e0 : Same H0' H0) (e : Same Hs Hs') {n : Nat} {v : V} (h : NwT K H0 Hs n v) : NwT K H0' Hs' n v := by
  induction h with
  | leaf h => exact .leaf h
  | tup h _ ih => exact .tup (e _ _ h) ih
  | @lst n a xs h nn _ ih =>
    refine .lst (e _ _ h) ?_ ih
    cases q : H0' a with
    | none => rfl
    | some o => rw [e0 _ _ q] at nn; cases nn
/-- values with a word about where they stand -/
def EvV (K : PySem.W.Frag) (te : TE) (δ : De) (P : Dat → Prop) (G : Hp → Hp → V → Prop) : Prop := ∀ (Hs0 H0 Hs H : Hp) (σ : L2.St), SR K none Hs0 H0 Hs H σ δ → ∀ Q : VK,
  (∀ v H' Hs' d, Ext Hs H Hs' H' → Tr K Hs' v d → P d → G H0 Hs' v → Q v H') → te σ H Q
theorem evv_callF {K : PySem.W.Frag} {δ : De} {α : Type} {enc : α → List Dat} {pre : α → Prop} {post : α → Dat → Prop} {fr G : Hp → Hp → V → Prop} {t : TA} {E : XK} (a : α) (h : EvA K none t δ (Eq (enc a))) (hp : pre a) (hG : ∀ H0 H Hs v, Same H0 H → fr H Hs v → G H0 Hs v) :
    EvV K (tCall (SpF K enc pre post fr) [] E t) δ (post a) G := fun Hs0 H0 Hs H σ r Q k =>
  h _ _ _ _ _ r _ fun vs H1 Hs1 ds e1 t1 p1 => by
    subst p1
    exact ⟨a, Hs1, (r.grow e1).lk, by rw [List.append_nil]; exact t1, hp, fun v H' Hs' d e2 t2 p2 f => k v H' Hs' d (e1.trans e2) t2 p2 (hG _ _ _ _ (r.ext.same.trans e1.same) f)⟩
theorem evv_callE {K : PySem.W.Frag} {δ : De} {α : Type} {enc : α → List Dat} {pre : α → Prop} {post : α → Dat → Prop} {fr G : Hp → Hp → V → Prop} {t : TA} {E : XK} {d0 : Dat} (a : α) (h : EvA K none t δ (Eq (enc a))) (hp : pre a) (hq : ∀ d, post a d → d = d0) (hG : ∀ H0 H Hs v, Same H0 H → fr H Hs v → G H0 Hs v) :
    EvV K (tCall (SpF K enc pre post fr) [] E t) δ (Eq d0) G := fun Hs0 H0 Hs H σ r Q k => evv_callF a h hp hG Hs0 H0 Hs H σ r Q fun v H' Hs' d e t p g => k v H' Hs' d e t (hq d p).symm g
/-- [e for x in xs], the items with a word about where they stand -/
theorem evv_lc {K : PySem.W.Frag} {δ : De} {α : Type} {l : List α} {enc : α → Dat} {wi : TI} {gt : TG} {te : TE} {vs : List Nat} (g : α → Dat) (G : Hp → Hp → V → Prop) (mono : ∀ H0 Hs Hs' v, Same Hs Hs' → G H0 Hs v → G H0 Hs' v) (hw : EvI K none wi δ (Eq (l.map enc))) (hl : l.length ≤ 100000)
    (hs : ∀ x, x ∈ l → ∃ δx js, EvG K none gt (enc x) (wipeD δ vs) δx js ∧ (∀ j ∈ js, j ∈ vs) ∧ EvV K te δx (Eq (g x)) G) :
    EvV K (tLc wi gt tYes te vs) δ (Eq (.lst (l.map g))) (fun H0 Hs v => ∃ p xs, v = .ref p ∧ Hs p = some (.lst xs) ∧ H0 p = none ∧ ∀ x ∈ xs, G H0 Hs x) := fun Hs0 H0 Hs H σ r Q k =>
  hw _ _ _ _ _ r _ fun J H1 Hs1 ds e1 sd wk D nD => by
    subst sd
    have r1 := r.grow e1
    have sD : Hs1 D = none := r1.sub.none nD
    have nDH : H D = none := by
      cases q : H D with
      | none => rfl
      | some o => rw [e1.same _ _ q] at nD; cases nD
    refine ⟨fun n mm H' => ∃ Hs' ws, Ext Hs1 H1 Hs' H' ∧ H' D = some (.lst ws) ∧ Hs' D = none ∧ TrL K Hs' ws ((l.take n).map g) ∧ (∀ x ∈ ws, G H0 Hs' x) ∧ n + mm = l.length,
      ⟨l.length, Hs1, [], Ext.own nD, upd_same, sD, .nil, (fun x h => nomatch h), by omega⟩, ?_⟩
    rintro n mm H' ⟨Hs', ws, e', hD, nD', tr, gr, hn⟩
    have r' := r1.grow e'
    by_cases c : n < l.length
    · have hx0 : l[n]? = some l[n] := List.getElem?_eq_getElem c
      have hx : (l.map enc)[n]? = some (enc l[n]) := by rw [List.getElem?_map, hx0]; rfl
      obtain ⟨δx, js, hg, hj, he⟩ := hs l[n] (List.getElem_mem c)
      refine .inr ⟨wk.go n _ Hs' H' e'.le r'.sub r'.lk.h hx, fun H2 => ∃ Hs2 ws, Ext Hs1 H1 Hs2 H2 ∧ H2 D = some (.lst ws) ∧ Hs2 D = none ∧ TrL K Hs2 ws ((l.take (n + 1)).map g) ∧ ∀ x ∈ ws, G H0 Hs2 x, ?_, fun v H2 hy => ?_⟩
      · rintro H2 ⟨Hs2, ws2, a1, a2, a3, a4, a5⟩
        exact ⟨mm - 1, by omega, Hs2, ws2, a1, a2, a3, a4, a5, by omega⟩
      · obtain ⟨Hs2, e2, t2⟩ := wk.yld n _ Hs' H' v H2 e'.le r'.sub r'.lk.h hx hy
        refine hg _ _ _ _ _ v ((r'.grow e2).wipe fun _ _ => offm_none) t2 _ fun σ3 r3 hwp => ⟨?_, ?_⟩
        · rw [hwp vs hj]
          have idem : ∀ us : List Nat, (∀ u ∈ us, u ∈ vs) → wipe (wipe σ us) vs = wipe σ vs := by
            intro us
            induction us with
            | nil => intro _; rfl
            | cons u us ih =>
              intro hu
              show wipe ((wipe σ us).set u none) vs = _
              rw [wipe_set (hu u List.mem_cons_self), ih fun z hz => hu z (List.mem_cons_of_mem _ hz)]
          exact idem vs fun _ h => h
        · unfold tYes
          simp only [↓reduceIte]
          have nt : ∀ xs, HO.lst ws ≠ .tup xs := fun xs e => nomatch e
          have hD2 : H2 D = some (.lst ws) := e2.same _ _ hD
          have nD2 : Hs2 D = none := e2.out D _ hD nt nD'
          refine he _ _ _ _ _ r3 _ fun y H4 Hs4 d e4 t4 p4 g4 => ?_
          subst p4
          have nD4 : Hs4 D = none := e4.out D _ hD2 nt nD2
          have up : Same Hs' Hs4 := e2.le.trans e4.le
          refine ⟨ws, e4.same _ _ hD2, ?_, Hs4, ws ++ [y], lc_grow ((e'.trans e2).trans e4) nD nD4, upd_same, nD4, ?_, fun x hx => ?_⟩
          · rw [tr.length, List.length_map, List.length_take]
            have h3 : (100000 : Nat) < sizeLine := by decide
            omega
          · rw [take_one hx0, List.map_append]
            exact (tr.mono up).snoc t4
          · rcases List.mem_append.mp hx with z | z
            · exact mono _ _ _ _ up (gr x z)
            · rw [List.mem_singleton.mp z]; exact g4
    · have hn' : n = l.length := by omega
      subst hn'
      rw [List.take_length] at tr
      refine .inl ⟨wk.stop _ Hs' H' e'.le r'.sub r'.lk.h (by rw [List.length_map]; exact Nat.le_refl _), ?_⟩
      have sm : Same Hs' (upd Hs' D (.lst ws)) := same_updN nD'
      refine k (.ref D) H' (upd Hs' D (.lst ws)) _ (e1.trans ⟨fun a u q => ?_, e'.same, e'.le.trans sm, fun b u q nt q2 => ?_⟩) (.lst upd_same (tr.mono sm)) rfl ⟨D, ws, rfl, upd_same, r.none0 nDH, fun x hx => mono _ _ _ _ sm (gr x hx)⟩
      · by_cases ca : a = D
        · subst ca
          rw [upd_same] at q
          cases q
          exact .inr hD
        · rw [upd_ne ca] at q
          exact e'.nu a u q
      · rw [upd_ne (ne_of_none q nD)]
        exact e'.out b u q nt q2
structure PreLi (n : Nat) (a : Dat × List Int × Int) : Prop where
  d : TD n a.1
  row : a.2.1.length = 60
  a0 : 0 ≤ a.2.2
  a1 : (a.2.2 + 1) * 4096 ^ n < 2 ^ 200
abbrev SpLi (K : PySem.W.Frag) (n : Nat) : Sp := SpF K (fun a : Dat × List Int × Int => [a.1, .lst (a.2.1.map .int), .int a.2.2]) (PreLi n) (fun a d => d = liD a.2.1 a.2.2 a.1) (fun H0 Hs v => NwT K H0 Hs n v)
section
variable {P : Program} {w : World} {K : PySem.W.Frag} {mg : Str → Option Value} {base : Heap}
theorem kit_lt (d : Dat) (h : tyD d = "int" ∨ tyD d = "bool" ∨ tyD d = "str" ∨ tyD d = "NoneType") : PySem.W.kitOne K (.type (tyD d)) (.type "tuple") = some false := by
  rcases h with h | h | h | h <;> rw [h] <;> rfl
theorem tSeq_eq (t u : TS) (D : Ends) (σ : L2.St) (H : Hp) : tSeq t u D σ H = t { D with nx := u D } σ H := rfl
theorem tAsg_eq (te : TE) (g : TG) (D : Ends) (σ : L2.St) (H : Hp) : tAsg te g D σ H = te σ H (fun x H1 => g x σ H1 D.nx) := rfl
theorem tIfS_eq (c : TT) (t u : TS) (D : Ends) (σ : L2.St) (H : Hp) : tIfS c t u D σ H = c σ H (fun b H1 => if b = true then t D σ H1 else u D σ H1) := rfl
theorem leaf_li {δ : De} {d : Dat} {t3 : TS} {Pq : Pt} (e : δ[0]? = some (some (.imm d))) (ht : tyD d = "int" ∨ tyD d = "bool" ∨ tyD d = "str" ∨ tyD d = "NoneType") (nr : ∀ v Hs, Tr K Hs v d → LeafV v) (q : Pq.rt d) (f : ∀ H0 Hs v, LeafV v → Pq.fr H0 Hs v) :
    Tf.T K none (tSeq (tIfS (tNot (tTest (tCB (rIsi K) (tCons (tVar 0) (tCons (tC (.ty "tuple")) tNil))))) (tRet (tVar 0)) tNext) t3) δ Pq := by
  refine q_when (b := true) (EvB.to (evb_not (evb_test (evp_isi (evp_var e) (kit_lt d ht)))) rfl) (fun _ => ?_) fun c => nomatch c
  intro Hs0 H0 Hs H σ D r k1 k2 k3 k4
  obtain ⟨v, h1, h2⟩ := r.imm e
  exact ⟨v, h1, k2 v H Hs d r.ext h2 q (f _ _ _ (nr v Hs h2))⟩
/-- a call that is not reached -/
theorem cal_never (T : Tx P K mg base) : Cal P w K mg base 36 "_law_listed" ["_law_value_here", "_law_row_here", "_law_at"] [] (fun _ _ _ _ => False) := by
  obtain ⟨fd, fa, hf, F⟩ := T.d_law_listed
  exact ⟨fd, fa, [], hf, F.kp, .nil, F.bindsN (fun _ _ _ _ _ _ us hl => match us, hl with | [_, _, _], _ => rfl), F.ok (k := 35) scLawListed (fun vs H Q E h => h.elim) fun cdv A outer s H vs Q E hr h => h.elim⟩
theorem ok_law_listed (T : Tx P K mg base) : ∀ n : Nat, Cal P w K mg base (37 + n) "_law_listed" ["_law_value_here", "_law_row_here", "_law_at"] [] (SpLi K n)
  | 0 => by
    refine cal_ofF (k := 36) (enc := fun a : Dat × List Int × Int => [a.1, .lst (a.2.1.map .int), .int a.2.2]) T.d_law_listed scLawListed (fun _ => rfl) (fun _ _ _ _ _ _ us hl => match us, hl with | [_, _, _], _ => rfl) fun cdv f A outer s H Q E hr => ?_
    have hu := hu_of hr
    have C_law_listed := cal_never (w := w) T
    refine ⟨_, (pss_cons (ps_if (pt_not (pt_val (pe_callB (cr_isi (K := K)) (by rfl) T.n_isinstance (by decide +kernel) (pa_cons (pv 0) (pa_cons (pe_bltn (v := .ty "tuple") (by rfl) T.n_tuple (by decide +kernel) rfl) pa_nil))))) (pss_one (ps_ret (pv 0))) pss_nil)
  (pss_cons (ps_setLc (i := 3) (own := [("_law_k", 4)]) rfl scLawListed.nd rfl rfl (sw_true rfl rfl rfl (by decide +kernel)) (pi_range1 rfl T.n_range (pa_cons (pe_callB (cr_len (K := K)) (by rfl) T.n_len (by decide +kernel) (pa_cons (pv 0) pa_nil)) pa_nil)) (blkOk_by (own := [("_law_k", 4)]) (N := nLawListed) (sc := defScope sLawListed) (by decide +kernel)) (fun _ _ _ _ _ => (pg_name (i := 4) scLawListed.nd rfl (Or.inl rfl))) (fun _ _ _ _ _ => pts_nil) (fun _ _ _ _ _ => (pe_cal C_law_listed hr (by rfl) (pa_cons (pe_ix (ixK (K := K)) (pv 0) (pv 4) (fun _ _ => rfl)) (pa_cons (pv 1) (pa_cons (pe_op op_add (pe_op op_add (pe_op op_mulH pe_int (pv 2)) (pv 4)) pe_int) pa_nil))))))
  (pss_cons (ps_if (pt_cmpR op_eq (pe_op op_mod (pe_ix (ixK (K := K)) (pv 1) (pe_op op_mod (pv 2) pe_int) (fun _ _ => rfl)) pe_int) pe_int (nomark _)) (pss_one (ps_ret (pv 3))) pss_nil)
  (pss_one (ps_ret (pe_callTy (cr_tup (K := K)) (by rfl) T.n_tuple (by decide +kernel) (pa_cons (pv 3) pa_nil))))))), fun a ha => ?_⟩
    obtain ⟨d, row, a⟩ := a
    have hd : TD 0 d := ha.d
    cases d with
    | non => exact leaf_li rfl (by simp [tyD]) (fun v Hs h => by cases h; trivial) (by show _ = liD row a .non; simp [liD]) fun H0 Hs v h => .leaf h
    | bl b => exact leaf_li rfl (by simp [tyD]) (fun v Hs h => by cases h; trivial) (by show _ = liD row a (.bl b); simp [liD]) fun H0 Hs v h => .leaf h
    | int i => exact leaf_li rfl (by simp [tyD]) (fun v Hs h => by cases h; trivial) (by show _ = liD row a (.int i); simp [liD]) fun H0 Hs v h => .leaf h
    | str x => exact leaf_li rfl (by simp [tyD]) (fun v Hs h => by cases h; trivial) (by show _ = liD row a (.str x); simp [liD]) fun H0 Hs v h => .leaf h
    | tup ds => exact hd.elim
    | lst ds => exact hd.elim
    | scr ds => exact hd.elim
    | dk ds => exact hd.elim
    | dt ds => exact hd.elim
    | «at» p q => exact hd.elim
  | n + 1 => by
    have C_law_listed := ok_law_listed T n
    refine cal_ofF (k := 37 + n) (enc := fun a : Dat × List Int × Int => [a.1, .lst (a.2.1.map .int), .int a.2.2]) T.d_law_listed scLawListed (fun _ => rfl) (fun _ _ _ _ _ _ us hl => match us, hl with | [_, _, _], _ => rfl) fun cdv f A outer s H Q E hr => ?_
    have hu := hu_of hr
    refine ⟨_, (pss_cons (ps_if (pt_not (pt_val (pe_callB (cr_isi (K := K)) (by rfl) T.n_isinstance (by decide +kernel) (pa_cons (pv 0) (pa_cons (pe_bltn (v := .ty "tuple") (by rfl) T.n_tuple (by decide +kernel) rfl) pa_nil))))) (pss_one (ps_ret (pv 0))) pss_nil)
  (pss_cons (ps_setLc (i := 3) (own := [("_law_k", 4)]) rfl scLawListed.nd rfl rfl (sw_true rfl rfl rfl (by decide +kernel)) (pi_range1 rfl T.n_range (pa_cons (pe_callB (cr_len (K := K)) (by rfl) T.n_len (by decide +kernel) (pa_cons (pv 0) pa_nil)) pa_nil)) (blkOk_by (own := [("_law_k", 4)]) (N := nLawListed) (sc := defScope sLawListed) (by decide +kernel)) (fun _ _ _ _ _ => (pg_name (i := 4) scLawListed.nd rfl (Or.inl rfl))) (fun _ _ _ _ _ => pts_nil) (fun _ _ _ _ _ => (pe_cal C_law_listed hr (by rfl) (pa_cons (pe_ix (ixK (K := K)) (pv 0) (pv 4) (fun _ _ => rfl)) (pa_cons (pv 1) (pa_cons (pe_op op_add (pe_op op_add (pe_op op_mulH pe_int (pv 2)) (pv 4)) pe_int) pa_nil))))))
  (pss_cons (ps_if (pt_cmpR op_eq (pe_op op_mod (pe_ix (ixK (K := K)) (pv 1) (pe_op op_mod (pv 2) pe_int) (fun _ _ => rfl)) pe_int) pe_int (nomark _)) (pss_one (ps_ret (pv 3))) pss_nil)
  (pss_one (ps_ret (pe_callTy (cr_tup (K := K)) (by rfl) T.n_tuple (by decide +kernel) (pa_cons (pv 3) pa_nil))))))), fun a ha => ?_⟩
    obtain ⟨d, row, a⟩ := a
    obtain ⟨hd, h60, a0, a1⟩ := ha
    have h60 : row.length = 60 := h60
    have a0 : 0 ≤ a := a0
    have a1 : (a + 1) * 4096 ^ (n + 1) < 2 ^ 200 := a1
    have hd : TD (n + 1) d := hd
    cases d with
    | non => exact leaf_li rfl (by simp [tyD]) (fun v Hs h => by cases h; trivial) (by show _ = liD row a .non; simp [liD]) fun H0 Hs v h => .leaf h
    | bl b => exact leaf_li rfl (by simp [tyD]) (fun v Hs h => by cases h; trivial) (by show _ = liD row a (.bl b); simp [liD]) fun H0 Hs v h => .leaf h
    | int i => exact leaf_li rfl (by simp [tyD]) (fun v Hs h => by cases h; trivial) (by show _ = liD row a (.int i); simp [liD]) fun H0 Hs v h => .leaf h
    | str x => exact leaf_li rfl (by simp [tyD]) (fun v Hs h => by cases h; trivial) (by show _ = liD row a (.str x); simp [liD]) fun H0 Hs v h => .leaf h
    | lst ds => exact hd.elim
    | scr ds => exact hd.elim
    | dk ds => exact hd.elim
    | dt ds => exact hd.elim
    | «at» p q => exact hd.elim
    | tup ds =>
      obtain ⟨hl, hx⟩ := hd
      try dsimp only [cxK]
      refine q_skip (EvB.to (evb_not (evb_test (isi_tup (ds := ds) (evp_var rfl)))) rfl) ?_
      -- the parts
      have hlc : EvV K (tLc (iRng1 (tCons (tCB (rLen K) (tCons (tVar 0) tNil)) tNil)) (gName 4) tYes (tCall (SpLi K n) [] E0 (tCons (tOp (rIx K) (tVar 0) (tVar 4)) (tCons (tVar 1) (tCons (tOp (rI0 fun i j => .int (i + j)) (tOp (rI0 fun i j => .int (i + j)) (tOp (rI CMulH fun i j => .int (i * j)) (tC (.int 3)) (tVar 2)) (tVar 4)) (tC (.int 1))) tNil)))) [4])
          (startD nLawListed.length [.tup ds, .lst (row.map .int), .int a]) (Eq (.lst ((List.range ds.length).map fun k : Nat => liD row (3 * a + (k : Int) + 1) (ds.getD k .non)))) (fun H0 Hs v => ∃ p xs, v = .ref p ∧ Hs p = some (.lst xs) ∧ H0 p = none ∧ ∀ x ∈ xs, NwT K H0 Hs n x) := by
        refine evv_lc (l := List.range ds.length) (enc := fun k : Nat => .int (k : Int)) (fun k : Nat => liD row (3 * a + (k : Int) + 1) (ds.getD k .non)) (fun H0 Hs v => NwT K H0 Hs n v) (fun _ _ _ _ e h => h.mono (Same.refl _) e) (evi_rangeN (eva_cons (evp_cb (eva_cons (evp_var rfl) eva_nil) (rc_len (.tup _))) eva_nil) (by omega)) (by rw [List.length_range]; omega) fun k hk => ?_
        have hk : k < ds.length := List.mem_range.mp hk
        have hg : ds[k]? = some (ds.getD k .non) := by rw [List.getElem?_eq_getElem hk, List.getD_eq_getElem?_getD, List.getElem?_eq_getElem hk]; rfl
        have hix : atI ds (k : Int) = some (ds.getD k .non) := by
          have := len_ix (f := fun d : Dat => d) hg
          rw [List.map_id'] at this
          exact this
        have p4 : (0 : Int) < 4096 ^ n := Int.pow_pos (by decide)
        have hb : (3 * a + (k : Int) + 1 + 1) * 4096 ^ n < 2 ^ 200 := by
          have e : (a + 1) * 4096 ^ (n + 1) = ((a + 1) * 4096) * 4096 ^ n := by rw [Int.pow_succ, Int.mul_comm (4096 ^ n) 4096, Int.mul_assoc]
          rw [e] at a1
          refine Int.lt_of_le_of_lt ?_ a1
          exact Int.mul_le_mul_of_nonneg_right (by omega) (Int.le_of_lt p4)
        have ha2 : Lt2 a 200 := by
          have h1 : (a + 1) * 1 ≤ (a + 1) * 4096 ^ (n + 1) := Int.mul_le_mul_of_nonneg_left (Int.pow_pos (by decide)) (by omega)
          have h2 : a < 2 ^ 200 := by omega
          unfold Lt2
          have h3 : ((a.natAbs : Nat) : Int) < ((2 ^ 200 : Nat) : Int) := by
            rw [Int.natAbs_of_nonneg a0]
            exact h2
          exact Int.ofNat_lt.mp h3
        refine ⟨_, _, evg_name, by decide, ?_⟩
        refine evv_callE (ds.getD k .non, row, 3 * a + (k : Int) + 1) ?_ (show PreLi n (ds.getD k .non, row, 3 * a + (k : Int) + 1) from ⟨hx _ (List.mem_of_getElem? hg), h60, by show 0 ≤ 3 * a + (k : Int) + 1; omega, hb⟩) (fun d q => q) fun H0 H Hs v e h => h.mono e (Same.refl _)
        refine eva_cons (evp_op (evp_var rfl) (evp_var rfl) (rv_ix (.tup ds) hix)) (eva_cons (evp_var rfl) (eva_cons (evp_op (evp_op (evp_op evp_int (evp_var rfl) (rv_intC ?_)) (evp_var rfl) rv_int) evp_int rv_int) eva_nil))
        exact ⟨2, 200, by show (3 : Nat) < 4; decide, ha2, by decide⟩
      have eli : (List.range ds.length).map (fun k : Nat => liD row (3 * a + (k : Int) + 1) (ds.getD k .non)) = liDL row a 0 ds := by
        rw [liDL_idx]
        apply List.ext_getElem?
        intro i
        rw [List.getElem?_map, List.getElem?_mapIdx]
        by_cases c : i < ds.length
        · rw [List.getElem?_range c, List.getElem?_eq_getElem c]
          simp [List.getElem?_eq_getElem c]
        · rw [List.getElem?_eq_none (by rw [List.length_range]; omega), List.getElem?_eq_none (by omega)]
          rfl
      rw [eli] at hlc
      -- the test
      have hm0 : 0 ≤ a % 60 := Int.emod_nonneg _ (by decide)
      have hm1 : a % 60 < 60 := Int.emod_lt_of_pos _ (by decide)
      have hr60 : atI (row.map Dat.int) (a % 60) = some (.int (row.getD (a % 60).toNat 0)) := by
        have hlt : (a % 60).toNat < row.length := by omega
        have hg : row[(a % 60).toNat]? = some (row.getD (a % 60).toNat 0) := by rw [List.getElem?_eq_getElem hlt, List.getD_eq_getElem?_getD, List.getElem?_eq_getElem hlt]; rfl
        have := len_ix (f := Dat.int) hg
        rw [Int.toNat_of_nonneg hm0] at this
        exact this
      have hb : ∀ v : Dat, EvB K none (tTest (tOp rEq (tOp (rI (fun _ j => 0 < j) fun i j => .int (i % j)) (tOp (rIx K) (tVar 1) (tOp (rI (fun _ j => 0 < j) fun i j => .int (i % j)) (tVar 2) (tC (.int 60)))) (tC (.int 2))) (tC (.int 0)))) [some (.imm (.tup ds)), some (.imm (.lst (row.map .int))), some (.imm (.int a)), some (.imm v), none] (decide (row.getD (a % 60).toNat 0 % 2 = 0)) := fun v =>
        EvB.to (evb_test (evp_op (evp_op (evp_op (evp_var rfl) (evp_op (evp_var rfl) evp_int (rv_intC (by decide))) (rv_ix (.lst _) hr60)) evp_int (rv_intC (by decide))) evp_int (rv_eq (.int _ _)))) rfl
      intro Hs0 H0 Hs H σ D r k1 k2 k3 k4
      rw [tSeq_eq, tAsg_eq]
      refine hlc _ _ _ _ _ r _ fun v H1 Hs1 d1 e1 t1 p1 ⟨p, xs, ev, hp, np, hn⟩ => ?_
      subst p1
      subst ev
      have r1 : SR K none Hs0 H0 Hs1 H1 (σ.set 3 (some (.ref p))) [some (.imm (.tup ds)), some (.imm (.lst (row.map .int))), some (.imm (.int a)), some (.imm (.lst (liDL row a 0 ds))), none] := (r.grow e1).set_imm 3 t1 offm_none
      have h3 : (σ.set 3 (some (.ref p)))[3]? = some (some (V.ref p)) := List.getElem?_set_self (by rw [r.len]; show 3 < 5; decide)
      dsimp only [gName]
      rw [tSeq_eq, tIfS_eq]
      refine hb _ _ _ _ _ _ r1 _ fun H2 Hs2 e2 => ?_
      have r2 := r1.grow e2
      have hp2 := e2.le _ _ hp
      have hn2 : ∀ x ∈ xs, NwT K H0 Hs2 n x := fun x hx => (hn x hx).mono (Same.refl _) e2.le
      by_cases c : row.getD (a % 60).toNat 0 % 2 = 0
      · rw [decide_eq_true c]
        refine iteT ⟨.ref p, h3, k2 _ H2 Hs2 _ r2.ext (t1.mono e2.le) ?_ (.lst hp2 np hn2)⟩
        show _ = liD row a (.tup ds)
        rw [liD, if_pos c]
      · rw [decide_eq_false c]
        refine iteF ?_
        have t2 := t1.mono e2.le
        obtain ⟨p', xs', ep, hp', tl⟩ := t2.lst_inv0
        cases ep
        refine ⟨.ref p, h3, p, xs', rfl, .inl ⟨.inl (.inl (r2.sub.lst hp')), fun l nl => ?_⟩⟩
        have x := Ext.new (o := .tup xs') r2.sub nl
        rw [hp2] at hp'
        cases hp'
        refine k2 _ _ _ _ (r2.ext.trans x) (.tup upd_same (tl.mono x.le)) ?_ (.tup upd_same fun y hy => (hn2 y hy).mono (Same.refl _) x.le)
        show _ = liD row a (.tup ds)
        rw [liD, if_neg c]
end
end Tf
/-! text TfAC -/
/-! the law's emptying of the lists, walked -/
namespace Tf
open PySem PySem.Spec PyProof.Rows L2
theorem cal_ofR {P : Program} {w : World} {K : PySem.W.Frag} {mg : Str → Option Value} {base : Heap} {x : Str} {st : Stmt} {N ps : List Str} {k : Nat} {sp : Sp}
    (D : At K mg x st []) (S : FnScope N ps (defScope st)) (hn : ∀ vs H Q E, sp vs H Q E → vs.length = ps.length)
    (hb : ∀ (kV doc pm : Value) (an : Option Addr) (cdv ct : Value) (us : List Value), us.length = ps.length → bindArgs (PySem.W.fnOf x x (defArgs st) (defBody st) (defScope st) .none kV doc pm an cdv ct) ⟨us, []⟩ = pure (ps.zip us))
    (body : ∀ (cdv : Value) (f : Addr) (A : Around) (outer : List Env) (s : Shared) (H : Hp) (Q : VK) (E : XK), Room k (A.deeper (envOfC x (defScope st) s.heap.objs.size f cdv)) →
      ∃ t, PSs (cxOf CX0 P w K mg base N x (defScope st) f cdv A outer s H E).nox (defBody st) t ∧ ∀ vs, sp vs H Q E → t { nx := fun _ H' => Q .non H', rt := Q } (start N vs) H) :
    Cal P w K mg base (k + 1) x ps [] sp := by
  obtain ⟨f, fd, hf, F⟩ := D
  refine ⟨f, fd, [], hf, F.kp, .nil, F.bindsN hb, F.ok S hn fun cdv A outer s H vs Q E hr h => ?_⟩
  obtain ⟨t, h1, h2⟩ := body cdv f A outer s H Q E hr
  exact ⟨t, h1.nox, h2 vs h⟩
/-- tuples and lists, n deep; the lists stand where Lz says -/
inductive RuV (K : PySem.W.Frag) (Lz : Addr → Prop) (H : Hp) : Nat → V → Prop
  | leaf {n : Nat} {v : V} : LeafV v → RuV K Lz H n v
  | tup {n : Nat} {a : Addr} {xs : List V} : SqT K H a xs → (∀ x ∈ xs, RuV K Lz H n x) → RuV K Lz H (n + 1) (.ref a)
  | lst {n : Nat} {a : Addr} {xs : List V} : Lz a → H a = some (.lst xs) → (∀ x ∈ xs, RuV K Lz H n x) → RuV K Lz H (n + 1) (.ref a)
/-- lists at Lz may be emptied, all else stays -/
def Chg (Lz : Addr → Prop) (H H' : Hp) : Prop := ∀ b o, H b = some o → H' b = some o ∨ (Lz b ∧ (∃ xs, o = .lst xs) ∧ H' b = some (.lst []))
theorem Chg.refl {Lz : Addr → Prop} {H : Hp} : Chg Lz H H := fun _ _ h => .inl h
theorem Chg.trans {Lz : Addr → Prop} {H H1 H2 : Hp} (h : Chg Lz H H1) (h' : Chg Lz H1 H2) : Chg Lz H H2 := fun b o e => by
  rcases h b o e with e1 | ⟨l, ex, e1⟩
  · exact h' b o e1
  · rcases h' b _ e1 with e2 | ⟨_, _, e2⟩
    · exact .inr ⟨l, ex, e2⟩
    · exact .inr ⟨l, ex, e2⟩
theorem Chg.of_same {Lz : Addr → Prop} {H H1 : Hp} (h : Same H H1) : Chg Lz H H1 := fun b o e => .inl (h b o e)
theorem Chg.sqT {K : PySem.W.Frag} {Lz : Addr → Prop} {H H1 : Hp} (h : Chg Lz H H1) {a : Addr} {xs : List V} (q : SqT K H a xs) : SqT K H1 a xs := by
  rcases q with (q | ⟨o, q⟩) | q
  · rcases h a _ q with e | ⟨_, ⟨ys, z⟩, _⟩
    · exact .inl (.inl e)
    · cases z
  · rcases h a _ q with e | ⟨_, ⟨ys, z⟩, _⟩
    · exact .inl (.inr ⟨o, e⟩)
    · cases z
  · exact .inr q
theorem RuV.chg {K : PySem.W.Frag} {Lz : Addr → Prop} {H H1 : Hp} (h : Chg Lz H H1) {n : Nat} {v : V} (r : RuV K Lz H n v) : RuV K Lz H1 n v := by
  induction r with
  | leaf l => exact .leaf l
  | tup q _ ih => exact .tup (h.sqT q) ih
  | lst l q _ ih =>
    rcases h _ _ q with e | ⟨_, _, e⟩
    · exact .lst l e ih
    · exact .lst l e fun x hx => nomatch hx
def SpRu (K : PySem.W.Frag) (n : Nat) : Sp := fun vs H Q _ => ∃ (v : V) (Lz : Addr → Prop), vs = [v] ∧ RuV K Lz H n v ∧ ∀ H', Chg Lz H H' → Q .non H'
section
variable {P : Program} {w : World} {K : PySem.W.Frag} {mg : Str → Option Value} {base : Heap}
theorem leaf_ty {H : Hp} {v : V} (h : LeafV v) : ∃ t : String, TyX K H v (.type t) ∧ PySem.W.kitAny K (.type t) [.type "list", .type "tuple"] = some false ∧ PySem.W.kitOne K (.type t) (.type "list") = some false := by
  cases v with
  | non => exact ⟨_, .base .non, by rfl, by rfl⟩
  | bl b => exact ⟨_, .base (.bl b), by rfl, by rfl⟩
  | int i => exact ⟨_, .base (.int i), by rfl, by rfl⟩
  | str s => exact ⟨_, .base (.str s), by rfl, by rfl⟩
  | _ => exact h.elim
/-- the second half: a list is emptied -/
abbrev tRu2 (K : PySem.W.Frag) : TS := tIfS (tTest (tCB (rIsi K) (tCons (tVar 0) (tCons (tC (.ty "list")) tNil)))) (tDrop (tBM0 K "list" rClear (tVar 0))) tNext
abbrev tRu (K : PySem.W.Frag) (sp : Sp) : TS := tSeq (tIfS (tTest (tCB (rIsiT K) (tCons (tVar 0) (tCons (tTup (tCons (tC (.ty "list")) (tCons (tC (.ty "tuple")) tNil))) tNil)))) (tFor (iSeq K (tVar 0)) (gName 1) (tDrop (tCall sp [] E0 (tCons (tVar 1) tNil)))) tNext) (tRu2 K)
theorem ru2_not {D : Ends} {σ : L2.St} {H : Hp} {v : V} {t : String} (h0 : σ[0]? = some (some v)) (ty : TyX K H v (.type t)) (e : PySem.W.kitOne K (.type t) (.type "list") = some false) (h : D.nx σ H) : tRu2 K D σ H :=
  ⟨v, h0, v, .ty "list", _, _, false, rfl, .ty "list", ty, e, false, rfl, iteF h⟩
theorem ru2_lst {D : Ends} {σ : L2.St} {H : Hp} {a : Addr} {xs : List V} (h0 : σ[0]? = some (some (.ref a))) (e : H a = some (.lst xs)) (h : D.nx σ (upd H a (.lst []))) : tRu2 K D σ H :=
  ⟨.ref a, h0, .ref a, .ty "list", _, _, true, rfl, .ty "list", .base (.lst e), by rfl, true, rfl, iteT ⟨.ref a, h0, .inl ⟨rfl, xs, .inl (.inl e)⟩, a, xs, rfl, rfl, e, h⟩⟩
theorem ru_run {n : Nat} {sp : Sp} {H : Hp} {Q : VK} {v : V} {Lz : Addr → Prop} (hv : RuV K Lz H n v) (hq : ∀ H', Chg Lz H H' → Q .non H')
    (call : ∀ m, m + 1 = n → ∀ (x : V) (H : Hp) (Q : VK), RuV K Lz H m x → (∀ H', Chg Lz H H' → Q .non H') → sp [x] H Q E0) : tRu K sp { nx := fun _ H' => Q .non H', rt := Q } [some v, none] H := by
  refine ⟨v, rfl, by show 2 ≤ sizeLine; decide, fun p np => ?_⟩
  have sm : Same H (upd H p (.tup [.ty "list", .ty "tuple"])) := same_updN np
  have c0 : Chg Lz H (upd H p (.tup [.ty "list", .ty "tuple"])) := .of_same sm
  generalize hH1 : upd H p (.tup [.ty "list", .ty "tuple"]) = H1 at *
  have hp : H1 p = some (.tup [.ty "list", .ty "tuple"]) := by rw [← hH1]; exact upd_same
  have cls : Paired ClsV [V.ty "list", .ty "tuple"] [.type "list", .type "tuple"] := .cons (.ty _) (.cons (.ty _) .nil)
  have hv1 := hv.chg c0
  cases hv1 with
  | leaf l =>
    obtain ⟨t, ty, k1, k2⟩ := leaf_ty (K := K) (H := H1) l
    exact ⟨v, p, _, _, _, false, rfl, hp, cls, ty, k1, false, rfl, iteF (ru2_not rfl ty k2 (hq H1 c0))⟩
  | @tup m a xs q hx =>
    refine ⟨.ref a, p, _, _, _, true, rfl, hp, cls, sqT_ty q, by rfl, true, rfl, iteT ⟨.ref a, rfl, a, rfl, .inr ⟨⟨xs, q⟩, fun i mm σ' H' => (∃ y, σ' = [some (.ref a), y]) ∧ Chg Lz H1 H' ∧ i + mm = xs.length, ⟨xs.length, ⟨_, rfl⟩, .refl, by omega⟩, ?_⟩⟩⟩
    rintro i mm σ' H' ⟨⟨y, rfl⟩, cg, hi⟩
    have q' := cg.sqT q
    by_cases c : i < xs.length
    · have hxi : xs[i]? = some xs[i] := List.getElem?_eq_getElem c
      refine .inr ⟨⟨xs, _, q', hxi⟩, fun σ2 H2 => (∃ y, σ2 = [some (.ref a), y]) ∧ Chg Lz H1 H2, fun σ2 H2 h => ⟨mm - 1, by omega, h.1, h.2, by omega⟩, fun v1 H2 hy => ?_⟩
      obtain ⟨rfl, hy⟩ := hy
      have ex := hy xs q'
      rw [hxi] at ex
      cases ex
      exact ⟨_, rfl, call m rfl _ _ _ ((hx _ (List.getElem_mem c)).chg cg) fun H3 c3 => ⟨⟨_, rfl⟩, cg.trans c3⟩⟩
    · exact .inl ⟨⟨xs, q', by omega⟩, ru2_not rfl (sqT_ty q') (by rfl) (hq H' (c0.trans cg))⟩
  | @lst m a xs l q hx =>
    refine ⟨.ref a, p, _, _, _, true, rfl, hp, cls, .base (.lst q), by rfl, true, rfl, iteT ⟨.ref a, rfl, a, rfl, .inl ⟨⟨xs, .inl (.inl q)⟩, fun i mm σ' H' => (∃ y, σ' = [some (.ref a), y]) ∧ Chg Lz H1 H' ∧ i + mm = xs.length, ⟨xs.length, ⟨_, rfl⟩, .refl, by omega⟩, ?_⟩⟩⟩
    rintro i mm σ' H' ⟨⟨y, rfl⟩, cg, hi⟩
    have fin : ∀ ys, H' a = some (.lst ys) → tRu2 K { nx := fun _ H' => Q .non H', rt := Q } [some (.ref a), y] H' := fun ys e => ru2_lst rfl e (hq _ ((c0.trans cg).trans fun b o eb => by
      by_cases cb : b = a
      · subst cb
        rw [e] at eb
        cases eb
        exact .inr ⟨l, ⟨_, rfl⟩, upd_same⟩
      · exact .inl (by rw [upd_ne cb]; exact eb)))
    rcases cg a _ q with q' | ⟨_, _, q'⟩
    · by_cases c : i < xs.length
      · have hxi : xs[i]? = some xs[i] := List.getElem?_eq_getElem c
        refine .inr ⟨⟨xs, _, .inl (.inl q'), hxi⟩, fun σ2 H2 => (∃ y, σ2 = [some (.ref a), y]) ∧ Chg Lz H1 H2, fun σ2 H2 h => ⟨mm - 1, by omega, h.1, h.2, by omega⟩, fun v1 H2 hy => ?_⟩
        obtain ⟨rfl, hy⟩ := hy
        have ex := hy xs (.inl (.inl q'))
        rw [hxi] at ex
        cases ex
        exact ⟨_, rfl, call m rfl _ _ _ ((hx _ (List.getElem_mem c)).chg cg) fun H3 c3 => ⟨⟨_, rfl⟩, cg.trans c3⟩⟩
      · exact .inl ⟨⟨xs, .inl (.inl q'), by omega⟩, fin xs q'⟩
    · exact .inl ⟨⟨[], .inl (.inl q'), Nat.zero_le _⟩, fin [] q'⟩
theorem cal_never2 (T : Tx P K mg base) : Cal P w K mg base 36 "_law_ruined" ["_law_value_here"] [] (fun _ _ _ _ => False) := by
  obtain ⟨fd, fa, hf, F⟩ := T.d_law_ruined
  exact ⟨fd, fa, [], hf, F.kp, .nil, F.bindsN (fun _ _ _ _ _ _ us hl => match us, hl with | [_], _ => rfl), F.ok (k := 35) scLawRuined (fun vs H Q E h => h.elim) fun cdv A outer s H vs Q E hr h => h.elim⟩
theorem ok_law_ruined (T : Tx P K mg base) : ∀ n : Nat, Cal P w K mg base (37 + n) "_law_ruined" ["_law_value_here"] [] (SpRu K n)
  | 0 => by
    refine cal_ofR (k := 36) T.d_law_ruined scLawRuined (fun vs H Q E ⟨v, Lz, e, _⟩ => by rw [e]; rfl) (fun _ _ _ _ _ _ us hl => match us, hl with | [_], _ => rfl) fun cdv f A outer s H Q E hr => ?_
    have hu := hu_of hr
    have C_law_ruined := cal_never2 (w := w) T
    refine ⟨_, (pss_cons (ps_if (pt_val (pe_callB (cr_isiT (K := K)) (by rfl) T.n_isinstance (by decide +kernel) (pa_cons (pv 0) (pa_cons (pe_tup (pa_cons (pe_bltn (v := .ty "list") (by rfl) T.n_list (by decide +kernel) rfl) (pa_cons (pe_bltn (v := .ty "tuple") (by rfl) T.n_tuple (by decide +kernel) rfl) pa_nil))) pa_nil)))) (pss_one (ps_for PassesOwn.never rfl (pi_seq (K := K) (pv 0)) (pg_name (i := 1) scLawRuined.nd rfl (Or.inl rfl)) (pss_one (ps_expr (pe_cal C_law_ruined hr (by rfl) (pa_cons (pv 1) pa_nil)))))) pss_nil)
  (pss_one (ps_if (pt_val (pe_callB (cr_isi (K := K)) (by rfl) T.n_isinstance (by decide +kernel) (pa_cons (pv 0) (pa_cons (pe_bltn (v := .ty "list") (by rfl) T.n_list (by decide +kernel) rfl) pa_nil)))) (pss_one (ps_expr (pe_bm0 PySem.F.plainAttrs_list PySem.F.slot_list_clear PySem.F.type_list_clear mt_clear (pv 0)))) pss_nil))), fun vs h => ?_⟩
    obtain ⟨v, Lz, rfl, hv, hq⟩ := h
    try dsimp only [cxK]
    exact ru_run (n := 0) hv hq fun m e => by omega
  | n + 1 => by
    have C_law_ruined := ok_law_ruined T n
    refine cal_ofR (k := 37 + n) T.d_law_ruined scLawRuined (fun vs H Q E ⟨v, Lz, e, _⟩ => by rw [e]; rfl) (fun _ _ _ _ _ _ us hl => match us, hl with | [_], _ => rfl) fun cdv f A outer s H Q E hr => ?_
    have hu := hu_of hr
    refine ⟨_, (pss_cons (ps_if (pt_val (pe_callB (cr_isiT (K := K)) (by rfl) T.n_isinstance (by decide +kernel) (pa_cons (pv 0) (pa_cons (pe_tup (pa_cons (pe_bltn (v := .ty "list") (by rfl) T.n_list (by decide +kernel) rfl) (pa_cons (pe_bltn (v := .ty "tuple") (by rfl) T.n_tuple (by decide +kernel) rfl) pa_nil))) pa_nil)))) (pss_one (ps_for PassesOwn.never rfl (pi_seq (K := K) (pv 0)) (pg_name (i := 1) scLawRuined.nd rfl (Or.inl rfl)) (pss_one (ps_expr (pe_cal C_law_ruined hr (by rfl) (pa_cons (pv 1) pa_nil)))))) pss_nil)
  (pss_one (ps_if (pt_val (pe_callB (cr_isi (K := K)) (by rfl) T.n_isinstance (by decide +kernel) (pa_cons (pv 0) (pa_cons (pe_bltn (v := .ty "list") (by rfl) T.n_list (by decide +kernel) rfl) pa_nil)))) (pss_one (ps_expr (pe_bm0 PySem.F.plainAttrs_list PySem.F.slot_list_clear PySem.F.type_list_clear mt_clear (pv 0)))) pss_nil))), fun vs h => ?_⟩
    obtain ⟨v, Lz, rfl, hv, hq⟩ := h
    try dsimp only [cxK]
    exact ru_run (n := n + 1) hv hq fun m e x H Q hx q => by
      obtain rfl : m = n := by omega
      exact ⟨x, Lz, rfl, hx, q⟩
end
end Tf
/-! text TfAD -/
/-! the law's use of solve, walked -/
namespace Tf
open PySem PySem.Spec PyProof.Rows L2
local macro_rules | `(tactic| walk_at "ev1") => `(tactic| first
  | with_reducible exact evp_int | with_reducible exact evp_bl | with_reducible exact evp_str | with_reducible exact evp_non | with_reducible exact evp_gamA | with_reducible exact evp_gam | (with_reducible apply evp_var; (with_unfolding_all exact rfl))
  | with_reducible exact eva_nil | with_reducible apply eva_cons
  | with_reducible apply evp_op | (with_reducible apply evp_un (hr := ru_int)) | with_reducible apply evp_cb
  | with_reducible apply evp_tup' | (with_reducible show List.length _ ≤ 100000; simp; done)
  | with_reducible exact rv_int | with_reducible exact rv_bl | with_reducible apply rv_intC | with_reducible exact rv_eq (.int _ _) | with_reducible exact rv_ne (.int _ _)
  | (with_reducible apply rv_ix; (first | (with_unfolding_all exact Sq.tup _) | (with_unfolding_all exact Sq.lst _) | (with_reducible apply Sqx.sq; with_reducible assumption)); (with_unfolding_all exact rfl))
  | with_reducible exact rc_gcd
  | with_reducible exact rc_tupA | with_reducible exact rc_tupM
  | (with_reducible apply rc_tup; (first | (with_unfolding_all exact Sq.tup _) | (with_unfolding_all exact Sq.lst _) | (with_reducible apply Sqx.sq; with_reducible assumption)))
  | (with_reducible apply rc_lst; (first | (with_unfolding_all exact Sq.tup _) | (with_unfolding_all exact Sq.lst _) | (with_reducible apply Sqx.sq; with_reducible assumption)))
  | (with_reducible apply rc_len; (first | (with_unfolding_all exact Sq.tup _) | (with_unfolding_all exact Sq.lst _) | (with_reducible apply Sqx.sq; with_reducible assumption)))
  | with_reducible apply rv_cat
  | with_reducible exact evb_yes
  | with_reducible apply evb_test | with_reducible apply evb_B | with_reducible apply evb_not | with_reducible apply evb_and | with_reducible apply evb_or | with_reducible apply evp_and | with_reducible apply evp_or | with_reducible apply evp_not
  | (with_reducible refine fun _ => ?_))
local macro_rules | `(tactic| walk_at "ev") => `(tactic| repeat' walk_at "ev1")
/-! ### plain facts of the copy as data -/
mutual
/-- texts that may be laid as data; no dicts, no script -/
def okD : Dat → Bool
  | .str s => PyData.strOk s
  | .lst l => okDL l
  | .tup l => okDL l
  | .non => true
  | .bl _ => true
  | .int _ => true
  | _ => false
def okDL : List Dat → Bool
  | [] => true
  | d :: ds => okD d && okDL ds
end
mutual
theorem okD_no : ∀ {d : Dat}, okD d = true → noD d = true
  | .str s, _ => by simp [noD]
  | .lst l, h => by rw [okD] at h; rw [noD]; exact okDL_no h
  | .tup l, h => by rw [okD] at h; rw [noD]; exact okDL_no h
  | .non, _ => by simp [noD]
  | .bl _, _ => by simp [noD]
  | .int _, _ => by simp [noD]
  | .scr _, h => by simp [okD] at h
  | .dk _, h => by simp [okD] at h
  | .dt _, h => by simp [okD] at h
  | .at _ _, h => by simp [okD] at h
theorem okDL_no : ∀ {l : List Dat}, okDL l = true → noDL l = true
  | [], _ => by simp [noDL]
  | d :: ds, h => by
    rw [okDL, Bool.and_eq_true] at h
    rw [noDL, okD_no h.1, okDL_no h.2]
    rfl
end
mutual
theorem okD_can : ∀ {d : Dat}, okD d = true → (toPy d).canLay0 = true
  | .str s, h => by rw [okD] at h; simpa [toPy, PyData.canLay0] using h
  | .lst l, h => by rw [okD] at h; rw [toPy, PyData.canLay0]; exact okDL_can h
  | .tup l, h => by rw [okD] at h; rw [toPy, PyData.canLay0]; exact okDL_can h
  | .non, _ => by simp [toPy, PyData.canLay0]
  | .bl _, _ => by simp [toPy, PyData.canLay0]
  | .int _, _ => by simp [toPy, PyData.canLay0]
  | .scr _, h => by simp [okD] at h
  | .dk _, h => by simp [okD] at h
  | .dt _, h => by simp [okD] at h
  | .at _ _, h => by simp [okD] at h
theorem okDL_can : ∀ {l : List Dat}, okDL l = true → PyData.canLayAll0 (toPyL l) = true
  | [], _ => by simp [toPyL, PyData.canLayAll0]
  | d :: ds, h => by
    rw [okDL, Bool.and_eq_true] at h
    rw [toPyL, PyData.canLayAll0, okD_can h.1, okDL_can h.2]
    rfl
end
theorem okDL_all {l : List Dat} : okDL l = true ↔ ∀ d ∈ l, okD d = true := by
  induction l with
  | nil => simp [okDL]
  | cons d l ih => rw [okDL, Bool.and_eq_true, ih, List.forall_mem_cons]
theorem li_ok (row : List Int) : ∀ (n : Nat) (a : Int) (d : Dat), TD n d → okD d = true → okD (liD row a d) = true ∧ (toPy (liD row a d)).depth ≤ n
  | n, a, .non, _, _ => by simp [liD, okD, toPy, PyData.depth]
  | n, a, .bl b, _, _ => by simp [liD, okD, toPy, PyData.depth]
  | n, a, .int i, _, _ => by simp [liD, okD, toPy, PyData.depth]
  | n, a, .str s, _, h => by
    rw [okD] at h
    simp [liD, okD, toPy, PyData.depth, h]
  | 0, a, .tup ds, h, _ => h.elim
  | n + 1, a, .tup ds, ⟨_, hx⟩, h => by
    rw [okD, okDL_all] at h
    have all : ∀ (l : List Dat) (k : Nat), (∀ x ∈ l, TD n x ∧ okD x = true) → okDL (liDL row a k l) = true ∧ PyData.depthAll (toPyL (liDL row a k l)) ≤ n := by
      intro l
      induction l with
      | nil => intro k _; simp [liDL, okDL, toPyL, PyData.depthAll]
      | cons x l ih =>
        intro k hl
        obtain ⟨h1, h2⟩ := ih (k + 1) fun y hy => hl y (List.mem_cons_of_mem _ hy)
        obtain ⟨h3, h4⟩ := hl x List.mem_cons_self
        obtain ⟨h5, h6⟩ := li_ok row n (3 * a + k + 1) x h3 h4
        rw [liDL, okDL, toPyL, PyData.depthAll, h5, h1]
        exact ⟨rfl, by omega⟩
    obtain ⟨h1, h2⟩ := all ds 0 fun x hx' => ⟨hx x hx', h x hx'⟩
    rw [liD]
    split
    · rw [okD, toPy, PyData.depth]
      exact ⟨h1, by omega⟩
    · rw [okD, toPy, PyData.depth]
      exact ⟨h1, by omega⟩
  | n, a, .lst ds, h, _ => by cases n <;> exact h.elim
  | n, a, .scr ds, h, _ => by cases n <;> exact h.elim
  | n, a, .dk ds, h, _ => by cases n <;> exact h.elim
  | n, a, .dt ds, h, _ => by cases n <;> exact h.elim
  | n, a, .at p q, h, _ => by cases n <;> exact h.elim
theorem li_shaped {row : List Int} {n : Nat} {a : Int} {d : Dat} (h : TD n d) (k : okD d = true) (hn : n ≤ 64) : SeqAt.shaped (toPy (liD row a d)) = true := by
  obtain ⟨h1, h2⟩ := li_ok row n a d h k
  unfold SeqAt.shaped
  rw [okD_can h1, Bool.true_and, decide_eq_true_eq]
  omega
section
variable {K : PySem.W.Frag}
/-- the copy may be emptied -/
theorem ru_of {H0 Hs H : Hp} (sm : Same Hs H) {n : Nat} {v : V} (h : NwT K H0 Hs n v) : RuV K (fun b => H0 b = none) H n v := by
  induction h with
  | leaf h => exact .leaf h
  | tup h _ ih => exact .tup (.inl (.inl (sm _ _ h))) ih
  | lst h n0 _ ih => exact .lst n0 (sm _ _ h) ih
mutual
/-- no list in it -/
def noLs : Dat → Bool
  | .lst _ => false
  | .scr _ => false
  | .tup l => noLsL l
  | .dk _ => false
  | .dt l => noLsT l
  | .at _ _ => false
  | _ => true
def noLsL : List Dat → Bool
  | [] => true
  | d :: ds => noLs d && noLsL ds
def noLsT : List (List Str × Dat) → Bool
  | [] => true
  | p :: ds => noLs p.2 && noLsT ds
end
mutual
theorem tr_keep {Hs Hs' : Hp} (hk : ∀ a u, Hs a = some u → (∀ xs, u ≠ .lst xs) → (∀ o xs, u ≠ .frz o (.lst xs)) → Hs' a = some u) : ∀ {v : V} {d : Dat}, Tr K Hs v d → noLs d = true → Tr K Hs' v d
  | _, _, .non, _ => .non
  | _, _, .bl b, _ => .bl b
  | _, _, .int i, _ => .int i
  | _, _, .str s, _ => .str s
  | _, _, .am q, _ => .am (by
    rcases q with (q | ⟨o, q⟩) | q
    · exact .inl (.inl (hk _ _ q (fun _ z => nomatch z) fun _ _ z => nomatch z))
    · exact .inl (.inr ⟨o, hk _ _ q (fun _ z => nomatch z) fun _ _ z => by cases z⟩)
    · exact .inr q)
  | _, _, .scr h, n => by simp [noLs] at n
  | _, _, .lst h t, n => by simp [noLs] at n
  | _, _, .tup h t, n => .tup (hk _ _ h (fun _ z => nomatch z) fun _ _ z => nomatch z) (trL_keep hk t (by rw [noLs] at n; exact n))
  | _, _, .dk h t, n => by simp [noLs] at n
  | _, _, .dt h t, n => .dt (hk _ _ h (fun _ z => nomatch z) fun _ _ z => nomatch z) (trT_keep hk t (by rw [noLs] at n; exact n))
  | _, _, .at h, n => by simp [noLs] at n
theorem trL_keep {Hs Hs' : Hp} (hk : ∀ a u, Hs a = some u → (∀ xs, u ≠ .lst xs) → (∀ o xs, u ≠ .frz o (.lst xs)) → Hs' a = some u) : ∀ {v : List V} {d : List Dat}, TrL K Hs v d → noLsL d = true → TrL K Hs' v d
  | _, _, .nil, _ => .nil
  | _, _, .cons h t, n => by
    rw [noLsL, Bool.and_eq_true] at n
    exact .cons (tr_keep hk h n.1) (trL_keep hk t n.2)
theorem trT_keep {Hs Hs' : Hp} (hk : ∀ a u, Hs a = some u → (∀ xs, u ≠ .lst xs) → (∀ o xs, u ≠ .frz o (.lst xs)) → Hs' a = some u) : ∀ {v : List (List Key × V)} {d : List (List Str × Dat)}, TrT K Hs v d → noLsT d = true → TrT K Hs' v d
  | _, _, .nil, _ => .nil
  | _, _, .cons h t, n => by
    rw [noLsT, Bool.and_eq_true] at n
    exact .cons (tr_keep hk h n.1) (trT_keep hk t n.2)
end
theorem noLs_ams : ∀ ws : List Am, noLsL (ws.map am) = true
  | [] => by simp [noLsL]
  | w :: ws => by rw [List.map_cons, noLsL, noLs_ams ws]; simp [am, noLs, noLsL]
theorem noLs_pt : ∀ p : Pnt, noLsT (mapV am p) = true
  | [] => by simp [mapV, noLsT]
  | w :: ws => by
    show noLsT ((w.1, am w.2) :: mapV am ws) = true
    rw [noLsT, noLs_pt ws]
    simp [am, noLs, noLsL]
theorem noLs_res (x : ResX) : noLs (resD x) = true := by
  cases x with
  | inl ws => simp [resD, noLs, noLsL, noLs_ams]
  | inr p => simp [resD, noLs, noLsL, ptD, noLs_pt]
/-- d[k] of a dict at a place -/
theorem evp_getTA {m : Option LkM} {δ : De} {i : Nat} {ta : TE} {p : Addr} {l : List (List Str × Dat)} {k : List Str} {d : Dat} (h : δ[i]? = some (some (.imm (.at p (.dt l))))) (hk : EvP K m ta δ (Eq (adr k))) (e : aget l k = some d) : EvP K m (tDGet (tVar i) ta) δ (Eq d) := fun Hs0 H0 Hs H σ r Q q => by
  obtain ⟨v, h1, h2⟩ := r.imm h
  cases h2 with
  | «at» h2 =>
    obtain ⟨p', kvs, ep, h3, h4⟩ := h2.dt_inv
    cases ep
    refine ⟨.ref p, h1, hk _ _ _ _ _ r _ fun v H1 Hs1 y e1 t1 p1 => ?_⟩
    subst p1
    obtain ⟨b, rfl, hb⟩ := Tr.adr_inv t1
    obtain ⟨v, g1, g2⟩ := h4.get e
    have s1 := (r.grow e1).sub
    exact ⟨p, v, rfl, .inr ⟨kvs, k.map .inr, b, s1.dT (e1.le _ _ h3), rfl, s1.tup hb, g1.symm⟩, q v H1 Hs1 d e1 (g2.mono e1.le) rfl⟩
end
/-! ### d.clear() of a dict by addresses -/
def rDClearT : V → List V → Hp → VK → Prop := fun x vs H Q => ∃ (a : Addr) (kvs : List (List Key × V)), x = .ref a ∧ vs = [] ∧ H a = some (.dT kvs) ∧ Q .non (upd H a (.dT []))
theorem mtd_clearT {X : Cx} : MtR X "dict.clear" rDClearT := by
  intro pins s σ H x vs v us Q I rx rv h
  obtain ⟨a, kvs, ex, ev, e, q⟩ := h
  subst ex
  subst ev
  obtain rfl : v = Value.ref a := rx
  have hus := rv.zero
  subst hus
  obtain ⟨z, hd, xs, rel, dd⟩ := dt_of I.hok e
  refine PySem.clear_keyed (knd := tupleKind (mixKind X.prog X.w)) ⟨xs, dd, rfl⟩ (fun h' dk sb => ?_) (by rw [PySem.pairsH_length, ← Paired.length rel]; exact z)
  obtain ⟨ys, dd', ey⟩ := dk
  have ey : ys = [] := by
    have := congrArg List.length ey
    rw [PySem.pairsH_length] at this
    exact List.length_eq_zero_iff.mp this
  subst ey
  obtain ⟨o, es, ep, ho, h2, h3, h4, _, h5⟩ := dd'
  exact ⟨.non, upd H a (.dT []), d_write (t' := s.toks) I (by rw [e]; exact True.intro) sb ⟨o, ho⟩ ⟨Nat.zero_le _, hd, [], .nil, o, es, ep, ho, h2, h3, h4, h5⟩, rfl, q⟩
theorem pe_dclearT {X : Cx} {o : Expr} {to : TE} {apos cpos : Pos} (ho : PE X o to) (hbase : attributeBase o "clear" X.env (eval o X.env) = eval o X.env := by rfl) (hline : (apos.endLine == cpos.line) = true := by rfl) : PE X (.Call (.Attribute o "clear" apos) [] [] cpos) (tBM0 X.K "dict" rDClearT to) :=
  pe_bm0 PySem.F.plainAttrs_dict PySem.F.slot_dict_clear PySem.F.type_dict_clear mtd_clearT ho hbase hline
end Tf
/-! text TfAE -/
/-! the law's use of solve, walked: the def -/
namespace Tf
open PySem PySem.Spec PyProof.Rows L2
local macro_rules | `(tactic| walk_at "ev1") => `(tactic| first
  | with_reducible exact evp_int | with_reducible exact evp_bl | with_reducible exact evp_str | with_reducible exact evp_non | with_reducible exact evp_gamA | with_reducible exact evp_gam | (with_reducible apply evp_var; (with_unfolding_all exact rfl))
  | with_reducible exact eva_nil | with_reducible apply eva_cons
  | with_reducible apply evp_op | (with_reducible apply evp_un (hr := ru_int)) | with_reducible apply evp_cb
  | with_reducible apply evp_tup' | (with_reducible show List.length _ ≤ 100000; simp; done)
  | with_reducible exact rv_int | with_reducible exact rv_bl | with_reducible apply rv_intC | with_reducible exact rv_eq (.int _ _) | with_reducible exact rv_ne (.int _ _)
  | (with_reducible apply rv_ix; (first | (with_unfolding_all exact Sq.tup _) | (with_unfolding_all exact Sq.lst _) | (with_reducible apply Sqx.sq; with_reducible assumption)); (with_unfolding_all exact rfl))
  | with_reducible exact rc_gcd
  | with_reducible exact rc_tupA | with_reducible exact rc_tupM
  | (with_reducible apply rc_tup; (first | (with_unfolding_all exact Sq.tup _) | (with_unfolding_all exact Sq.lst _) | (with_reducible apply Sqx.sq; with_reducible assumption)))
  | (with_reducible apply rc_lst; (first | (with_unfolding_all exact Sq.tup _) | (with_unfolding_all exact Sq.lst _) | (with_reducible apply Sqx.sq; with_reducible assumption)))
  | (with_reducible apply rc_len; (first | (with_unfolding_all exact Sq.tup _) | (with_unfolding_all exact Sq.lst _) | (with_reducible apply Sqx.sq; with_reducible assumption)))
  | with_reducible apply rv_cat
  | with_reducible exact evb_yes
  | with_reducible apply evb_test | with_reducible apply evb_B | with_reducible apply evb_not | with_reducible apply evb_and | with_reducible apply evb_or | with_reducible apply evp_and | with_reducible apply evp_or | with_reducible apply evp_not
  | (with_reducible refine fun _ => ?_))
local macro_rules | `(tactic| walk_at "ev") => `(tactic| repeat' walk_at "ev1")
def resXT (bs : List Bd) (T : Tab) : ResX := match mendS T (fstS bs) with
  | none => .inr (pntS T (numS bs) (fstS bs))
  | some s => .inl (wgtS (gr T s) bs (fstS bs))
theorem resS_eq (bs : List Bd) (T : Tab) : resS bs T = resD (resXT bs T) := by
  unfold resS resXT
  cases mendS T (fstS bs) <;> rfl
def toldR : ResX → ResX
  | .inl ws => .inl ws
  | .inr p => .inr ((sortA (p.map (·.1))).map fun k => (k, (aget p k).getD (0, 1)))
/-- the result for bs after N exchanges -/
def endX (bs : List Bd) (N : Nat) : ResX := resXT bs (itT (fstS bs) (tab0 bs) N)
def PtOk : ResX → Prop
  | .inl _ => True
  | .inr p => p.length ≤ 1000 ∧ ∀ t ∈ p, t.1 ≠ []
structure PreSo (a : List Bd × List Int × Nat) : Prop where
  row : a.2.1.length = 60
  td : TD 7 (.tup (a.1.map bdD))
  ok : okD (.tup (a.1.map bdD)) = true
  sol : PreSol (liD a.2.1 0 (.tup (a.1.map bdD)), a.1, a.2.2)
  right : PreRight a.1 (endX a.1 a.2.2)
  yes : rightS a.1 (endX a.1 a.2.2) = true
  pt : PtOk (endX a.1 a.2.2)
abbrev SpSo (K : PySem.W.Frag) : Sp := SpD K (fun a : List Bd × List Int × Nat => [.lst (a.1.map bdD), .lst (a.2.1.map .int)]) PreSo fun a d => d = toldD (toldR (endX a.1 a.2.2))
theorem noD_tms : ∀ l : List Tm, noDL (l.map tmD) = true
  | [] => by simp [noDL]
  | t :: l => by
    rw [List.map_cons, noDL, noD_tms l]
    have h1 : noD (am t.2) = true := rfl
    have h : noD (tmD t) = true := by
      unfold tmD
      rw [noD, noDL, noDL, noDL, noD_adr, h1]
      rfl
    rw [h]
    rfl
section
variable {P : Program} {w : World} {K : PySem.W.Frag} {mg : Str → Option Value} {base : Heap}
/-- behind the emptying: a refutation -/
theorem tail_inl {ws : List Am} {b : Addr} {ts : TS} {Pq : Pt} (h : Pq.rt (.tup [.non, .tup (ws.map am)])) (f : ∀ H0 H' v, Pq.fr H0 H' v) :
    Tf.T K none (tSeq (tIfS (tTest (tOp Tf.rIsN (tOp (rIx K) (tVar 3) (tC (.int 0))) (tC .non))) (tRet (tTup (tCons (tC .non) (tCons (tOp (rIx K) (tVar 3) (tC (.int 1))) tNil)))) tNext) ts) [none, none, none, some (.imm (.at b (resD (.inl ws)))), none, none, none] Pq := by
  have e3 : EvP K none (tVar 3) [none, none, none, some (.imm (.at b (resD (.inl ws)))), none, none, none] (Eq (resD (.inl ws))) := EvP.unAt (a := b) (evp_var rfl)
  refine q_when (b := true) (evb_test (evp_op (evp_op e3 evp_int (rv_ix (.tup _) rfl)) evp_non rv_isN)) (fun _ => ?_) fun c => nomatch c
  exact t_retE (evp_tup' (eva_cons evp_non (eva_cons (evp_op e3 evp_int (rv_ix (.tup _) rfl)) eva_nil)) (by show 2 ≤ 100000; decide)) h f
/-- the point, kept sorted -/
theorem told_pt {p : Pnt} {a : Addr} (h1 : p.length ≤ 1000) (h2 : ∀ t ∈ p, t.1 ≠ []) : EvP K none (tCB (rTup K) (tCons (tLc (iSeq K (tCB rSortT (tCons (tVar 4) tNil))) (gName 6) tYes (tTup (tCons (tVar 6) (tCons (tDGet (tVar 4) (tVar 6)) tNil))) [6]) tNil)) [none, none, none, none, some (.imm (.at a (ptD p))), none, none]
    (Eq (.tup (((sortA (p.map (·.1))).map fun k => (k, (aget p k).getD (0, 1))).map tmD))) := by
  have fr : ((mapV am p).map (·.1)) = p.map (·.1) := mapV_keys
  refine evp_cb (eva_cons (EvP.to (evp_lcA (l := sortA (p.map (·.1))) (enc := adr) (fun k => tmD (k, (aget p k).getD (0, 1))) ?_ (fun _ _ => offm_none) ?_ fun k hk => ?_) (y := .lst (((sortA (p.map (·.1))).map fun k => (k, (aget p k).getD (0, 1))).map tmD)) (by rw [List.map_map]; rfl)) eva_nil) (rc_tup (.lst _))
  · refine evi_sq (evp_cb (eva_cons (EvP.unAt (a := a) (d := ptD p) (evp_var rfl)) eva_nil) (R := Eq (.lst ((sortA (p.map (·.1))).map adr))) ?_) (.lst _)
    rw [← fr]
    refine rc_sortT (by rw [mapV_len]; exact h1) fun q hq => ?_
    have : q.1 ∈ p.map (·.1) := by rw [← fr]; exact List.mem_map.mpr ⟨q, hq, rfl⟩
    obtain ⟨t, ht, e⟩ := List.mem_map.mp this
    rw [← e]
    exact h2 t ht
  · rw [(sortA_perm _).length_eq, List.length_map]; omega
  · obtain ⟨v, hv⟩ := aget_key ((sortA_perm _).mem_iff.mp hk)
    have hg : aget (mapV am p) k = some (am v) := by rw [aget_mapV, hv]; rfl
    refine ⟨_, _, evg_name, by decide, EvP.to (evp_tup' (eva_cons (evp_var rfl) (eva_cons (evp_getTA (p := a) (l := mapV am p) rfl (evp_var rfl) hg) eva_nil)) (by show 2 ≤ 100000; decide)) ?_⟩
    rw [hv]
    rfl
/-- the point is emptied, spoilt; the sorted pairs go back -/
theorem tail_end {l : List Tm} {Pq : Pt} (h : Pq.rt (.tup [.tup (l.map tmD), .non])) (f : ∀ H0 H' v, Pq.fr H0 H' v) :
    Tf.T K none (tSeq (sDPut (tVar 4) (tTup (tCons (tC (.str "q")) (tCons (tC (.str "7")) tNil))) (tTup (tCons (tC (.int 1)) (tCons (tC (.int 1)) tNil)))) (tRet (tTup (tCons (tVar 5) (tCons (tC .non) tNil))))) [none, none, none, none, some (.ot []), some (.imm (.tup (l.map tmD))), none] Pq := by
  refine t_seq (t_putT (A := Eq (.tup [.int 1, .int 1])) (l := []) (k := ["q", "7"]) rfl (evp_tup' (eva_cons evp_int (eva_cons evp_int eva_nil)) (by show 2 ≤ 100000; decide)) (evp_tup' (eva_cons evp_str (eva_cons evp_str eva_nil)) (by show 2 ≤ 100000; decide)) (by show 0 < 100000; decide) fun d e => ?_)
  exact t_retE (evp_tup' (eva_cons (evp_var rfl) (eva_cons evp_non eva_nil)) (by show 2 ≤ 100000; decide)) h f
theorem ok_law_solved (T : Tx P K mg base) (C_law_listed : Cal P w K mg base 44 "_law_listed" ["_law_value_here", "_law_row_here", "_law_at"] [] (SpLi K 7)) (C_law_ruined : Cal P w K mg base 44 "_law_ruined" ["_law_value_here"] [] (SpRu K 7))
    (C_solve : Cal P w K mg base 39 "solve" ["bounds"] [] (SpSol K)) (C_law_right : Cal P w K mg base 40 "_law_right" ["_law_actual", "_law_bounds"] [] (SpRig K)) :
    Cal P w K mg base 45 "_law_solved" ["_law_bounds", "_law_lists"] [] (SpSo K) := by
  refine cal_ofR (k := 44) T.d_law_solved scLawSolved (fun vs H Q E h => by obtain ⟨a, Hs, _, tr, _⟩ := h; rw [tr.length]; rfl) (fun _ _ _ _ _ _ us hl => match us, hl with | [_, _], _ => rfl) fun cdv f A outer s H Q E hr => ?_
  have hu := hu_of hr
  refine ⟨_, (pss_cons (ps_set (i := 2) scLawSolved.nd rfl (Or.inl rfl) (pe_cal C_law_listed hr (by rfl) (pa_cons (pe_callTy (cr_tup (K := K)) (by rfl) T.n_tuple (by decide +kernel) (pa_cons (pv 0) pa_nil)) (pa_cons (pv 1) (pa_cons pe_int pa_nil)))))
  (pss_cons (ps_set (i := 3) scLawSolved.nd rfl (Or.inl rfl) (pe_cal C_solve (hr.mono (by decide)) (by rfl) (pa_cons (pv 2) pa_nil)))
  (pss_cons (ps_if (pt_not (pt_val (pe_cal C_law_right (hr.mono (by decide)) (by rfl) (pa_cons (pv 3) (pa_cons (pv 0) pa_nil))))) (pss_one (ps_ret pe_non)) pss_nil)
  (pss_cons (ps_if (pt_cmpR (op_neX (K := K) hr) (pv 2) (pe_cal C_law_listed hr (by rfl) (pa_cons (pe_callTy (cr_tup (K := K)) (by rfl) T.n_tuple (by decide +kernel) (pa_cons (pv 0) pa_nil)) (pa_cons (pv 1) (pa_cons pe_int pa_nil)))) (nomark _)) (pss_one (ps_ret pe_non)) pss_nil)
  (pss_cons (ps_expr (pe_cal C_law_ruined hr (by rfl) (pa_cons (pv 2) pa_nil)))
  (pss_cons (ps_if (pt_cmpR op_isNo (pe_ix (ixK (K := K)) (pv 3) pe_int (fun _ _ => rfl)) pe_non (nomark _)) (pss_one (ps_ret (pe_tup (pa_cons pe_non (pa_cons (pe_ix (ixK (K := K)) (pv 3) pe_int (fun _ _ => rfl)) pa_nil))))) pss_nil)
  (pss_cons (ps_set (i := 4) scLawSolved.nd rfl (Or.inr rfl) (pe_ix (ixK (K := K)) (pv 3) pe_int (fun _ _ => rfl)))
  (pss_cons (ps_set (i := 5) scLawSolved.nd rfl (Or.inl rfl) (pe_callTy (cr_tup (K := K)) (by rfl) T.n_tuple (by decide +kernel) (pa_cons (pe_lc (own := [("_law_address", 6)]) rfl scLawSolved.nd (pi_seq (K := K) (pe_callB (cr_sortT hr) (by rfl) T.n_sorted (by decide +kernel) (pa_cons (pv 4) pa_nil))) (blkOk_by (own := [("_law_address", 6)]) (N := nLawSolved) (sc := defScope sLawSolved) (by decide +kernel)) (fun _ _ _ _ _ => (pg_name (i := 6) scLawSolved.nd rfl (Or.inl rfl))) (fun _ _ _ _ _ => pts_nil) (fun _ _ _ _ _ => (pe_tup (pa_cons (pv 6) (pa_cons (pe_dget hu (pv 4) (pv 6) (fun _ _ => rfl)) pa_nil))))) pa_nil)))
  (pss_cons (ps_expr (pe_dclearT (pv 4)))
  (pss_cons (ps_dput hu (pv 4) (pe_tup (pa_cons pe_str (pa_cons pe_str pa_nil))) (pe_tup (pa_cons pe_int (pa_cons pe_int pa_nil))) rfl)
  (pss_one (ps_ret (pe_tup (pa_cons (pv 5) (pa_cons pe_non pa_nil))))))))))))))), fun vs h => ?_⟩
  obtain ⟨⟨bs, row, N⟩, Hs0, sm, tr, ⟨h60, td, hok, sol, right, yes, hpt⟩, q⟩ := h
  have h60 : row.length = 60 := h60
  try dsimp only [cxK]
  generalize hX : endX bs N = X at right yes hpt
  have q : ∀ v H' Hs' d, Ext Hs0 H Hs' H' → Tr K Hs' v d → d = toldD (toldR X) → Q v H' := fun v H' Hs' d e t p => q v H' Hs' d e t (by show d = toldD (toldR (endX bs N)); rw [hX]; exact p)
  have r0 := start_SR (N := nLawSolved) sm tr
  have hli : ∀ (δ : De), δ[0]? = some (some (.imm (.lst (bs.map bdD)))) → δ[1]? = some (some (.imm (.lst (row.map .int)))) → EvV K (tCall (SpLi K 7) [] E0 (tCons (tCB (rTup K) (tCons (tVar 0) tNil)) (tCons (tVar 1) (tCons (tC (.int 0)) tNil)))) δ (Eq (liD row 0 (.tup (bs.map bdD)))) (fun H0 Hs v => NwT K H0 Hs 7 v) := fun δ e0 e1 =>
    evv_callE (.tup (bs.map bdD), row, 0) (eva_cons (evp_cb (eva_cons (evp_var e0) eva_nil) (rc_tup (.lst _))) (eva_cons (evp_var e1) (eva_cons evp_int eva_nil))) ⟨td, h60, Int.le_refl _, by show (0 + 1 : Int) * 4096 ^ 7 < 2 ^ 200; decide⟩ (fun d q => q) fun H0 H Hs v e h => h.mono e (Same.refl _)
  -- the copy
  rw [tSeq_eq, tAsg_eq]
  refine hli _ rfl rfl _ _ _ _ _ r0 _ fun v2 H1 Hs1 d1 e1 t1 p1 w1 => ?_
  subst p1
  have r1 := (r0.grow e1).set_imm 2 t1 offm_none
  dsimp only [gName]
  -- solve
  rw [tSeq_eq, tAsg_eq]
  have hso : EvV K (tCall (SpSol K) [] E0 (tCons (tVar 2) tNil)) [some (.imm (.lst (bs.map bdD))), some (.imm (.lst (row.map .int))), some (.imm (liD row 0 (.tup (bs.map bdD)))), none, none, none, none] (Eq (resD X)) NewP :=
    evv_callE (liD row 0 (.tup (bs.map bdD)), bs, N) (eva_cons (evp_var rfl) eva_nil) sol (fun d e => by rw [e]; show resS bs _ = _; rw [resS_eq, ← hX]; rfl) fun H0 H Hs v e ⟨a, x, y, h1, h2, h3⟩ => ⟨a, x, y, h1, h2, h3.imp id fun ⟨p, e1, e2⟩ => ⟨p, e1, by
      cases z : H0 p with
      | none => rfl
      | some o => rw [e _ _ z] at e2; cases e2⟩⟩
  refine hso _ _ _ _ _ r1 _ fun v3 H2 Hs2 d2 e2 t2 p2 w2 => ?_
  subst p2
  have r2 := (r1.grow e2).set_imm 3 t2 offm_none
  dsimp only [gName]
  -- it is right
  rw [tSeq_eq, tIfS_eq]
  have hb3 : EvB K none (tNot (tTest (tCall (SpRig K) [] E0 (tCons (tVar 3) (tCons (tVar 0) tNil))))) [some (.imm (.lst (bs.map bdD))), some (.imm (.lst (row.map .int))), some (.imm (liD row 0 (.tup (bs.map bdD)))), some (.imm (resD X)), none, none, none] false :=
    EvB.to (evb_not (evb_test (evp_callE (bs, X) (eva_cons (evp_var rfl) (eva_cons (evp_var rfl) eva_nil)) right fun d q => q))) (by show (!rightS bs X) = false; rw [yes]; rfl)
  refine hb3 _ _ _ _ _ r2 _ fun H3 Hs3 e3 => iteF ?_
  have r3 := r2.grow e3
  -- the copy is what it was
  dsimp only [tNext]
  rw [tSeq_eq, tIfS_eq]
  have hb4 : EvB K none (tTest (tOp (rNeD K) (tVar 2) (tCall (SpLi K 7) [] E0 (tCons (tCB (rTup K) (tCons (tVar 0) tNil)) (tCons (tVar 1) (tCons (tC (.int 0)) tNil)))))) [some (.imm (.lst (bs.map bdD))), some (.imm (.lst (row.map .int))), some (.imm (liD row 0 (.tup (bs.map bdD)))), some (.imm (resD X)), none, none, none] false := by
    refine evb_test (evp_op (evp_var rfl) (x := liD row 0 (.tup (bs.map bdD))) (y := liD row 0 (.tup (bs.map bdD))) ?_ (rv_neSelf (okD_no (li_ok row 7 0 _ td hok).1) (li_shaped td hok (by decide))))
    intro a b c d e f g k
    exact hli _ rfl rfl a b c d e f g fun v H' Hs' d' x t p _ => k v H' Hs' d' x t p
  refine hb4 _ _ _ _ _ r3 _ fun H4 Hs4 e4 => iteF ?_
  have r4 := r3.grow e4
  dsimp only [tNext]
  rw [tSeq_eq]
  -- what is known of the two values
  have g2 : (((start nLawSolved vs).set 2 (some v2)).set 3 (some v3))[2]? = some (some v2) := by
    rw [List.getElem?_set_ne (by decide)]
    exact List.getElem?_set_self (by rw [r0.len]; show 2 < 7; decide)
  have g3 : (((start nLawSolved vs).set 2 (some v2)).set 3 (some v3))[3]? = some (some v3) := List.getElem?_set_self (by rw [List.length_set, r0.len]; show 3 < 7; decide)
  have w14 : NwT K H Hs4 7 v2 := w1.mono (Same.refl _) (((e2.le.trans e3.le)).trans e4.le)
  have t24 := (t2.mono e3.le).mono e4.le
  obtain ⟨b, x3, y3, ev3, hb3, hx3⟩ := w2
  have hb4' := e4.le _ _ (e3.le _ _ hb3)
  subst ev3
  refine ⟨v2, g2, v2, fun b => H b = none, rfl, ru_of r4.lk w14, fun H5 cg => ?_⟩
  -- the shared part without the new lists
  let Hs5 : Hp := fun a => match Hs4 a, H a with
    | some (.lst _), none => none
    | u, _ => u
  have s5 : ∀ a u, Hs5 a = some u → Hs4 a = some u := fun a u e => by
    show Hs4 a = some u
    have e : (match Hs4 a, H a with | some (.lst _), none => none | u, _ => u) = some u := e
    split at e
    · cases e
    · exact e
  have n5 : ∀ a xs, Hs5 a = some (.lst xs) → H a ≠ none := fun a xs e z => by
    have e1 := s5 a _ e
    have e : (match Hs4 a, H a with | some (.lst _), none => none | u, _ => u) = some (.lst xs) := e
    rw [e1, z] at e
    cases e
  have k5 : ∀ a u, Hs4 a = some u → (∀ xs, u ≠ .lst xs) → Hs5 a = some u := fun a u e n => by
    show (match Hs4 a, H a with | some (.lst _), none => none | u, _ => u) = some u
    rw [e]
    split
    · next xs _ h _ => cases h; exact absurd rfl (n _)
    · rfl
  have o5 : ∀ a u, Hs4 a = some u → H a ≠ none → Hs5 a = some u := fun a u e n => by
    show (match Hs4 a, H a with | some (.lst _), none => none | u, _ => u) = some u
    rw [e]
    split
    · next h => exact absurd h n
    · rfl
  have lk5 : Same Hs5 H5 := fun a u e => by
    rcases cg a u (r4.lk a u (s5 a u e)) with z | ⟨l, ⟨xs, rfl⟩, _⟩
    · exact z
    · exact absurd l (n5 a xs e)
  have nu5 : ∀ a u, Hs5 a = some u → Hs0 a = some u ∨ H5 a = some u := fun a u e => .inr (lk5 a u e)
  have same5 : Same H H5 := fun a u e => by
    rcases cg a u (r4.ext.same a u e) with z | ⟨l, _, _⟩
    · exact z
    · rw [e] at l; cases l
  have le5 : Same Hs0 Hs5 := fun a u e => o5 a u (r4.ext.le a u e) (by rw [sm a u e]; simp)
  have out5 : ∀ b u, H b = some u → (∀ xs, u ≠ .tup xs) → Hs0 b = none → Hs5 b = none := fun a u e nt n => by
    cases z : Hs5 a with
    | none => rfl
    | some o =>
      have h := s5 a o z
      rw [r4.ext.out a u e nt n] at h
      cases h
  have ext5 : Ext Hs0 H Hs5 H5 := ⟨nu5, same5, le5, out5⟩
  have t5 : Tr K Hs5 (.ref b) (resD X) := tr_keep (fun a u e n _ => k5 a u e n) t24 (noLs_res X)
  have hb5 : Hs5 b = some (.tup [x3, y3]) := k5 b _ hb4' fun xs z => nomatch z
  have r5 : SR K none Hs0 H Hs5 H5 (((start nLawSolved vs).set 2 (some v2)).set 3 (some (.ref b))) [none, none, none, some (.imm (.at b (resD X))), none, none, none] := by
    refine ⟨ext5, lk5, r4.len, fun i s e => ?_, fun i j s t v ne e1 o1 e2 o2 => ?_⟩
    · match i, e with
      | 3, e =>
        cases e
        exact ⟨_, g3, .at t5⟩
      | i + 7, e => cases e
    · match i, e1 with
      | 3, e1 => cases e1; cases o1
      | i + 7, e1 => cases e1
  dsimp only
  cases X with
  | inl ws =>
    exact tail_inl (ws := ws) (b := b) (Pq := { nx := fun _ => False, rt := fun d => d = toldD (toldR (.inl ws)) }) rfl (fun _ _ _ => trivial) Hs0 H Hs5 H5 _ _ r5 (fun _ _ _ _ _ _ z => z.elim) (fun v H' Hs' d e t p _ => q v H' Hs' d e t p) (fun _ _ _ _ _ _ z => z.elim) fun _ _ _ _ _ _ z => z.elim
  | inr p =>
    obtain ⟨hp1, hp2⟩ := hpt
    have tl : TrL K Hs5 [x3, y3] [ptD p, .non] := by
      generalize e : resD (.inr p) = d at t5
      cases t5 with
      | tup h t =>
        cases e
        rw [hb5] at h
        cases h
        exact t
      | am h => cases e
      | _ => cases e
    obtain ⟨z, zs, ez, tp, _⟩ := tl.cons_inv
    cases ez
    obtain ⟨pa, kvs, ep, hpa, tk⟩ := tp.dt_inv
    subst ep
    have npa : H pa = none := by
      rcases hx3 with z | ⟨p', z, n⟩
      · cases z
      · cases z; exact n
    rw [tSeq_eq, tIfS_eq]
    have e3' : EvP K none (tVar 3) [none, none, none, some (.imm (.at b (resD (.inr p)))), none, none, none] (Eq (resD (.inr p))) := EvP.unAt (a := b) (evp_var rfl)
    have hb6 : EvB K none (tTest (tOp Tf.rIsN (tOp (rIx K) (tVar 3) (tC (.int 0))) (tC .non))) [none, none, none, some (.imm (.at b (resD (.inr p)))), none, none, none] false := evb_test (evp_op (evp_op e3' evp_int (rv_ix (.tup _) rfl)) evp_non rv_isN)
    refine hb6 _ _ _ _ _ r5 _ fun H6 Hs6 e6 => iteF ?_
    have r6 := r5.grow e6
    dsimp only [tNext]
    rw [tSeq_eq, tAsg_eq]
    have hb6' := e6.le _ _ hb5
    refine ⟨.ref b, g3, .inr (.inl ⟨b, [.ref pa, y3], 0, .ref pa, rfl, rfl, .inl (.inl (r6.lk _ _ hb6')), rfl, ?_⟩)⟩
    dsimp only [gName]
    have r7a := r6.set_imm 4 (.at (tp.mono e6.le)) offm_none
    have l7 := r7a.len
    have r7 : SR K none Hs0 H Hs6 H6 ((((start nLawSolved vs).set 2 (some v2)).set 3 (some (.ref b))).set 4 (some (.ref pa))) [none, none, none, none, some (.imm (.at pa (ptD p))), none, none] := r7a.weak l7 r7a.lk fun i s e => by
      match i, e with
      | 4, e => exact ⟨e, rfl⟩
      | i + 7, e => cases e
    have g4 : ((((start nLawSolved vs).set 2 (some v2)).set 3 (some (.ref b))).set 4 (some (.ref pa)))[4]? = some (some (.ref pa)) := List.getElem?_set_self (by rw [List.length_set, List.length_set, r0.len]; show 4 < 7; decide)
    rw [tSeq_eq, tAsg_eq]
    refine told_pt hp1 hp2 _ _ _ _ _ r7 _ fun v8 H8 Hs8 d8 e8 t8 p8 => ?_
    subst p8
    dsimp only [gName]
    have r8 := (r7.grow e8).set_imm 5 t8 offm_none
    have hpa8 := e8.le _ _ (e6.le _ _ hpa)
    have g48 : (((((start nLawSolved vs).set 2 (some v2)).set 3 (some (.ref b))).set 4 (some (.ref pa))).set 5 (some v8))[4]? = some (some (.ref pa)) := by
      rw [List.getElem?_set_ne (by decide)]
      exact g4
    have g58 : (((((start nLawSolved vs).set 2 (some v2)).set 3 (some (.ref b))).set 4 (some (.ref pa))).set 5 (some v8))[5]? = some (some v8) := List.getElem?_set_self (by rw [r7.len]; show 5 < 7; decide)
    rw [tSeq_eq]
    refine ⟨.ref pa, g48, .inr (.inr (.inl ⟨rfl, .inr ⟨kvs, r8.lk _ _ hpa8⟩⟩)), pa, kvs, rfl, rfl, r8.lk _ _ hpa8, ?_⟩
    have r9 : SR K none Hs0 H (rmH Hs8 pa) (upd H8 pa (.dT [])) (((((start nLawSolved vs).set 2 (some v2)).set 3 (some (.ref b))).set 4 (some (.ref pa))).set 5 (some v8)) [none, none, none, none, some (.ot []), some (.imm (.tup (((sortA (p.map (·.1))).map fun k => (k, (aget p k).getD (0, 1))).map tmD))), none] := by
      have back : ∀ a u, rmH Hs8 pa a = some u → a ≠ pa ∧ Hs8 a = some u := fun a u e => by
        by_cases c : a = pa
        · subst c; rw [rm_same] at e; cases e
        · rw [rm_ne c] at e; exact ⟨c, e⟩
      have nH : ∀ a u, H a = some u → a ≠ pa := fun a u e c => by subst c; rw [npa] at e; cases e
      refine ⟨⟨fun a u e => ?_, fun a u e => ?_, fun a u e => ?_, fun a u e nt n => ?_⟩, fun a u e => ?_, r8.len, fun i s e => ?_, fun i j s t v ne e1 o1 e2 o2 => ?_⟩
      · obtain ⟨c, e⟩ := back a u e
        rcases r8.ext.nu a u e with z | z
        · exact .inl z
        · exact .inr (by rw [upd_ne c]; exact z)
      · rw [upd_ne (nH a u e)]
        exact r8.ext.same a u e
      · rw [rm_ne (nH a u (sm a u e))]
        exact r8.ext.le a u e
      · rw [rm_ne (nH a u e)]
        exact r8.ext.out a u e nt n
      · obtain ⟨c, e⟩ := back a u e
        rw [upd_ne c]
        exact r8.lk a u e
      · match i, e with
        | 4, e =>
          cases e
          exact ⟨_, g48, pa, [], rfl, upd_same, .nil, rm_same, npa⟩
        | 5, e =>
          cases e
          exact ⟨_, g58, tr_rm hpa8 (.inr ⟨kvs, rfl⟩) t8 (by rw [noD]; exact noD_tms _)⟩
        | i + 7, e => cases e
      · match i, e1, j, e2 with
        | 4, e1, 4, e2 => exact absurd rfl ne
        | 4, e1, 5, e2 => cases e2; cases o2
        | 4, e1, j + 7, e2 => cases e2
        | 5, e1, _, _ => cases e1; cases o1
        | i + 7, e1, _, _ => cases e1
    exact tail_end (l := (sortA (p.map (·.1))).map fun k => (k, (aget p k).getD (0, 1))) (Pq := { nx := fun _ => False, rt := fun d => d = toldD (toldR (.inr p)) }) rfl (fun _ _ _ => trivial) Hs0 H _ _ _ _ r9 (fun _ _ _ _ _ _ z => z.elim) (fun v H' Hs' d e t p _ => q v H' Hs' d e t p) (fun _ _ _ _ _ _ z => z.elim) fun _ _ _ _ _ _ z => z.elim
end
end Tf
/-! text TgA -/
/-! plain: dicts as functions -/
namespace Tf
section
variable {κ α β : Type} [DecidableEq κ]
theorem aget_none {l : List (κ × α)} {k : κ} (h : k ∉ l.map (·.1)) : aget l k = none := by
  cases e : aget l k with
  | none => rfl
  | some v => exact absurd (List.mem_map.mpr ⟨_, aget_mem e, rfl⟩) h
theorem aget_isKey {l : List (κ × α)} {k : κ} : (aget l k).isSome = true ↔ k ∈ l.map (·.1) := by
  constructor
  · intro h
    obtain ⟨v, hv⟩ := Option.isSome_iff_exists.mp h
    exact List.mem_map.mpr ⟨_, aget_mem hv, rfl⟩
  · intro h
    obtain ⟨v, hv⟩ := aget_key h
    rw [hv]; rfl
theorem aget_cons (p : κ × α) (l : List (κ × α)) (k : κ) : aget (p :: l) k = if p.1 = k then some p.2 else aget l k := by
  unfold aget
  by_cases c : p.1 = k
  · rw [List.find?_cons_of_pos (by simpa using c), if_pos c]; rfl
  · rw [List.find?_cons_of_neg (by simpa using c), if_neg c]
theorem aget_nil (k : κ) : aget ([] : List (κ × α)) k = none := rfl
theorem aput_keyI {l : List (κ × α)} {k x : κ} {v : α} : x ∈ (aput l k v).map (·.1) ↔ x ∈ l.map (·.1) ∨ x = k := by
  refine ⟨aput_key, fun h => ?_⟩
  unfold aput
  split
  · next c =>
    rw [List.map_map]
    rcases h with h | h
    · obtain ⟨p, hp, e⟩ := List.mem_map.mp h
      refine List.mem_map.mpr ⟨p, hp, ?_⟩
      show (if p.1 = k then (p.1, v) else p).1 = x
      split <;> exact e
    · subst h
      obtain ⟨p, hp, e⟩ := List.any_eq_true.mp c
      have e : p.1 = x := by simpa using e
      refine List.mem_map.mpr ⟨p, hp, ?_⟩
      show (if p.1 = x then (p.1, v) else p).1 = x
      rw [if_pos e]; exact e
  · rw [List.map_append]
    rcases h with h | h
    · exact List.mem_append_left _ h
    · exact List.mem_append_right _ (by simpa using h)
theorem aput_nodup {l : List (κ × α)} {k : κ} {v : α} (h : (l.map (·.1)).Nodup) : ((aput l k v).map (·.1)).Nodup := by
  unfold aput
  split
  · rw [List.map_map]
    have e : l.map ((fun p : κ × α => p.1) ∘ fun p => if p.1 = k then (p.1, v) else p) = l.map (·.1) := List.map_congr_left fun p _ => by
      show (if p.1 = k then (p.1, v) else p).1 = p.1
      split <;> rfl
    rw [e]
    exact h
  · next c =>
    rw [List.map_append]
    refine List.nodup_append.mpr ⟨h, by simp, fun a ha b hb e => ?_⟩
    have hb : b = k := by simpa using hb
    subst e
    subst hb
    obtain ⟨p, hp, e⟩ := List.mem_map.mp ha
    exact c (List.any_eq_true.mpr ⟨p, hp, by simpa using e⟩)
theorem aget_upd (k x : κ) (v : α) : ∀ l : List (κ × α), aget (l.map fun p => if p.1 = k then (p.1, v) else p) x = if x = k then (aget l x).map (fun _ => v) else aget l x
  | [] => by
    rw [List.map_nil, aget_nil]
    split <;> rfl
  | p :: l => by
    rw [List.map_cons, aget_cons, aget_cons, aget_upd k x v l]
    by_cases c : x = k
    · subst c
      by_cases d : p.1 = x <;> simp [d]
    · by_cases d : p.1 = k
      · rw [if_pos d, if_neg c, if_neg c]
        have : ¬ p.1 = x := fun e => c (e ▸ d)
        rw [if_neg this, if_neg this]
      · rw [if_neg d, if_neg c, if_neg c]
theorem aget_app (l m : List (κ × α)) (x : κ) : aget (l ++ m) x = (aget l x).or (aget m x) := by
  induction l with
  | nil => rfl
  | cons p l ih =>
    rw [List.cons_append, aget_cons, aget_cons, ih]
    split <;> rfl
theorem aget_aput (l : List (κ × α)) (k x : κ) (v : α) : aget (aput l k v) x = if x = k then some v else aget l x := by
  unfold aput
  split
  · next c =>
    rw [aget_upd]
    split
    · next e =>
      subst e
      obtain ⟨p, hp, e⟩ := List.any_eq_true.mp c
      have e : p.1 = x := by simpa using e
      obtain ⟨w, hw⟩ := aget_key (l := l) (k := x) (List.mem_map.mpr ⟨p, hp, e⟩)
      rw [hw]; rfl
    · rfl
  · next c =>
    rw [aget_app]
    by_cases e : x = k
    · subst e
      rw [if_pos rfl, aget_none, aget_cons, if_pos rfl]
      · rfl
      · intro h
        obtain ⟨p, hp, e⟩ := List.mem_map.mp h
        exact c (List.any_eq_true.mpr ⟨p, hp, by simpa using e⟩)
    · rw [if_neg e, aget_cons, if_neg (fun h => e h.symm), aget_nil, Option.or_none]
theorem aget_of_mem {l : List (κ × α)} {k : κ} {v : α} (n : (l.map (·.1)).Nodup) (h : (k, v) ∈ l) : aget l k = some v := by
  induction l with
  | nil => cases h
  | cons p l ih =>
    rw [List.map_cons] at n
    obtain ⟨n1, n2⟩ := List.nodup_cons.mp n
    rw [aget_cons]
    rcases List.mem_cons.mp h with e | h
    · subst e; rw [if_pos rfl]
    · rw [if_neg (fun e => n1 (by rw [e]; exact List.mem_map.mpr ⟨_, h, rfl⟩))]
      exact ih n2 h
/-- a fold of puts, the value by the key alone -/
theorem aget_fold (f : κ → α) : ∀ (ks : List κ) (acc : List (κ × α)) (x : κ), aget (ks.foldl (fun acc k => aput acc k (f k)) acc) x = if x ∈ ks then some (f x) else aget acc x
  | [], acc, x => by simp
  | k :: ks, acc, x => by
    rw [List.foldl_cons, aget_fold f ks, aget_aput]
    by_cases h : x ∈ ks
    · rw [if_pos h, if_pos (List.mem_cons_of_mem _ h)]
    · rw [if_neg h]
      by_cases e : x = k
      · subst e
        rw [if_pos rfl, if_pos List.mem_cons_self]
      · rw [if_neg e, if_neg]
        intro z
        rcases List.mem_cons.mp z with z | z
        · exact e z
        · exact h z
theorem fold_nodup (F : List (κ × α) → β → List (κ × α)) (h : ∀ acc x, (acc.map (·.1)).Nodup → ((F acc x).map (·.1)).Nodup) : ∀ (l : List β) (acc : List (κ × α)), (acc.map (·.1)).Nodup → ((l.foldl F acc).map (·.1)).Nodup
  | [], _, n => n
  | x :: l, acc, n => fold_nodup F h l (F acc x) (h acc x n)
theorem fold_keyI (f : κ → α) (ks : List κ) (acc : List (κ × α)) (x : κ) : x ∈ (ks.foldl (fun acc k => aput acc k (f k)) acc).map (·.1) ↔ x ∈ ks ∨ x ∈ acc.map (·.1) := by
  rw [← aget_isKey, aget_fold, ← aget_isKey]
  split
  · next h => simp [h]
  · next h => simp [h]
end
/-! ### rows -/
theorem gt_nil (k : Int) : gt [] k = 0 := rfl
theorem gt_aput (r : Row) (k x v : Int) : gt (aput r k v) x = if x = k then v else gt r x := by
  unfold gt
  rw [aget_aput]
  split <;> rfl
theorem gt_none {r : Row} {k : Int} (h : k ∉ r.map (·.1)) : gt r k = 0 := by unfold gt; rw [aget_none h]; rfl
theorem gt_fold (f : Int → Int) (ks : List Int) (acc : Row) (x : Int) : gt (ks.foldl (fun acc k => aput acc k (f k)) acc) x = if x ∈ ks then f x else gt acc x := by
  unfold gt
  rw [aget_fold]
  split <;> rfl
theorem gt_wit1 (row piv : Row) (q k : Int) : gt (wit1 row piv q) k = -(gt piv q) * gt row k := by
  unfold wit1
  rw [gt_fold (fun k => -(gt piv q) * gt row k)]
  split
  · rfl
  · next h => rw [gt_none h, Int.mul_zero]; rfl
theorem gt_witF (row piv : Row) (q : Int) : ∀ (ks : List Int) (acc : Row) (k : Int), ks.Nodup → gt (ks.foldl (witF row piv q) acc) k = gt acc k + if k ∈ ks then gt row q * gt piv k else 0
  | [], acc, k, _ => by simp
  | x :: ks, acc, k, n => by
    obtain ⟨n1, n2⟩ := List.nodup_cons.mp n
    rw [List.foldl_cons, gt_witF row piv q ks _ k n2]
    unfold witF
    rw [gt_aput]
    by_cases e : k = x
    · subst e
      rw [if_pos rfl, if_neg n1, if_pos List.mem_cons_self]
      omega
    · rw [if_neg e]
      congr 1
      have : k ∈ x :: ks ↔ k ∈ ks := by simp [e]
      simp only [this]
theorem gt_wit2 (row piv : Row) (q k : Int) (n : (piv.map (·.1)).Nodup) : gt (wit2 row piv q) k = -(gt piv q) * gt row k + gt row q * gt piv k := by
  unfold wit2
  rw [gt_witF _ _ _ _ _ _ n, gt_wit1]
  split
  · rfl
  · next h => rw [gt_none h, Int.mul_zero]
theorem wit2_nodup (row piv : Row) (q : Int) : ((wit2 row piv q).map (·.1)).Nodup := by
  unfold wit2
  refine fold_nodup _ (fun acc x h => aput_nodup h) _ _ ?_
  unfold wit1
  exact fold_nodup _ (fun acc x h => aput_nodup h) _ _ (by simp)
theorem gcdF_dvd (f : Row) : ∀ (l : List Int) (d : Int), l.foldl (gcdF f) d ∣ d ∧ ∀ k ∈ l, l.foldl (gcdF f) d ∣ gt f k
  | [], d => ⟨Int.dvd_refl d, fun k h => nomatch h⟩
  | k :: l, d => by
    obtain ⟨a, b⟩ := gcdF_dvd f l (gcdF f d k)
    have h1 : gcdF f d k ∣ d := Int.gcd_dvd_left d (gt f k)
    have h2 : gcdF f d k ∣ gt f k := Int.gcd_dvd_right d (gt f k)
    refine ⟨Int.dvd_trans a h1, fun k' hk => ?_⟩
    rcases List.mem_cons.mp hk with e | e
    · subst e; exact Int.dvd_trans a h2
    · exact b k' e
theorem gcdF_great (f : Row) (c : Int) : ∀ (l : List Int) (d : Int), c ∣ d → (∀ k ∈ l, c ∣ gt f k) → c ∣ l.foldl (gcdF f) d
  | [], d, h, _ => h
  | k :: l, d, h, hl => gcdF_great f c l _ (Int.dvd_coe_gcd h (hl k List.mem_cons_self)) fun k' h' => hl k' (List.mem_cons_of_mem _ h')
theorem gcdR_dvd (f : Row) (k : Int) : gcdR f ∣ gt f k := by
  by_cases h : k ∈ f.map (·.1)
  · exact (gcdF_dvd f _ 0).2 k h
  · rw [gt_none h]; exact Int.dvd_zero _
theorem gcdR_great (f : Row) (c : Int) (h : ∀ k, c ∣ gt f k) : c ∣ gcdR f := gcdF_great f c _ 0 (Int.dvd_zero _) fun k _ => h k
theorem gcdR_pos (f : Row) (k : Int) (h : gt f k ≠ 0) : 0 < gcdR f := (gcdF_nn f _ 0 (Int.le_refl _)).2.2 ⟨k, by
  refine Classical.byContradiction fun z => h (gt_none z), h⟩
theorem gt_priR (f : Row) (k : Int) : gt (priR f) k = gt f k / gcdR f := by
  unfold priR
  rw [gt_fold (fun k => gt f k / gcdR f)]
  split
  · rfl
  · next h =>
    have : gt f k = 0 := by
      refine Classical.byContradiction fun z => h (List.mem_filter.mpr ⟨?_, by simpa using z⟩)
      exact Classical.byContradiction fun y => z (gt_none y)
    rw [this, Int.zero_ediv]; rfl
theorem gt_priR_mul (f : Row) (k : Int) : gcdR f * gt (priR f) k = gt f k := by
  rw [gt_priR]
  exact Int.mul_ediv_cancel' (gcdR_dvd f k)
theorem gt_negR (r : Row) (k : Int) : gt (negR r) k = -(gt r k) := by
  unfold negR
  rw [gt_fold (fun k => -(gt r k))]
  split
  · rfl
  · next h => rw [gt_none h]; rfl
/-- a row with different keys in range, no entry zero -/
structure RowOk (M : Int) (r : Row) : Prop where
  nd : (r.map (·.1)).Nodup
  nz : ∀ k, k ∈ r.map (·.1) → gt r k ≠ 0
  rg : ∀ k, gt r k ≠ 0 → 0 ≤ k ∧ k < M
theorem RowOk.mem {M : Int} {r : Row} (h : RowOk M r) (k : Int) : k ∈ r.map (·.1) ↔ gt r k ≠ 0 := ⟨h.nz k, fun z => Classical.byContradiction fun y => z (gt_none y)⟩
theorem RowOk.len {M : Int} {r : Row} (h : RowOk M r) : r.length ≤ M.toNat := by
  have := nodup_len (m := (List.range M.toNat).map Int.ofNat) h.nd fun k hk => by
    obtain ⟨a, b⟩ := h.rg k (h.nz k hk)
    refine List.mem_map.mpr ⟨k.toNat, List.mem_range.mpr (by omega), ?_⟩
    show ((k.toNat : Nat) : Int) = k
    omega
  rw [List.length_map, List.length_map, List.length_range] at this
  exact this
theorem negR_ok {M : Int} {r : Row} (h : RowOk M r) : RowOk M (negR r) := by
  refine ⟨?_, fun k hk => ?_, fun k hk => h.rg k fun z => hk (by rw [gt_negR, z]; rfl)⟩
  · unfold negR
    exact fold_nodup _ (fun acc x h => aput_nodup h) _ _ (by simp)
  · have : k ∈ r.map (·.1) := by
      unfold negR at hk
      rcases (fold_keyI (fun k => -(gt r k)) _ _ _).mp hk with z | z
      · exact z
      · simp at z
    rw [gt_negR]
    have := h.nz k this
    omega
theorem priR_ok {M : Int} {f : Row} (h : ∀ k, gt f k ≠ 0 → 0 ≤ k ∧ k < M) : RowOk M (priR f) := by
  refine ⟨?_, fun k hk => ?_, fun k hk => h k fun z => hk (by rw [gt_priR, z, Int.zero_ediv])⟩
  · unfold priR
    exact fold_nodup _ (fun acc x h => aput_nodup h) _ _ (by simp)
  · unfold priR at hk
    rcases (fold_keyI (fun k => gt f k / gcdR f) _ _ _).mp hk with z | z
    · have z2 := (List.mem_filter.mp z).2
      have z2 : gt f k ≠ 0 := by simpa using z2
      intro e
      have := gt_priR_mul f k
      rw [e, Int.mul_zero] at this
      exact z2 this.symm
    · simp at z
end Tf
/-! text TgB -/
/-! plain: sums over the variables, tables -/
namespace Tf
def sumTo : Nat → (Int → Rat) → Rat
  | 0, _ => 0
  | n + 1, f => sumTo n f + f (n : Int)
theorem sumTo_congr {f g : Int → Rat} : ∀ {n : Nat}, (∀ k : Int, 0 ≤ k → k < n → f k = g k) → sumTo n f = sumTo n g
  | 0, _ => rfl
  | n + 1, h => by
    rw [sumTo, sumTo, sumTo_congr fun k h1 h2 => h k h1 (by omega), h n (by omega) (by omega)]
theorem sumTo_add (f g : Int → Rat) : ∀ n : Nat, sumTo n (fun k => f k + g k) = sumTo n f + sumTo n g
  | 0 => by simp [sumTo]; grind
  | n + 1 => by rw [sumTo, sumTo, sumTo, sumTo_add f g n]; grind
theorem sumTo_mul (c : Rat) (f : Int → Rat) : ∀ n : Nat, sumTo n (fun k => c * f k) = c * sumTo n f
  | 0 => by simp [sumTo]
  | n + 1 => by rw [sumTo, sumTo, sumTo_mul c f n]; grind
theorem sumTo_zero {f : Int → Rat} : ∀ {n : Nat}, (∀ k : Int, 0 ≤ k → k < n → f k = 0) → sumTo n f = 0
  | 0, _ => rfl
  | n + 1, h => by rw [sumTo, sumTo_zero fun k h1 h2 => h k h1 (by omega), h n (by omega) (by omega)]; grind
/-- take one out -/
theorem sumTo_out (f : Int → Rat) (j : Int) : ∀ {n : Nat}, 0 ≤ j → j < n → sumTo n f = f j + sumTo n (fun k => if k = j then 0 else f k)
  | 0, h1, h2 => by omega
  | n + 1, h1, h2 => by
    rw [sumTo, sumTo]
    by_cases e : j = n
    · subst e
      rw [if_pos rfl, sumTo_congr (g := fun k => if k = (n : Int) then 0 else f k) fun k h1 h2 => by
        show _ = if k = (n : Int) then 0 else f k
        rw [if_neg (by omega)]]
      grind
    · rw [if_neg (fun h => e h.symm), sumTo_out f j (n := n) h1 (by omega)]
      grind
theorem sumTo_one {f : Int → Rat} {j : Int} {n : Nat} (h1 : 0 ≤ j) (h2 : j < n) (h : ∀ k : Int, 0 ≤ k → k < n → k ≠ j → f k = 0) : sumTo n f = f j := by
  rw [sumTo_out f j h1 h2, sumTo_zero fun k a b => ?_]
  · grind
  · split
    · rfl
    · next e => exact h k a b e
theorem sumTo_nonpos {f : Int → Rat} : ∀ {n : Nat}, (∀ k : Int, 0 ≤ k → k < n → f k ≤ 0) → sumTo n f ≤ 0
  | 0, _ => by simp [sumTo]
  | n + 1, h => by
    rw [sumTo]
    have h1 := sumTo_nonpos (n := n) fun k a b => h k a (by omega)
    have h2 := h n (by omega) (by omega)
    grind
theorem sumTo_swap (f : Int → Int → Rat) (m : Nat) : ∀ n : Nat, sumTo n (fun i => sumTo m (fun j => f i j)) = sumTo m (fun j => sumTo n (fun i => f i j))
  | 0 => by
    exact (sumTo_zero (f := fun j => sumTo 0 (fun i => f i j)) fun k _ _ => rfl).symm
  | n + 1 => by
    rw [sumTo, sumTo_swap f m n, ← sumTo_add]
    rfl
/-- what a row says of an assignment -/
def dot (M : Nat) (r : Int → Int) (x : Int → Rat) : Rat := sumTo M fun k => (r k : Rat) * x k
theorem dot_add (M : Nat) (r : Int → Int) (x y : Int → Rat) : dot M r (fun k => x k + y k) = dot M r x + dot M r y := by
  unfold dot
  rw [← sumTo_add]
  exact sumTo_congr fun k _ _ => by grind
theorem dot_mul (M : Nat) (r : Int → Int) (c : Rat) (x : Int → Rat) : dot M r (fun k => c * x k) = c * dot M r x := by
  unfold dot
  rw [← sumTo_mul]
  exact sumTo_congr fun k _ _ => by grind
theorem dot_lin (M : Nat) {r a b : Int → Int} {g u v : Int} (h : ∀ k, g * r k = u * a k + v * b k) (x : Int → Rat) : (g : Rat) * dot M r x = u * dot M a x + v * dot M b x := by
  unfold dot
  rw [← sumTo_mul, ← sumTo_mul, ← sumTo_mul, ← sumTo_add]
  refine sumTo_congr fun k _ _ => ?_
  have : ((g * r k : Int) : Rat) = ((u * a k + v * b k : Int) : Rat) := by rw [h k]
  rw [Rat.intCast_mul, Rat.intCast_add, Rat.intCast_mul, Rat.intCast_mul] at this
  grind
theorem dot_neg (M : Nat) {r a : Int → Int} (h : ∀ k, r k = -(a k)) (x : Int → Rat) : dot M r x = -dot M a x := by
  have := dot_lin (g := 1) (u := -1) (v := 0) (r := r) (a := a) (b := a) M (fun k => by rw [h k]; omega) x
  have e1 : ((1 : Int) : Rat) = 1 := rfl
  have e2 : ((-1 : Int) : Rat) = -1 := rfl
  have e3 : ((0 : Int) : Rat) = 0 := rfl
  rw [e1, e2, e3] at this
  grind
/-- n free quantities, m rows -/
structure Sys where
  n : Nat
  m : Nat
  a : Nat → Int → Int
  sup : ∀ i k, a i k ≠ 0 → 0 ≤ k ∧ k < 2 + n + m
  own : ∀ i, i < m → a i (2 + n + i) = -1
  oth : ∀ i j, i < m → j < m → i ≠ j → a i (2 + n + j) = 0
abbrev Sys.first (S : Sys) : Int := 2 + S.n
abbrev Sys.M (S : Sys) : Nat := 2 + S.n + S.m
structure TabOk (S : Sys) (T : Tab) : Prop where
  nd : (T.map (·.1)).Nodup
  kr : ∀ s : Int, s ∈ T.map (·.1) → 2 ≤ s ∧ s < (S.M : Int)
  card : T.length = S.m
  rok : ∀ s : Int, s ∈ T.map (·.1) → RowOk S.M (gr T s)
  own : ∀ s : Int, s ∈ T.map (·.1) → gt (gr T s) s < 0
  oth : ∀ s s' : Int, s ∈ T.map (·.1) → s' ∈ T.map (·.1) → s ≠ s' → gt (gr T s) s' = 0
  pri : ∀ s : Int, s ∈ T.map (·.1) → ∀ d : Int, (∀ k, d ∣ gt (gr T s) k) → d ∣ 1
  sol : ∀ x : Int → Rat, (∀ s : Int, s ∈ T.map (·.1) → dot S.M (gt (gr T s)) x = 0) ↔ ∀ i, i < S.m → dot S.M (S.a i) x = 0
/-! ### the exchange -/
section
variable {S : Sys} {T : Tab} {s q : Int}
theorem aget_exc (hq : q ∉ T.map (·.1)) (hn : (T.map (·.1)).Nodup) (o : Int) : aget (excS T s q) o = if o = q then some (pivS T s q) else if o ∈ T.map (·.1) ∧ o ≠ s then some (if (aget (gr T o) q).isSome then witS (gr T o) (pivS T s q) q else gr T o) else none := by
  suffices h : ∀ (ks : List Int) (acc : Tab), aget (ks.foldl (excF T s q) acc) o = if o ∈ ks ∧ o ≠ s then some (if (aget (gr T o) q).isSome then witS (gr T o) (pivS T s q) q else gr T o) else aget acc o by
    unfold excS
    rw [h, aget_cons, aget_nil]
    by_cases e : o = q
    · rw [if_neg (fun z => hq (e ▸ z.1)), if_pos e.symm, if_pos e]
    · have e' : ¬ (q, pivS T s q).1 = o := fun z => e z.symm
      rw [if_neg e, if_neg e']
  intro ks
  induction ks with
  | nil => intro acc; simp
  | cons k ks ih =>
    intro acc
    rw [List.foldl_cons, ih]
    by_cases h1 : o ∈ ks ∧ o ≠ s
    · rw [if_pos h1, if_pos (And.intro (List.mem_cons_of_mem _ h1.1) h1.2)]
    · rw [if_neg h1]
      by_cases e : k = s
      · have e0 : excF T s q acc k = acc := by unfold excF; rw [if_pos e]
        rw [e0, if_neg]
        rintro ⟨z1, z2⟩
        rcases List.mem_cons.mp z1 with z | z
        · exact z2 (z.trans e)
        · exact h1 ⟨z, z2⟩
      · have e0 : excF T s q acc k = aput acc k (if (aget (gr T k) q).isSome then witS (gr T k) (pivS T s q) q else gr T k) := by
          unfold excF
          rw [if_neg e]
          split <;> rfl
        rw [e0, aget_aput]
        by_cases e2 : o = k
        · subst e2
          rw [if_pos rfl, if_pos (And.intro List.mem_cons_self e)]
        · rw [if_neg e2, if_neg]
          rintro ⟨z1, z2⟩
          rcases List.mem_cons.mp z1 with z | z
          · exact e2 z
          · exact h1 ⟨z, z2⟩
theorem exc_nodup : ((excS T s q).map (·.1)).Nodup := by
  unfold excS
  refine fold_nodup _ (fun acc x h => ?_) _ _ (by simp)
  unfold excF
  split
  · exact h
  · split <;> exact aput_nodup h
theorem exc_mem (hq : q ∉ T.map (·.1)) (hn : (T.map (·.1)).Nodup) (o : Int) : o ∈ (excS T s q).map (·.1) ↔ o = q ∨ (o ∈ T.map (·.1) ∧ o ≠ s) := by
  rw [← aget_isKey, aget_exc hq hn]
  by_cases e : o = q
  · simp [e]
  · rw [if_neg e]
    by_cases c : o ∈ T.map (·.1) ∧ o ≠ s
    · rw [if_pos c]; simp [c]
    · rw [if_neg c]
      simp only [Option.isSome_none, Bool.false_eq_true, e, false_or, false_iff]
      exact c
end
end Tf
/-! text TgC -/
/-! plain: the exchange keeps the table well -/
namespace Tf
section
variable {S : Sys} {T : Tab} {s q : Int}
theorem gr_of {T : Tab} {o : Int} {r : Row} (h : aget T o = some r) : gr T o = r := by unfold gr; rw [h]; rfl
theorem piv_sign (T : Tab) (s q : Int) : ∃ e : Int, (e = 1 ∨ e = -1) ∧ ∀ k, gt (pivS T s q) k = e * gt (gr T s) k := by
  unfold pivS
  split
  · exact ⟨-1, .inr rfl, fun k => by rw [gt_negR]; omega⟩
  · exact ⟨1, .inl rfl, fun k => by omega⟩
theorem piv_neg (h : gt (gr T s) q ≠ 0) : gt (pivS T s q) q < 0 := by
  unfold pivS
  split
  · rw [gt_negR]; omega
  · omega
theorem piv_ok {M : Int} (h : RowOk M (gr T s)) : RowOk M (pivS T s q) := by
  unfold pivS
  split
  · exact negR_ok h
  · exact h
theorem mul_ne0 {a b : Int} (h : a ≠ 0) (h' : b ≠ 0) : a * b ≠ 0 := Int.mul_ne_zero h h'
/-- the new row of another: what it is -/
theorem exc_row (h : TabOk S T) (hs : s ∈ T.map (·.1)) (hq : gt (gr T s) q ≠ 0) (hn : q ∉ T.map (·.1)) {o : Int} (ho : o ∈ T.map (·.1)) (hos : o ≠ s) :
    ∃ g : Int, 0 < g ∧ (∀ k, g * gt (gr (excS T s q) o) k = -(gt (pivS T s q) q) * gt (gr T o) k + gt (gr T o) q * gt (pivS T s q) k) ∧ RowOk S.M (gr (excS T s q) o) ∧ ∀ d : Int, (∀ k, d ∣ gt (gr (excS T s q) o) k) → d ∣ 1 := by
  have hp := piv_neg hq
  obtain ⟨e, he, hpe⟩ := piv_sign T s q
  have hpo : gt (pivS T s q) o = 0 := by rw [hpe, h.oth s o hs ho (fun z => hos z.symm), Int.mul_zero]
  have hpr := piv_ok (q := q) (h.rok s hs)
  have hro := h.rok o ho
  have ne : ¬ o = q := fun z => hn (z ▸ ho)
  have ha := aget_exc (s := s) hn h.nd o
  rw [if_neg ne, if_pos (And.intro ho hos)] at ha
  by_cases c : (aget (gr T o) q).isSome = true
  · rw [if_pos c] at ha
    rw [gr_of ha]
    have hw : ∀ k, gt (wit2 (gr T o) (pivS T s q) q) k = -(gt (pivS T s q) q) * gt (gr T o) k + gt (gr T o) q * gt (pivS T s q) k := fun k => gt_wit2 _ _ _ _ hpr.nd
    have hnz : gt (wit2 (gr T o) (pivS T s q) q) o ≠ 0 := by
      rw [hw, hpo, Int.mul_zero, Int.add_zero]
      have := h.own o ho
      exact mul_ne0 (by omega) (by omega)
    have hg := gcdR_pos _ _ hnz
    refine ⟨gcdR (wit2 (gr T o) (pivS T s q) q), hg, fun k => ?_, ?_, fun d hd => ?_⟩
    · rw [← hw]
      exact gt_priR_mul _ k
    · refine priR_ok fun k hk => ?_
      rw [hw] at hk
      by_cases c1 : gt (gr T o) k = 0
      · by_cases c2 : gt (pivS T s q) k = 0
        · rw [c1, c2, Int.mul_zero, Int.mul_zero] at hk; exact absurd rfl hk
        · exact hpr.rg k c2
      · exact hro.rg k c1
    · have h1 : d * gcdR (wit2 (gr T o) (pivS T s q) q) ∣ gcdR (wit2 (gr T o) (pivS T s q) q) := gcdR_great _ _ fun k => by
        rw [← gt_priR_mul (wit2 (gr T o) (pivS T s q) q) k, Int.mul_comm d]
        exact Int.mul_dvd_mul_left _ (hd k)
      obtain ⟨z, hz⟩ := h1
      refine ⟨z, ?_⟩
      have : gcdR (wit2 (gr T o) (pivS T s q) q) * 1 = gcdR (wit2 (gr T o) (pivS T s q) q) * (d * z) := by
        rw [Int.mul_one]
        conv => lhs; rw [hz]
        rw [Int.mul_comm d, Int.mul_assoc]
      exact Int.eq_of_mul_eq_mul_left (by omega) this
  · rw [if_neg c] at ha
    rw [gr_of ha]
    have hz : gt (gr T o) q = 0 := by
      unfold gt
      cases z : aget (gr T o) q with
      | none => rfl
      | some v => rw [z] at c; exact absurd rfl c
    refine ⟨-(gt (pivS T s q) q), by omega, fun k => by rw [hz, Int.zero_mul, Int.add_zero], hro, h.pri o ho⟩
theorem gr_excq (h : TabOk S T) (hn : q ∉ T.map (·.1)) : gr (excS T s q) q = pivS T s q := by
  have ha := aget_exc (s := s) hn h.nd q
  rw [if_pos rfl] at ha
  exact gr_of ha
theorem rat_mul0 {a b : Rat} (h : a * b = 0) (ha : a ≠ 0) : b = 0 := by
  rcases Rat.mul_eq_zero.mp h with z | z
  · exact absurd z ha
  · exact z
theorem exc_ok (h : TabOk S T) (hs : s ∈ T.map (·.1)) (hq : gt (gr T s) q ≠ 0) (hn : q ∉ T.map (·.1)) (hq2 : 2 ≤ q) : TabOk S (excS T s q) := by
  have mem := fun o => exc_mem (s := s) hn h.nd o
  have hp := piv_neg hq
  obtain ⟨e, he, hpe⟩ := piv_sign T s q
  have hqq := gr_excq (s := s) h hn
  refine ⟨exc_nodup, fun o ho => ?_, ?_, fun o ho => ?_, fun o ho => ?_, fun o o' ho ho' hne => ?_, fun o ho d hd => ?_, fun x => ?_⟩
  · rcases (mem o).mp ho with z | ⟨z, _⟩
    · subst z
      exact ⟨hq2, ((h.rok s hs).rg o hq).2⟩
    · exact h.kr o z
  · have l1 := nodup_len (l := (excS T s q).map (·.1)) (m := q :: (T.map (·.1)).erase s) exc_nodup fun o ho => by
      rcases (mem o).mp ho with z | ⟨z1, z2⟩
      · subst z; exact List.mem_cons_self
      · exact List.mem_cons_of_mem _ ((List.mem_erase_of_ne z2).mpr z1)
    have l2 := nodup_len (l := q :: (T.map (·.1)).erase s) (m := (excS T s q).map (·.1)) (List.nodup_cons.mpr ⟨fun z => hn (List.mem_of_mem_erase z), h.nd.erase s⟩) fun o ho => by
      rcases List.mem_cons.mp ho with z | z
      · exact (mem o).mpr (.inl z)
      · obtain ⟨z1, z2⟩ := (h.nd.mem_erase_iff).mp z
        exact (mem o).mpr (.inr ⟨z2, z1⟩)
    have l3 := List.length_erase_of_mem hs
    have l4 := List.length_pos_of_mem hs
    have := h.card
    rw [List.length_cons, List.length_map, l3] at l1 l2
    rw [List.length_map] at l1 l2 l4
    omega
  · rcases (mem o).mp ho with z | ⟨z1, z2⟩
    · subst z; rw [hqq]; exact piv_ok (h.rok s hs)
    · obtain ⟨g, _, _, r, _⟩ := exc_row h hs hq hn z1 z2
      exact r
  · rcases (mem o).mp ho with z | ⟨z1, z2⟩
    · subst z; rw [hqq]; exact hp
    · obtain ⟨g, hg, r, _, _⟩ := exc_row h hs hq hn z1 z2
      have ro := r o
      rw [hpe o, h.oth s o hs z1 (fun z => z2 z.symm), Int.mul_zero, Int.mul_zero, Int.add_zero] at ro
      have h1 := h.own o z1
      have h2 : -(gt (pivS T s q) q) * gt (gr T o) o < 0 := Int.mul_neg_of_pos_of_neg (by omega) h1
      rw [← ro, Int.mul_comm] at h2
      exact Int.neg_of_mul_neg_left h2 (by omega)
  · rcases (mem o).mp ho with z | ⟨z1, z2⟩
    · subst z
      rw [hqq, hpe]
      rcases (mem o').mp ho' with w | ⟨w1, w2⟩
      · exact absurd w.symm hne
      · rw [h.oth s o' hs w1 (fun z => w2 z.symm), Int.mul_zero]
    · obtain ⟨g, hg, r, _, _⟩ := exc_row h hs hq hn z1 z2
      have ro := r o'
      have hz : g * gt (gr (excS T s q) o) o' = 0 := by
        rw [ro]
        rcases (mem o').mp ho' with w | ⟨w1, w2⟩
        · subst w
          rw [Int.mul_comm (gt (gr T o) o'), Int.neg_mul]
          omega
        · rw [h.oth o o' z1 w1 hne, hpe o', h.oth s o' hs w1 (fun z => w2 z.symm)]
          simp
      rcases Int.mul_eq_zero.mp hz with z | z
      · omega
      · exact z
  · rcases (mem o).mp ho with z | ⟨z1, z2⟩
    · subst z
      rw [hqq] at hd
      refine h.pri s hs d fun k => ?_
      have := hd k
      rw [hpe] at this
      rcases he with e1 | e1
      · rw [e1, Int.one_mul] at this; exact this
      · rw [e1, Int.neg_one_mul] at this; exact (Int.dvd_neg).mp this
    · obtain ⟨g, hg, _, _, p⟩ := exc_row h hs hq hn z1 z2
      exact p d hd
  · rw [← h.sol x]
    have epiv : ∀ x, dot S.M (gt (pivS T s q)) x = (e : Rat) * dot S.M (gt (gr T s)) x := fun x => by
      have := dot_lin (g := 1) (u := e) (v := 0) (r := gt (pivS T s q)) (a := gt (gr T s)) (b := gt (gr T s)) S.M (fun k => by rw [hpe]; omega) x
      have e1 : ((1 : Int) : Rat) = 1 := rfl
      have e3 : ((0 : Int) : Rat) = 0 := rfl
      rw [e1, e3] at this
      grind
    have e0 : (e : Rat) ≠ 0 := by
      rcases he with e1 | e1 <;> rw [e1] <;> decide
    have hpr : (((-(gt (pivS T s q) q) : Int)) : Rat) ≠ 0 := fun z => by
      have : (((-(gt (pivS T s q) q) : Int)) : Rat) = ((0 : Int) : Rat) := z
      have := Rat.intCast_inj.mp this
      omega
    constructor
    · intro hx o ho
      have hxp : dot S.M (gt (gr T s)) x = 0 := by
        have := hx q ((mem q).mpr (.inl rfl))
        rw [hqq, epiv] at this
        exact rat_mul0 this e0
      by_cases c : o = s
      · subst c; exact hxp
      · obtain ⟨g, hg, r, _, _⟩ := exc_row h hs hq hn ho c
        have h1 := dot_lin S.M r x
        rw [hx o ((mem o).mpr (.inr ⟨ho, c⟩)), epiv, hxp] at h1
        refine rat_mul0 (a := ((-(gt (pivS T s q) q) : Int) : Rat)) ?_ hpr
        grind
    · intro hx o ho
      rcases (mem o).mp ho with z | ⟨z1, z2⟩
      · subst z
        rw [hqq, epiv, hx s hs]; grind
      · obtain ⟨g, hg, r, _, _⟩ := exc_row h hs hq hn z1 z2
        have h1 := dot_lin S.M r x
        rw [hx o z1, epiv, hx s hs] at h1
        refine rat_mul0 (a := (g : Rat)) ?_ fun z => ?_
        · grind
        · have : (g : Rat) = ((0 : Int) : Rat) := z
          have := Rat.intCast_inj.mp this
          omega
end
end Tf
/-! text TgD -/
/-! plain: the rule of the least number ends -/
namespace Tf
theorem find_min {l : List Int} {p : Int → Bool} {s : Int} (h : (sortZ l).find? p = some s) : s ∈ l ∧ p s = true ∧ ∀ x, x ∈ l → p x = true → s ≤ x := by
  refine ⟨(sortZ_perm l).mem_iff.mp (List.mem_of_find?_eq_some h), List.find?_some h, fun x hx px => ?_⟩
  obtain ⟨_, as, bs, e, hn⟩ := List.find?_eq_some_iff_append.mp h
  have hx2 := (sortZ_perm l).mem_iff.mpr hx
  have hs := sortZ_sorted l
  rw [e] at hx2 hs
  rcases List.mem_append.mp hx2 with z | z
  · have := hn x z
    rw [px] at this
    exact absurd this (by decide)
  · rcases List.mem_cons.mp z with z | z
    · omega
    · exact (List.pairwise_cons.mp (List.pairwise_append.mp hs).2.1).1 x z
theorem find_no {l : List Int} {p : Int → Bool} (h : (sortZ l).find? p = none) : ∀ x, x ∈ l → p x = false := fun x hx => by
  have := List.find?_eq_none.mp h x ((sortZ_perm l).mem_iff.mpr hx)
  simpa using this
def LexN (a b : Rat) : Prop := a < 0 ∨ (a = 0 ∧ b < 0)
def LexL (a b : Rat) : Prop := a < 0 ∨ (a = 0 ∧ b ≤ 0)
theorem LexN.le {a b : Rat} (h : LexN a b) : LexL a b := by
  rcases h with h | h
  · exact .inl h
  · exact .inr ⟨h.1, by grind⟩
theorem lex_add {a b c d : Rat} (h : LexL a b) (h' : LexL c d) : LexL (a + c) (b + d) := by
  unfold LexL at *
  grind
theorem lex_addN {a b c d : Rat} (h : LexN a b) (h' : LexL c d) : LexN (a + c) (b + d) := by
  unfold LexL LexN at *
  grind
theorem lex_sum {f g : Int → Rat} : ∀ {n : Nat}, (∀ k : Int, 0 ≤ k → k < n → LexL (f k) (g k)) → LexL (sumTo n f) (sumTo n g)
  | 0, _ => .inr ⟨rfl, by simp [sumTo]⟩
  | n + 1, h => lex_add (lex_sum fun k a b => h k a (by omega)) (h n (by omega) (by omega))
theorem lex_sumN {f g : Int → Rat} {n : Nat} {t : Int} (t0 : 0 ≤ t) (t1 : t < n) (h : ∀ k : Int, 0 ≤ k → k < n → LexL (f k) (g k)) (ht : LexN (f t) (g t)) : LexN (sumTo n f) (sumTo n g) := by
  rw [sumTo_out f t t0 t1, sumTo_out g t t0 t1]
  refine lex_addN ht (lex_sum fun k a b => ?_)
  by_cases e : k = t
  · rw [if_pos e, if_pos e]; exact .inr ⟨rfl, by grind⟩
  · rw [if_neg e, if_neg e]; exact h k a b
theorem mendP_iff {T : Tab} {first q : Int} : mendP T first q = true ↔ first ≤ q ∧ (gt (gr T q) 0 < 0 ∨ (gt (gr T q) 0 = 0 ∧ gt (gr T q) 1 < 0)) := by
  unfold mendP
  rw [Bool.and_eq_true, decide_eq_true_iff]
  refine and_congr_right fun _ => ?_
  simp only [HT.lexLt]
  by_cases c : gt (gr T q) 0 = 0
  · rw [if_pos c]
    by_cases d : gt (gr T q) 1 = 0
    · rw [if_pos d]; simp; omega
    · rw [if_neg d]; simp; omega
  · rw [if_neg c]; simp; omega
theorem chgP_iff {r : Row} {first q : Int} : chgP r first q = true ↔ 1 < q ∧ (q < first ∨ 0 < gt r q) := by
  unfold chgP
  simp
/-! ### basic solutions -/
section
variable {S : Sys} {T : Tab}
def restT (M : Nat) (T : Tab) (s : Int) (z : Int → Rat) : Rat := sumTo M fun j => if j ∈ T.map (·.1) then 0 else (gt (gr T s) j : Rat) * z j
def extT (M : Nat) (T : Tab) (z : Int → Rat) (k : Int) : Rat := if k ∈ T.map (·.1) then restT M T k z / (-(gt (gr T k) k : Rat)) else z k
theorem cast_ne {a : Int} (h : a ≠ 0) : (a : Rat) ≠ 0 := fun z => h (Rat.intCast_inj.mp (show (a : Rat) = ((0 : Int) : Rat) from z))
theorem ext_sol (h : TabOk S T) (z : Int → Rat) {s : Int} (hs : s ∈ T.map (·.1)) : dot S.M (gt (gr T s)) (extT S.M T z) = 0 := by
  obtain ⟨k1, k2⟩ := h.kr s hs
  unfold dot
  rw [sumTo_out _ s (by omega) k2]
  have e1 : extT S.M T z s = restT S.M T s z / (-(gt (gr T s) s : Rat)) := by unfold extT; rw [if_pos hs]
  have e2 : sumTo S.M (fun k => if k = s then 0 else (gt (gr T s) k : Rat) * extT S.M T z k) = restT S.M T s z := by
    unfold restT
    refine sumTo_congr fun k _ _ => ?_
    by_cases e : k = s
    · subst e
      rw [if_pos rfl, if_pos hs]
    · rw [if_neg e]
      by_cases c : k ∈ T.map (·.1)
      · rw [if_pos c, h.oth s k hs c (fun z => e z.symm)]
        show ((0 : Int) : Rat) * _ = 0
        rw [show ((0 : Int) : Rat) = 0 from rfl]; grind
      · rw [if_neg c]
        unfold extT
        rw [if_neg c]
  rw [e2, e1]
  have := cast_ne (a := gt (gr T s) s) (by have := h.own s hs; omega)
  grind
/-- the unit and the tiny one given, the other free ones zero -/
def basZ (u v : Rat) (k : Int) : Rat := if k = 0 then u else if k = 1 then v else 0
def bas (M : Nat) (T : Tab) (u v : Rat) : Int → Rat := extT M T (basZ u v)
theorem key2 (h : TabOk S T) {k : Int} (hk : k < 2) : k ∉ T.map (·.1) := fun z => by have := (h.kr k z).1; omega
theorem rest_bas (h : TabOk S T) (u v : Rat) (s : Int) : restT S.M T s (basZ u v) = (gt (gr T s) 0 : Rat) * u + (gt (gr T s) 1 : Rat) * v := by
  unfold restT
  have hM : (2 : Int) ≤ S.M := by show (2 : Int) ≤ ((2 + S.n + S.m : Nat) : Int); omega
  rw [sumTo_out _ 0 (by omega) (by omega), if_neg (key2 h (by omega)), sumTo_one (j := 1) (by omega) (by omega)]
  · rw [if_neg (by omega), if_neg (key2 h (by omega))]
    unfold basZ
    simp
  · intro k _ _ e
    by_cases c : k = 0
    · rw [if_pos c]
    · rw [if_neg c]
      split
      · rfl
      · unfold basZ
        rw [if_neg c, if_neg e]; grind
theorem bas_0 (h : TabOk S T) (u v : Rat) : bas S.M T u v 0 = u := by
  unfold bas extT
  rw [if_neg (key2 h (by omega))]
  rfl
theorem bas_1 (h : TabOk S T) (u v : Rat) : bas S.M T u v 1 = v := by
  unfold bas extT
  rw [if_neg (key2 h (by omega))]
  rfl
theorem bas_key (h : TabOk S T) (u v : Rat) {s : Int} (hs : s ∈ T.map (·.1)) : bas S.M T u v s = ((gt (gr T s) 0 : Rat) * u + (gt (gr T s) 1 : Rat) * v) / (-(gt (gr T s) s : Rat)) := by
  unfold bas extT
  rw [if_pos hs, rest_bas h]
theorem bas_out (h : TabOk S T) (u v : Rat) {k : Int} (hk : k ∉ T.map (·.1)) (h2 : 2 ≤ k) : bas S.M T u v k = 0 := by
  unfold bas extT
  rw [if_neg hk]
  unfold basZ
  rw [if_neg (by omega), if_neg (by omega)]
theorem cast_lt0 {a : Int} : (a : Rat) < 0 ↔ a < 0 := Rat.intCast_lt_intCast (a := a) (b := 0)
theorem cast_eq0 {a : Int} : (a : Rat) = 0 ↔ a = 0 := Rat.intCast_inj (a := a) (b := 0)
theorem cast_le0 {a : Int} : (a : Rat) ≤ 0 ↔ a ≤ 0 := Rat.intCast_le_intCast (a := a) (b := 0)
theorem cast_ge0 {a : Int} : 0 ≤ (a : Rat) ↔ 0 ≤ a := Rat.intCast_le_intCast (a := 0) (b := a)
theorem cast_gt0 {a : Int} : 0 < (a : Rat) ↔ 0 < a := Rat.intCast_lt_intCast (a := 0) (b := a)
end
end Tf
/-! text TgE -/
/-! plain: the rule of the least number ends -/
namespace Tf
theorem rmul_neg {a b : Rat} (ha : a < 0) (hb : 0 < b) : a * b < 0 := by
  have := (Rat.mul_lt_mul_right hb).mpr ha
  rwa [Rat.zero_mul] at this
theorem rdiv_neg {a b : Rat} (hb : 0 < b) : a / b < 0 ↔ a < 0 := by
  have h : a / b * b = a := by grind
  constructor
  · intro q
    have := rmul_neg q hb
    rwa [h] at this
  · intro q
    refine Classical.byContradiction fun z => ?_
    have z : 0 ≤ a / b := by grind
    have := Rat.mul_nonneg z (by grind : (0 : Rat) ≤ b)
    grind
theorem rdiv_zero {a b : Rat} (hb : 0 < b) : a / b = 0 ↔ a = 0 := by
  have h : a / b * b = a := by grind
  constructor
  · intro q; rw [q] at h; grind
  · intro q; rw [q]; grind
theorem lexN_div {a b c : Rat} (hc : 0 < c) : LexN (a / c) (b / c) ↔ LexN a b := by
  unfold LexN
  rw [rdiv_neg hc, rdiv_neg hc, rdiv_zero hc]
theorem lex_negmul {a b c : Rat} (hc : c < 0) (h : ¬ LexN a b) : LexL (c * a) (c * b) := by
  unfold LexN at h
  unfold LexL
  by_cases e : a = 0
  · right
    refine ⟨by rw [e]; grind, ?_⟩
    have hb : 0 ≤ b := by grind
    have := Rat.mul_nonneg (by grind : (0 : Rat) ≤ -c) hb
    grind
  · left
    have ha : -a < 0 := by grind
    have := rmul_neg ha (by grind : (0 : Rat) < -c)
    grind
theorem lexN_mul {a b c : Rat} (hc : 0 < c) (h : LexN a b) : LexN (c * a) (c * b) := by
  rcases h with h | ⟨h1, h2⟩
  · left; have := rmul_neg h hc; grind
  · right
    refine ⟨by rw [h1]; grind, ?_⟩
    have := rmul_neg h2 hc; grind
section
variable {S : Sys} {T : Tab}
/-- a basic variable's value is below zero -/
theorem bas_lex (h : TabOk S T) {s : Int} (hs : s ∈ T.map (·.1)) : LexN (bas S.M T 1 0 s) (bas S.M T 0 1 s) ↔ (gt (gr T s) 0 < 0 ∨ (gt (gr T s) 0 = 0 ∧ gt (gr T s) 1 < 0)) := by
  rw [bas_key h _ _ hs, bas_key h _ _ hs]
  have hp : (0 : Rat) < -(gt (gr T s) s : Rat) := by
    have := cast_lt0.mpr (h.own s hs)
    grind
  rw [lexN_div hp]
  have e1 : (gt (gr T s) 0 : Rat) * 1 + (gt (gr T s) 1 : Rat) * 0 = gt (gr T s) 0 := by grind
  have e2 : (gt (gr T s) 0 : Rat) * 0 + (gt (gr T s) 1 : Rat) * 1 = gt (gr T s) 1 := by grind
  rw [e1, e2]
  unfold LexN
  rw [cast_lt0, cast_eq0, cast_lt0]
theorem bas_sol (h : TabOk S T) (u v : Rat) {s : Int} (hs : s ∈ T.map (·.1)) : dot S.M (gt (gr T s)) (bas S.M T u v) = 0 := ext_sol h _ hs
/-- what is known of one step -/
structure StepOk (S : Sys) (T : Tab) (s q : Int) : Prop where
  s1 : s ∈ T.map (·.1)
  s2 : S.first ≤ s
  s3 : gt (gr T s) 0 < 0 ∨ (gt (gr T s) 0 = 0 ∧ gt (gr T s) 1 < 0)
  s4 : ∀ x, x ∈ T.map (·.1) → S.first ≤ x → (gt (gr T x) 0 < 0 ∨ (gt (gr T x) 0 = 0 ∧ gt (gr T x) 1 < 0)) → s ≤ x
  q1 : gt (gr T s) q ≠ 0
  q2 : 2 ≤ q
  q3 : q < S.first ∨ 0 < gt (gr T s) q
  q4 : ∀ x, gt (gr T s) x ≠ 0 → 2 ≤ x → (x < S.first ∨ 0 < gt (gr T s) x) → q ≤ x
theorem step_ok (h : TabOk S T) {s q : Int} (hs : mendS T S.first = some s) (hq : chgS (gr T s) S.first = some q) : StepOk S T s q := by
  obtain ⟨a1, a2, a3⟩ := find_min hs
  obtain ⟨b1, b2, b3⟩ := find_min hq
  obtain ⟨c1, c2⟩ := mendP_iff.mp a2
  obtain ⟨d1, d2⟩ := chgP_iff.mp b2
  have hr := h.rok s a1
  exact ⟨a1, c1, c2, fun x hx h1 h2 => a3 x hx (mendP_iff.mpr ⟨h1, h2⟩), hr.nz q b1, by omega, d2, fun x hx h1 h2 => b3 x ((hr.mem x).mpr hx) (chgP_iff.mpr ⟨by omega, h2⟩)⟩
theorem StepOk.out {s q : Int} (h : TabOk S T) (k : StepOk S T s q) : q ∉ T.map (·.1) := fun z => by
  by_cases e : q = s
  · subst e
    have h1 := h.own q z
    have h2 := k.s2
    rcases k.q3 with h3 | h3 <;> omega
  · exact k.q1 (h.oth s q k.s1 z fun w => e w.symm)
theorem StepOk.tab {s q : Int} (h : TabOk S T) (k : StepOk S T s q) : TabOk S (excS T s q) := exc_ok h k.s1 k.q1 (k.out h) k.q2
theorem StepOk.mem {s q : Int} (h : TabOk S T) (k : StepOk S T s q) (x : Int) : x ∈ (excS T s q).map (·.1) ↔ x = q ∨ (x ∈ T.map (·.1) ∧ x ≠ s) := exc_mem (k.out h) h.nd x
end
/-- the heart: two steps with t, once leaving, once entering -/
theorem bland_two {S : Sys} {T T' : Tab} {t q s' : Int} (h : TabOk S T) (h' : TabOk S T') (k : StepOk S T t q) (k' : StepOk S T' s' t) (hs : s' ≤ t)
    (up : ∀ x, t < x → x ∉ T'.map (·.1) → x ∉ T.map (·.1)) : False := by
  have ht' : t ∉ T'.map (·.1) := k'.out h'
  have hst : s' < t := by
    have : s' ≠ t := fun e => ht' (e ▸ k'.s1)
    omega
  have htM := (h.kr t k.s1).2
  have ht2 := (h.kr t k.s1).1
  have hf := k.s2
  have hpos : 0 < gt (gr T' s') t := by
    rcases k'.q3 with z | z
    · omega
    · exact z
  -- the row of T' at the basic solution of T
  have ev : ∀ u v, dot S.M (gt (gr T' s')) (bas S.M T u v) = 0 := fun u v => (h'.sol _).mpr ((h.sol _).mp fun o ho => bas_sol h u v ho) s' k'.s1
  have split : ∀ u v, (gt (gr T' s') 0 : Rat) * u + (gt (gr T' s') 1 : Rat) * v + sumTo S.M (fun x => if x < 2 then 0 else (gt (gr T' s') x : Rat) * bas S.M T u v x) = 0 := fun u v => by
    have e := ev u v
    unfold dot at e
    rw [sumTo_out _ 0 (by omega) (by omega), sumTo_out _ 1 (by omega) (by omega), bas_0 h, bas_1 h, if_neg (by omega)] at e
    have hc : sumTo S.M (fun x => if x < 2 then 0 else (gt (gr T' s') x : Rat) * bas S.M T u v x) = sumTo S.M (fun k => if k = 1 then 0 else if k = 0 then 0 else (gt (gr T' s') k : Rat) * bas S.M T u v k) := sumTo_congr fun x x0 _ => by
      by_cases c : x < 2
      · rw [if_pos c]
        by_cases d : x = 1
        · rw [if_pos d]
        · rw [if_neg d, if_pos (by omega)]
      · rw [if_neg c, if_neg (by omega), if_neg (by omega)]
    rw [hc]
    grind
  have viol : LexN (bas S.M T 1 0 t) (bas S.M T 0 1 t) := (bas_lex h k.s1).mpr k.s3
  have key : ∀ x : Int, 0 ≤ x → x < S.M → LexL (if x < 2 then 0 else (gt (gr T' s') x : Rat) * bas S.M T 1 0 x) (if x < 2 then 0 else (gt (gr T' s') x : Rat) * bas S.M T 0 1 x) := fun x x0 xM => by
    by_cases c : x < 2
    · rw [if_pos c, if_pos c]; exact .inr ⟨rfl, by grind⟩
    rw [if_neg c, if_neg c]
    have zero : gt (gr T' s') x = 0 → LexL ((gt (gr T' s') x : Rat) * bas S.M T 1 0 x) ((gt (gr T' s') x : Rat) * bas S.M T 0 1 x) := fun e => by
      rw [e, show ((0 : Int) : Rat) = 0 from rfl]
      exact .inr ⟨by grind, by grind⟩
    have outT : x ∉ T.map (·.1) → LexL ((gt (gr T' s') x : Rat) * bas S.M T 1 0 x) ((gt (gr T' s') x : Rat) * bas S.M T 0 1 x) := fun e => by
      rw [bas_out h _ _ e (by omega), bas_out h _ _ e (by omega)]
      exact .inr ⟨by grind, by grind⟩
    have good : S.first ≤ x → x < t → gt (gr T' s') x < 0 → LexL ((gt (gr T' s') x : Rat) * bas S.M T 1 0 x) ((gt (gr T' s') x : Rat) * bas S.M T 0 1 x) := fun e1 e2 e3 => by
      by_cases d : x ∈ T.map (·.1)
      · refine lex_negmul (cast_lt0.mpr e3) fun z => ?_
        have := k.s4 x d e1 ((bas_lex h d).mp z)
        omega
      · exact outT d
    by_cases ez : gt (gr T' s') x = 0
    · exact zero ez
    by_cases et : x = t
    · subst et
      exact (lexN_mul (cast_gt0.mpr hpos) viol).le
    by_cases eb : x ∈ T'.map (·.1)
    · by_cases es : x = s'
      · subst es
        exact good k'.s2 hst (h'.own x eb)
      · exact absurd (h'.oth s' x k'.s1 eb fun z => es z.symm) ez
    by_cases ef : x < S.first
    · have := k'.q4 x ez (by omega) (.inl ef)
      omega
    by_cases el : x < t
    · refine good (by omega) el ?_
      refine Classical.byContradiction fun z => ?_
      have := k'.q4 x ez (by omega) (.inr (by omega))
      omega
    · exact outT (up x (by omega) eb)
  have tot := lex_sumN (t := t) (by omega) htM key (by
    rw [if_neg (by omega), if_neg (by omega)]
    exact lexN_mul (cast_gt0.mpr hpos) viol)
  have a0 := split 1 0
  have a1 := split 0 1
  have s3 : LexN (gt (gr T' s') 0 : Rat) (gt (gr T' s') 1 : Rat) := by
    rcases k'.s3 with z | ⟨z1, z2⟩
    · exact .inl (cast_lt0.mpr z)
    · exact .inr ⟨cast_eq0.mpr z1, cast_lt0.mpr z2⟩
  have := lex_addN s3 tot.le
  unfold LexN at this
  rcases this with z | ⟨z1, z2⟩ <;> grind
end Tf
/-! text TgF -/
/-! plain: the rule of the least number ends -/
namespace Tf
def code (f : Nat → Bool) : Nat → Nat
  | 0 => 0
  | n + 1 => code f n + if f n then 2 ^ n else 0
theorem code_lt (f : Nat → Bool) : ∀ n, code f n < 2 ^ n
  | 0 => by show (0 : Nat) < 1; decide
  | n + 1 => by
    have := code_lt f n
    rw [code, Nat.pow_succ]
    split <;> omega
theorem code_inj (f g : Nat → Bool) : ∀ n, code f n = code g n → ∀ k, k < n → f k = g k
  | 0, _, k, hk => by omega
  | n + 1, h, k, hk => by
    have h1 := code_lt f n
    have h2 := code_lt g n
    rw [code, code] at h
    have e : f n = g n ∧ code f n = code g n := by
      cases ef : f n <;> cases eg : g n <;> rw [ef, eg] at h <;> simp at h <;> first | exact ⟨rfl, by omega⟩ | omega
    by_cases c : k = n
    · subst c; exact e.1
    · exact code_inj f g n e.2 k (by omega)
theorem pigeon {P : Nat} (c : Nat → Nat) (h : ∀ k, k ≤ P → c k < P) : ∃ i j, i < j ∧ j ≤ P ∧ c i = c j := by
  refine Classical.byContradiction fun z => ?_
  have n : ((List.range (P + 1)).map c).Nodup := by
    rw [List.Nodup, List.pairwise_map]
    refine List.Pairwise.imp_of_mem (R := (· < ·)) (fun {a b} ha hb hab e => z ⟨a, b, hab, ?_, e⟩) List.pairwise_lt_range
    have := List.mem_range.mp hb
    omega
  have := nodup_len (m := List.range P) n fun x hx => by
    obtain ⟨k, hk, e⟩ := List.mem_map.mp hx
    have hk := List.mem_range.mp hk
    rw [← e]
    exact List.mem_range.mpr (h k (by omega))
  rw [List.length_map, List.length_range, List.length_range] at this
  omega
/-- a run of steps -/
structure Run (S : Sys) (T : Nat → Tab) (s q : Nat → Int) (K : Nat) : Prop where
  t : ∀ k, k ≤ K → TabOk S (T k)
  st : ∀ k, k < K → StepOk S (T k) (s k) (q k)
  nx : ∀ k, k < K → T (k + 1) = excS (T k) (s k) (q k)
section
variable {S : Sys} {T : Nat → Tab} {s q : Nat → Int} {K : Nat}
theorem Run.mem (r : Run S T s q K) {k : Nat} (hk : k < K) (x : Int) : x ∈ (T (k + 1)).map (·.1) ↔ x = q k ∨ (x ∈ (T k).map (·.1) ∧ x ≠ s k) := by
  rw [r.nx k hk]
  exact (r.st k hk).mem (r.t k (by omega)) x
theorem Run.leaves (r : Run S T s q K) {x : Int} {a : Nat} (ha : x ∈ (T a).map (·.1)) : ∀ d, a + d ≤ K → x ∉ (T (a + d)).map (·.1) → ∃ k, a ≤ k ∧ k < a + d ∧ s k = x
  | 0, _, hb => absurd ha hb
  | d + 1, hd, hb => by
    by_cases c : x ∈ (T (a + d)).map (·.1)
    · refine ⟨a + d, by omega, by omega, Classical.byContradiction fun z => hb ?_⟩
      exact (r.mem (k := a + d) (by omega) x).mpr (.inr ⟨c, fun e => z e.symm⟩)
    · obtain ⟨k, h1, h2, h3⟩ := r.leaves ha d (by omega) c
      exact ⟨k, h1, by omega, h3⟩
theorem Run.enters (r : Run S T s q K) {x : Int} {a : Nat} (ha : x ∉ (T a).map (·.1)) : ∀ d, a + d ≤ K → x ∈ (T (a + d)).map (·.1) → ∃ k, a ≤ k ∧ k < a + d ∧ q k = x
  | 0, _, hb => absurd hb ha
  | d + 1, hd, hb => by
    by_cases c : x ∈ (T (a + d)).map (·.1)
    · obtain ⟨k, h1, h2, h3⟩ := r.enters ha d (by omega) c
      exact ⟨k, h1, by omega, h3⟩
    · refine ⟨a + d, by omega, by omega, ?_⟩
      rcases (r.mem (k := a + d) (by omega) x).mp hb with e | e
      · exact e.symm
      · exact absurd e.1 c
theorem max_of (f : Nat → Int) (i : Nat) : ∀ d, ∃ k, i ≤ k ∧ k < i + d + 1 ∧ ∀ l, i ≤ l → l < i + d + 1 → f l ≤ f k
  | 0 => ⟨i, by omega, by omega, fun l h1 h2 => by have : l = i := by omega
                                                   subst this; omega⟩
  | d + 1 => by
    obtain ⟨k, h1, h2, h3⟩ := max_of f i d
    by_cases c : f k ≤ f (i + d + 1)
    · refine ⟨i + d + 1, by omega, by omega, fun l a b => ?_⟩
      by_cases e : l = i + d + 1
      · subst e; omega
      · have := h3 l a (by omega); omega
    · refine ⟨k, h1, by omega, fun l a b => ?_⟩
      by_cases e : l = i + d + 1
      · subst e; omega
      · exact h3 l a (by omega)
/-- no basis comes twice -/
theorem no_cycle (r : Run S T s q K) {i j : Nat} (hij : i < j) (hj : j ≤ K) (same : ∀ x, x ∈ (T i).map (·.1) ↔ x ∈ (T j).map (·.1)) : False := by
  obtain ⟨D, d1, d2, d3⟩ := max_of s i (j - i - 1)
  have d2 : D < j := by omega
  have d3 : ∀ l, i ≤ l → l < j → s l ≤ s D := fun l a b => d3 l a (by omega)
  -- what enters leaves, too
  have ent : ∀ k, i ≤ k → k < j → ∃ l, i ≤ l ∧ l < j ∧ s l = q k := fun k a b => by
    have ho : q k ∉ (T k).map (·.1) := (r.st k (by omega)).out (r.t k (by omega))
    have hi : q k ∈ (T (k + 1)).map (·.1) := (r.mem (k := k) (by omega) _).mpr (.inl rfl)
    by_cases c : q k ∈ (T i).map (·.1)
    · obtain ⟨l, l1, l2, l3⟩ := r.leaves c (k - i) (by omega) (by rw [show i + (k - i) = k by omega]; exact ho)
      exact ⟨l, l1, by omega, l3⟩
    · have cj : q k ∉ (T j).map (·.1) := fun z => c ((same _).mpr z)
      obtain ⟨l, l1, l2, l3⟩ := r.leaves hi (j - (k + 1)) (by omega) (by rw [show k + 1 + (j - (k + 1)) = j by omega]; exact cj)
      exact ⟨l, by omega, by omega, l3⟩
  -- the greatest one enters somewhere
  have lev : ∃ D', i ≤ D' ∧ D' < j ∧ q D' = s D := by
    have hi : s D ∈ (T D).map (·.1) := (r.st D (by omega)).s1
    have ho : s D ∉ (T (D + 1)).map (·.1) := fun z => by
      rcases (r.mem (k := D) (by omega) _).mp z with e | e
      · exact (r.st D (by omega)).out (r.t D (by omega)) (e ▸ hi)
      · exact e.2 rfl
    by_cases c : s D ∈ (T i).map (·.1)
    · have cj := (same _).mp c
      obtain ⟨l, l1, l2, l3⟩ := r.enters ho (j - (D + 1)) (by omega) (by rw [show D + 1 + (j - (D + 1)) = j by omega]; exact cj)
      exact ⟨l, by omega, by omega, l3⟩
    · obtain ⟨l, l1, l2, l3⟩ := r.enters c (D - i) (by omega) (by rw [show i + (D - i) = D by omega]; exact hi)
      exact ⟨l, l1, by omega, l3⟩
  obtain ⟨D', e1, e2, e3⟩ := lev
  have kD' := r.st D' (by omega)
  rw [e3] at kD'
  refine bland_two (r.t D (by omega)) (r.t D' (by omega)) (r.st D (by omega)) kD' (d3 D' e1 e2) fun x hx hn hm => ?_
  by_cases c : D ≤ D'
  · obtain ⟨l, l1, l2, l3⟩ := r.leaves hm (D' - D) (by omega) (by rw [show D + (D' - D) = D' by omega]; exact hn)
    have := d3 l (by omega) (by omega)
    omega
  · obtain ⟨l, l1, l2, l3⟩ := r.enters hn (D - D') (by omega) (by rw [show D' + (D - D') = D by omega]; exact hm)
    obtain ⟨l', l1', l2', l3'⟩ := ent l (by omega) (by omega)
    have := d3 l' l1' l2'
    omega
theorem run_short (r : Run S T s q K) : K < 2 ^ S.M := by
  refine Classical.byContradiction fun z => ?_
  have z : 2 ^ S.M ≤ K := by omega
  obtain ⟨i, j, h1, h2, h3⟩ := pigeon (P := 2 ^ S.M) (fun k => code (fun v => decide ((v : Int) ∈ (T k).map (·.1))) S.M) fun k _ => code_lt _ _
  refine no_cycle r h1 (by omega) fun x => ?_
  have h4 := code_inj _ _ _ h3
  by_cases c : 0 ≤ x ∧ x < S.M
  · have := h4 x.toNat (by omega)
    simp only [decide_eq_decide] at this
    rw [show ((x.toNat : Nat) : Int) = x by omega] at this
    exact this
  · constructor
    · intro hx
      have := (r.t i (by omega)).kr x hx
      exact absurd ⟨by omega, this.2⟩ c
    · intro hx
      have := (r.t j (by omega)).kr x hx
      exact absurd ⟨by omega, this.2⟩ c
end
theorem least_of {p : Nat → Prop} : ∀ n, p n → ∃ k, k ≤ n ∧ p k ∧ ∀ j, j < k → ¬ p j := fun n => by
  induction n using Nat.strongRecOn with
  | ind n ih =>
    intro h
    by_cases c : ∃ j, j < n ∧ p j
    · obtain ⟨j, hj, pj⟩ := c
      obtain ⟨k, k1, k2, k3⟩ := ih j hj pj
      exact ⟨k, by omega, k2, k3⟩
    · exact ⟨n, Nat.le_refl _, h, fun j hj pj => c ⟨j, hj, pj⟩⟩
theorem stepT_some {first : Int} {T T' : Tab} (h : stepT first T = some T') : ∃ s q, mendS T first = some s ∧ chgS (gr T s) first = some q ∧ T' = excS T s q := by
  unfold stepT at h
  split at h
  · cases h
  · next s hs =>
    split at h
    · cases h
    · next q hq => cases h; exact ⟨s, q, hs, hq, rfl⟩
/-- the table's way ends, and every table on it is well -/
theorem bland (S : Sys) (T0 : Tab) (h : TabOk S T0) : ∃ N, stepT S.first (itT S.first T0 N) = none ∧ (∀ k, k < N → stepT S.first (itT S.first T0 k) ≠ none) ∧ ∀ k, k ≤ N → TabOk S (itT S.first T0 k) := by
  -- as long as it steps, there is a run
  have run : ∀ K, (∀ k, k < K → stepT S.first (itT S.first T0 k) ≠ none) → ∃ s q, Run S (itT S.first T0) s q K := fun K hK => by
    have ex : ∀ k, ∃ sq : Int × Int, k < K → (mendS (itT S.first T0 k) S.first = some sq.1 ∧ chgS (gr (itT S.first T0 k) sq.1) S.first = some sq.2 ∧ itT S.first T0 (k + 1) = excS (itT S.first T0 k) sq.1 sq.2) := fun k => by
      by_cases c : k < K
      · cases e : stepT S.first (itT S.first T0 k) with
        | none => exact absurd e (hK k c)
        | some T' =>
          obtain ⟨s, q, h1, h2, h3⟩ := stepT_some e
          refine ⟨(s, q), fun _ => ⟨h1, h2, ?_⟩⟩
          rw [itT, e, h3]
          rfl
      · exact ⟨(0, 0), fun z => absurd z c⟩
    let f : Nat → Int × Int := fun k => Classical.choose (ex k)
    have hf : ∀ k, k < K → _ := fun k => Classical.choose_spec (ex k)
    have tb : ∀ k, k ≤ K → TabOk S (itT S.first T0 k) := fun k => by
      induction k with
      | zero => intro _; exact h
      | succ k ih =>
        intro hk
        obtain ⟨h1, h2, h3⟩ := hf k (by omega)
        have t := ih (by omega)
        rw [h3]
        exact (step_ok t h1 h2).tab t
    refine ⟨fun k => (f k).1, fun k => (f k).2, tb, fun k hk => ?_, fun k hk => (hf k hk).2.2⟩
    obtain ⟨h1, h2, h3⟩ := hf k hk
    exact step_ok (tb k (by omega)) h1 h2
  have ex : ∃ n, stepT S.first (itT S.first T0 n) = none := by
    refine Classical.byContradiction fun z => ?_
    obtain ⟨s, q, r⟩ := run (2 ^ S.M) fun k _ e => z ⟨k, e⟩
    exact absurd (run_short r) (by omega)
  obtain ⟨n, hn⟩ := ex
  obtain ⟨N, _, h1, h2⟩ := least_of (p := fun n => stepT S.first (itT S.first T0 n) = none) n hn
  obtain ⟨s, q, r⟩ := run N h2
  exact ⟨N, h1, h2, r.t⟩
end Tf
/-! text TgG -/
/-! plain: the rows stay small -/
namespace Tf
open PySem.Spec in
theorem lt2_zero {n : Nat} : Lt2 0 n := Nat.two_pow_pos n
/-- sums over a list -/
def lsm : List Nat → (Nat → Int) → Int
  | [], _ => 0
  | i :: l, f => f i + lsm l f
theorem lsm_congr {f g : Nat → Int} : ∀ {l : List Nat}, (∀ i, i ∈ l → f i = g i) → lsm l f = lsm l g
  | [], _ => rfl
  | i :: l, h => by rw [lsm, lsm, h i List.mem_cons_self, lsm_congr fun j hj => h j (List.mem_cons_of_mem _ hj)]
theorem lsm_zero {f : Nat → Int} : ∀ {l : List Nat}, (∀ i, i ∈ l → f i = 0) → lsm l f = 0
  | [], _ => rfl
  | i :: l, h => by rw [lsm, h i List.mem_cons_self, lsm_zero fun j hj => h j (List.mem_cons_of_mem _ hj)]; rfl
theorem lsm_erase {f : Nat → Int} {j : Nat} : ∀ {l : List Nat}, j ∈ l → lsm l f = f j + lsm (l.erase j) f
  | [], h => nomatch h
  | i :: l, h => by
    by_cases e : i = j
    · subst e
      rw [List.erase_cons_head]; rfl
    · rw [List.erase_cons_tail (by simpa using e), lsm, lsm, lsm_erase (l := l) (by
        rcases List.mem_cons.mp h with z | z
        · exact absurd z.symm e
        · exact z)]
      omega
theorem lsm_mul (c : Int) (f : Nat → Int) : ∀ l : List Nat, lsm l (fun i => c * f i) = c * lsm l f
  | [] => by simp [lsm]
  | i :: l => by rw [lsm, lsm, lsm_mul c f l, Int.mul_add]
theorem lsm_add (f g : Nat → Int) : ∀ l : List Nat, lsm l (fun i => f i + g i) = lsm l f + lsm l g
  | [] => rfl
  | i :: l => by rw [lsm, lsm, lsm, lsm_add f g l]; omega
theorem lsm_lt {f : Nat → Int} {X : Nat} : ∀ {l : List Nat}, (∀ i, i ∈ l → Lt2 (f i) X) → Lt2 (lsm l f) (X + l.length)
  | [], _ => lt2_zero
  | i :: l, h => by
    have h1 := (h i List.mem_cons_self).mono (k := X + l.length) (by omega)
    have h2 := lsm_lt (l := l) fun j hj => h j (List.mem_cons_of_mem _ hj)
    rw [lsm, List.length_cons, ← Nat.add_assoc]
    exact h1.add h2
def fbd : Nat → Nat → Nat
  | 0, _ => 1
  | p + 1, A => fbd p (2 * A + 1) + A + p + 1
theorem fbd_mono : ∀ (p : Nat) {A A' : Nat}, A ≤ A' → fbd p A ≤ fbd p A'
  | 0, _, _, _ => Nat.le_refl _
  | p + 1, A, A', h => by
    have := fbd_mono p (A := 2 * A + 1) (A' := 2 * A' + 1) (by omega)
    rw [fbd, fbd]; omega
theorem fbd_ge (p A : Nat) : 1 ≤ fbd p A := by
  cases p with
  | zero => exact Nat.le_refl _
  | succ p => rw [fbd]; omega
/-- more rows than columns: a combination that vanishes, and is small -/
theorem elim : ∀ (cols : List Int) (A : Nat) (idx : List Nat) (v : Nat → Int → Int), idx.Nodup → idx.length = cols.length + 1 → (∀ i, i ∈ idx → ∀ c, c ∈ cols → Lt2 (v i c) A) →
    ∃ u : Nat → Int, (∃ i, i ∈ idx ∧ u i ≠ 0) ∧ (∀ c, c ∈ cols → lsm idx (fun i => u i * v i c) = 0) ∧ ∀ i, i ∈ idx → Lt2 (u i) (fbd cols.length A)
  | [], A, idx, v, hn, hl, hv => by
    match idx, hl with
    | [j], _ => exact ⟨fun _ => (1 : Int), ⟨j, List.mem_cons_self, Int.one_ne_zero⟩, (fun c hc => nomatch hc), fun i _ => by show (1 : Int).natAbs < 2 ^ 1; decide⟩
  | c :: cs, A, idx, v, hn, hl, hv => by
    rw [List.length_cons] at hl
    by_cases hz : ∀ i, i ∈ idx → v i c = 0
    · match idx, hl, hn with
      | j :: r, hl, hn =>
        obtain ⟨u, ⟨i, hi, ui⟩, hs, hb⟩ := elim cs A r v (List.nodup_cons.mp hn).2 (by rw [List.length_cons] at hl; omega) fun i hi c' hc => hv i (List.mem_cons_of_mem _ hi) c' (List.mem_cons_of_mem _ hc)
        have hj := (List.nodup_cons.mp hn).1
        have ne : ∀ k, k ∈ r → k ≠ j := fun k hk e => hj (by rw [← e]; exact hk)
        obtain ⟨w, wj, wk⟩ : ∃ w : Nat → Int, w j = 0 ∧ ∀ k, k ≠ j → w k = u k := ⟨fun k => if k = j then 0 else u k, if_pos rfl, fun k e => if_neg e⟩
        refine ⟨w, ⟨i, List.mem_cons_of_mem _ hi, ?_⟩, fun c' hc => ?_, fun k hk => ?_⟩
        · rw [wk i (ne i hi)]
          exact ui
        · rcases List.mem_cons.mp hc with e | e
          · subst e
            exact lsm_zero fun k hk => by rw [hz k hk, Int.mul_zero]
          · rw [lsm, wj, Int.zero_mul, Int.zero_add, lsm_congr (g := fun k => u k * v k c') fun k hk => by rw [wk k (ne k hk)]]
            exact hs c' e
        · have hmn : fbd cs.length A ≤ fbd (c :: cs).length A := by
            rw [List.length_cons, fbd]
            have := fbd_mono cs.length (A := A) (A' := 2 * A + 1) (by omega)
            omega
          rcases List.mem_cons.mp hk with z | z
          · rw [z, wj]; exact lt2_zero
          · rw [wk k (ne k z)]; exact (hb k z).mono hmn
    · have ⟨j, hj, hvj⟩ : ∃ j, j ∈ idx ∧ v j c ≠ 0 := by
        refine Classical.byContradiction fun z => hz fun i hi => ?_
        exact Classical.byContradiction fun y => z ⟨i, hi, y⟩
      have hle : (idx.erase j).length = cs.length + 1 := by rw [List.length_erase_of_mem hj]; omega
      have vb : ∀ i, i ∈ idx → ∀ c', c' ∈ c :: cs → Lt2 (v i c') A := hv
      obtain ⟨u, ⟨i, hi, ui⟩, hs, hb⟩ := elim cs (2 * A + 1) (idx.erase j) (fun i c' => v j c * v i c' + (-(v i c)) * v j c') (hn.erase j) hle fun i hi c' hc => by
        have hi := List.mem_of_mem_erase hi
        have h1 := (vb j hj c List.mem_cons_self).mul (vb i hi c' (List.mem_cons_of_mem _ hc))
        have h2 := (vb i hi c List.mem_cons_self).neg.mul (vb j hj c' (List.mem_cons_of_mem _ hc))
        exact (h1.add h2).mono (by omega)
      have ne : ∀ k, k ∈ idx.erase j → k ≠ j := fun k hk => ((hn.mem_erase_iff).mp hk).1
      obtain ⟨w, wj, wk⟩ : ∃ w : Nat → Int, w j = -(lsm (idx.erase j) fun i => u i * v i c) ∧ ∀ k, k ≠ j → w k = u k * v j c := ⟨fun k => if k = j then -(lsm (idx.erase j) fun i => u i * v i c) else u k * v j c, if_pos rfl, fun k e => if_neg e⟩
      refine ⟨w, ⟨i, List.mem_of_mem_erase hi, ?_⟩, fun c' hc => ?_, fun k hk => ?_⟩
      · rw [wk i (ne i hi)]
        exact mul_ne0 ui hvj
      · have e1 : lsm (idx.erase j) (fun i => w i * v i c') = v j c * lsm (idx.erase j) (fun k => u k * v k c') := by
          rw [lsm_congr (g := fun k => v j c * (u k * v k c')) fun k hk => by rw [wk k (ne k hk), Int.mul_comm (u k), Int.mul_assoc], lsm_mul]
        rw [lsm_erase hj, wj, e1]
        rcases List.mem_cons.mp hc with e | e
        · subst e
          rw [Int.neg_mul, Int.mul_comm]
          omega
        · have := hs c' e
          rw [lsm_congr (g := fun k => v j c * (u k * v k c') + (-(v j c')) * (u k * v k c)) fun k _ => by grind, lsm_add, lsm_mul, lsm_mul] at this
          rw [Int.neg_mul, Int.mul_comm (lsm _ _)]
          rw [Int.neg_mul] at this
          omega
      · rw [List.length_cons, fbd]
        by_cases e : k = j
        · rw [e, wj]
          refine (Lt2.neg (lsm_lt (X := fbd cs.length (2 * A + 1) + A) fun i hi => (hb i hi).mul (vb i (List.mem_of_mem_erase hi) c List.mem_cons_self))).mono ?_
          rw [hle]; omega
        · rw [wk k e]
          exact ((hb k ((hn.mem_erase_iff).mpr ⟨e, hk⟩)).mul (vb j hj c List.mem_cons_self)).mono (by omega)
/-- what divides every v times an entry divides v, the row being primitive -/
theorem prim_dvd {r : Row} (h : ∀ d : Int, (∀ k, d ∣ gt r k) → d ∣ 1) {c v : Int} (hd : ∀ k, c ∣ v * gt r k) : c ∣ v := by
  have g : ∀ (l : List Int) (d : Int), c ∣ v * d → c ∣ v * l.foldl (gcdF r) d := fun l => by
    induction l with
    | nil => intro d hd; exact hd
    | cons k l ih =>
      intro d h1
      refine ih _ ?_
      have h2 : c ∣ ((Int.gcd (v * d) (v * gt r k) : Nat) : Int) := Int.dvd_coe_gcd h1 (hd k)
      rw [Int.gcd_mul_left, Int.natCast_mul] at h2
      have h3 : c ∣ ((v.natAbs : Nat) : Int) * ((Int.gcd d (gt r k) : Nat) : Int) := h2
      show c ∣ v * ((Int.gcd d (gt r k) : Nat) : Int)
      rcases Int.natAbs_eq v with e | e
      · rw [e]; exact h3
      · rw [e, Int.neg_mul]; exact Int.dvd_neg.mpr h3
  have h1 : c ∣ v * gcdR r := g _ 0 (by rw [Int.mul_zero]; exact Int.dvd_zero _)
  have h2 := h (gcdR r) (gcdR_dvd r)
  obtain ⟨z, hz⟩ := h2
  obtain ⟨y, hy⟩ := h1
  refine ⟨y * z, ?_⟩
  rw [← Int.mul_assoc, ← hy, Int.mul_assoc, ← hz, Int.mul_one]
end Tf
/-! text TgH -/
/-! plain: the rows of a table stay small -/
namespace Tf
theorem dot_lsm (M : Nat) (u : Nat → Int) (a : Nat → Int → Int) (x : Int → Rat) : ∀ l : List Nat, (∀ i, i ∈ l → dot M (a i) x = 0) → dot M (fun k => lsm l fun i => u i * a i k) x = 0
  | [], _ => sumTo_zero fun k _ _ => by show ((0 : Int) : Rat) * _ = 0; rw [show ((0 : Int) : Rat) = 0 from rfl]; grind
  | i :: l, h => by
    have h1 := dot_lsm M u a x l fun j hj => h j (List.mem_cons_of_mem _ hj)
    have h2 := h i List.mem_cons_self
    have := dot_lin (g := 1) (u := u i) (v := 1) (r := fun k => lsm (i :: l) fun i => u i * a i k) (a := a i) (b := fun k => lsm l fun i => u i * a i k) M (fun k => by
      show 1 * (u i * a i k + lsm l fun i => u i * a i k) = _
      omega) x
    rw [h1, h2, show ((1 : Int) : Rat) = 1 from rfl] at this
    grind
section
variable {S : Sys} {T : Tab}
theorem ext_key (M : Nat) (T : Tab) (z : Int → Rat) {k : Int} (h : k ∈ T.map (·.1)) : extT M T z k = restT M T k z / (-(gt (gr T k) k : Rat)) := if_pos h
theorem ext_out (M : Nat) (T : Tab) (z : Int → Rat) {k : Int} (h : k ∉ T.map (·.1)) : extT M T z k = z k := if_neg h
theorem filter_two {α : Type} (p : α → Bool) : ∀ l : List α, (l.filter p).length + (l.filter fun x => !p x).length = l.length
  | [] => rfl
  | x :: l => by
    have := filter_two p l
    cases c : p x
    · rw [List.filter_cons_of_neg (by rw [c]; decide), List.filter_cons_of_pos (by rw [c]; rfl), List.length_cons, List.length_cons]; omega
    · rw [List.filter_cons_of_pos c, List.filter_cons_of_neg (by rw [c]; decide), List.length_cons, List.length_cons]; omega
theorem fbd_le (B : Nat) : ∀ (d p : Nat), fbd p B ≤ fbd (p + d) B
  | 0, _ => Nat.le_refl _
  | d + 1, p => by
    refine Nat.le_trans (fbd_le B d p) ?_
    rw [← Nat.add_assoc, fbd]
    have := fbd_mono (p + d) (A := B) (A' := 2 * B + 1) (by omega)
    omega
def oneK (k j : Int) : Rat := if j = k then 1 else 0
theorem oneK_self (k : Int) : oneK k k = 1 := if_pos rfl
theorem oneK_ne {k j : Int} (h : j ≠ k) : oneK k j = 0 := if_neg h
/-- a row of the span that has no other basic quantity is the table's row, by a factor -/
theorem span_prop (h : TabOk S T) {s : Int} (hs : s ∈ T.map (·.1)) (V : Int → Int) (hr : ∀ k, V k ≠ 0 → 0 ≤ k ∧ k < S.M) (hd : ∀ x, (∀ i, i < S.m → dot S.M (S.a i) x = 0) → dot S.M V x = 0)
    (hb : ∀ o, o ∈ T.map (·.1) → o ≠ s → V o = 0) (k : Int) : V k * gt (gr T s) s = V s * gt (gr T s) k := by
  by_cases e : k = s
  · rw [e]
  by_cases c : k ∈ T.map (·.1)
  · rw [hb k c e, h.oth s k hs c (fun z => e z.symm)]; simp
  by_cases g : 0 ≤ k ∧ k < S.M
  · -- one nonbasic quantity is 1
    have hx : ∀ i, i < S.m → dot S.M (S.a i) (extT S.M T (oneK k)) = 0 := (h.sol _).mp fun o ho => ext_sol h _ ho
    have hv := hd _ hx
    have hsr := h.kr s hs
    have er : restT S.M T s (oneK k) = gt (gr T s) k := by
      unfold restT
      rw [sumTo_one g.1 g.2]
      · rw [if_neg c, oneK_self]; grind
      · intro j _ _ ne
        split
        · rfl
        · rw [oneK_ne ne]; grind
    unfold dot at hv
    rw [sumTo_out _ k g.1 g.2, sumTo_one (j := s) (by omega) hsr.2] at hv
    · rw [if_neg (fun z => e z.symm), ext_out _ _ _ c, oneK_self, ext_key _ _ _ hs, er] at hv
      have h0 := cast_ne (a := gt (gr T s) s) (by have := h.own s hs; omega)
      have e1 : (V k : Rat) * (gt (gr T s) s : Rat) = V s * gt (gr T s) k := by grind
      rw [← Rat.intCast_mul, ← Rat.intCast_mul] at e1
      exact Rat.intCast_inj.mp e1
    · intro j _ _ ne
      by_cases e1 : j = k
      · rw [if_pos e1]
      · rw [if_neg e1]
        by_cases c1 : j ∈ T.map (·.1)
        · rw [hb j c1 ne, show ((0 : Int) : Rat) = 0 from rfl]; grind
        · rw [ext_out _ _ _ c1, oneK_ne e1]; grind
  · have z1 : V k = 0 := Classical.byContradiction fun z => g (hr k z)
    have z2 : gt (gr T s) k = 0 := Classical.byContradiction fun z => g ((h.rok s hs).rg k z)
    rw [z1, z2]; simp
/-- the bound of the rows -/
def rbd (p B : Nat) : Nat := fbd p B + B + p + 1
theorem row_small (h : TabOk S T) {B : Nat} (hB : ∀ i, i < S.m → ∀ k, Lt2 (S.a i k) B) {s : Int} (hs : s ∈ T.map (·.1)) : ∀ k, Lt2 (gt (gr T s) k) (rbd S.n B) := by
  -- the basic slacks other than s, the other slacks, the basic free ones other than s
  let J := (List.range S.m).filter fun i : Nat => decide ((2 + S.n + i : Int) ∈ T.map (·.1) ∧ (2 + S.n + i : Int) ≠ s)
  let idx := (List.range S.m).filter fun i : Nat => !decide ((2 + S.n + i : Int) ∈ T.map (·.1) ∧ (2 + S.n + i : Int) ≠ s)
  let cols := ((List.range S.n).map fun i : Nat => (2 + i : Int)).filter fun c => decide (c ∈ T.map (·.1) ∧ c ≠ s)
  have hJ : J.length + idx.length = S.m := by
    have := filter_two (fun i : Nat => decide ((2 + S.n + i : Int) ∈ T.map (·.1) ∧ (2 + S.n + i : Int) ≠ s)) (List.range S.m)
    rw [List.length_range] at this
    exact this
  have hn0 : (List.range S.n).Nodup := List.nodup_range
  have hc0 : cols.Nodup := by
    refine List.Nodup.sublist List.filter_sublist ?_
    rw [List.Nodup, List.pairwise_map]
    exact hn0.imp fun {a b} n e => n (by omega)
  have hcl : cols.length ≤ S.n := by
    have := List.length_filter_le (fun c => decide (c ∈ T.map (·.1) ∧ c ≠ s)) ((List.range S.n).map fun i : Nat => (2 + i : Int))
    rw [List.length_map, List.length_range] at this
    exact this
  have hcm : ∀ c, c ∈ cols → c ∈ T.map (·.1) ∧ c ≠ s ∧ c < 2 + S.n := fun c hc => by
    obtain ⟨h1, h2⟩ := List.mem_filter.mp hc
    obtain ⟨i, hi, e⟩ := List.mem_map.mp h1
    have hi := List.mem_range.mp hi
    have h2 := of_decide_eq_true h2
    exact ⟨h2.1, h2.2, by omega⟩
  have cnt : J.length + cols.length + 1 ≤ S.m := by
    have hl := nodup_len (l := J.map (fun i : Nat => (2 + S.n + i : Int)) ++ cols) (m := (T.map (·.1)).erase s) (by
      refine List.nodup_append.mpr ⟨?_, hc0, fun a ha b hb e => ?_⟩
      · rw [List.Nodup, List.pairwise_map]
        exact (List.Nodup.sublist List.filter_sublist (List.nodup_range (n := S.m))).imp fun {a b} n e => n (by omega)
      · obtain ⟨i, hi, e2⟩ := List.mem_map.mp ha
        have := (hcm b hb).2.2
        omega) fun a ha => by
      rcases List.mem_append.mp ha with z | z
      · obtain ⟨i, hi, e2⟩ := List.mem_map.mp z
        have := of_decide_eq_true (List.mem_filter.mp hi).2
        rw [← e2]
        exact (List.mem_erase_of_ne this.2).mpr this.1
      · have := hcm a z
        exact (List.mem_erase_of_ne this.2.1).mpr this.1
    rw [List.length_erase_of_mem hs, List.length_append, List.length_map, List.length_map] at hl
    have := h.card
    have := List.length_pos_of_mem hs
    rw [List.length_map] at this
    omega
  have hil : cols.length + 1 ≤ idx.length := by omega
  have him : ∀ i, i ∈ idx.take (cols.length + 1) → i < S.m ∧ ¬ ((2 + S.n + i : Int) ∈ T.map (·.1) ∧ (2 + S.n + i : Int) ≠ s) := fun i hi => by
    obtain ⟨h1, h2⟩ := List.mem_filter.mp (List.mem_of_mem_take hi)
    refine ⟨List.mem_range.mp h1, fun z => ?_⟩
    have h2 : (!decide ((2 + S.n + i : Int) ∈ T.map (·.1) ∧ (2 + S.n + i : Int) ≠ s)) = true := h2
    rw [decide_eq_true z] at h2
    cases h2
  have hin : (idx.take (cols.length + 1)).Nodup := List.Nodup.sublist (List.take_sublist _ _) (List.Nodup.sublist List.filter_sublist List.nodup_range)
  have hlt : (idx.take (cols.length + 1)).length = cols.length + 1 := by rw [List.length_take]; omega
  obtain ⟨u, ⟨i0, hi0, u0⟩, hz, hb⟩ := elim cols B (idx.take (cols.length + 1)) S.a hin hlt fun i hi c _ => hB i (him i hi).1 c
  generalize hI : idx.take (cols.length + 1) = I at *
  let V : Int → Int := fun k => lsm I fun i => u i * S.a i k
  have hVs : ∀ j, j < S.m → j ∉ I → V (2 + S.n + j) = 0 := fun j hj hn => lsm_zero fun i hi => by
    rw [S.oth i j (him i hi).1 hj (fun e => hn (by rw [← e]; exact hi)), Int.mul_zero]
  have hVi : ∀ j, j ∈ I → V (2 + S.n + j) = -(u j) := fun j hj => by
    show lsm I _ = _
    rw [lsm_erase hj, S.own j (him j hj).1, lsm_zero fun i hi => by
      obtain ⟨n1, n2⟩ := (hin.mem_erase_iff).mp hi
      rw [S.oth i j (him i n2).1 (him j hj).1 n1, Int.mul_zero]]
    omega
  have hp := span_prop h hs V (fun k hk => by
      refine Classical.byContradiction fun z => hk (lsm_zero fun i _ => ?_)
      have : S.a i k = 0 := Classical.byContradiction fun y => z (by have := S.sup i k y; exact ⟨this.1, by show k < ((2 + S.n + S.m : Nat) : Int); omega⟩)
      rw [this, Int.mul_zero])
    (fun x hx => dot_lsm S.M u S.a x I fun i hi => hx i (him i hi).1) (fun o ho hne => by
      obtain ⟨o1, o2⟩ := h.kr o ho
      have o2 : o < ((2 + S.n + S.m : Nat) : Int) := o2
      by_cases c : o < 2 + S.n
      · refine hz o (List.mem_filter.mpr ⟨List.mem_map.mpr ⟨(o - 2).toNat, List.mem_range.mpr (by omega), by omega⟩, decide_eq_true ⟨ho, hne⟩⟩)
      · have e : o = 2 + S.n + ((o - (2 + S.n)).toNat : Nat) := by omega
        rw [e]
        refine hVs _ (by omega) fun hj => ?_
        refine (him _ hj).2 ?_
        rw [← e]
        exact ⟨ho, hne⟩)
  have hVb : ∀ k, Lt2 (V k) (rbd S.n B) := fun k => by
    have h1 := lsm_lt (l := I) (f := fun i => u i * S.a i k) (X := fbd cols.length B + B) fun i hi => (hb i hi).mul (hB i (him i hi).1 k)
    refine h1.mono ?_
    rw [hlt]
    have : fbd cols.length B ≤ fbd S.n B := by
      obtain ⟨d, hd⟩ := Nat.exists_eq_add_of_le hcl
      rw [hd]
      exact fbd_le B d _
    unfold rbd
    omega
  have hVs0 : V s ≠ 0 := fun z => by
    have h1 := hp (2 + S.n + i0)
    rw [z, Int.zero_mul, hVi i0 hi0] at h1
    have := h.own s hs
    rcases Int.mul_eq_zero.mp h1 with e | e
    · exact u0 (by omega)
    · omega
  have hdv : gt (gr T s) s ∣ V s := prim_dvd (r := gr T s) (h.pri s hs) fun k => ⟨V k, by rw [← hp k, Int.mul_comm]⟩
  obtain ⟨c, hc⟩ := hdv
  have c0 : c ≠ 0 := fun z => hVs0 (by rw [hc, z, Int.mul_zero])
  intro k
  have e : c * gt (gr T s) k = V k := by
    have := hp k
    rw [hc, Int.mul_comm, Int.mul_assoc] at this
    exact (Int.eq_of_mul_eq_mul_left (by have := h.own s hs; omega) this).symm
  have := hVb k
  rw [← e] at this
  unfold Lt2 at *
  rw [Int.natAbs_mul] at this
  have hc1 : 1 ≤ c.natAbs := by omega
  have : 1 * (gt (gr T s) k).natAbs ≤ c.natAbs * (gt (gr T s) k).natAbs := Nat.mul_le_mul_right _ hc1
  omega
end
end Tf
/-! text TgI -/
/-! plain: amounts as rationals, sums as coefficients -/
namespace Tf
def vq (a : Am) : Rat := (a.1 : Rat) / (a.2 : Rat)
theorem cast_pos {a : Int} (h : 0 < a) : (0 : Rat) < (a : Rat) := cast_gt0.mpr h
theorem amt_div {t b : Int} (hb : 0 < b) : ∃ g : Int, 0 < g ∧ t = g * (amt t b).1 ∧ b = g * (amt t b).2 ∧ 0 < (amt t b).2 := by
  have hg := gcd_pos (t := t) hb
  refine ⟨_, hg, (Int.mul_ediv_cancel' (Int.gcd_dvd_left t b)).symm, (Int.mul_ediv_cancel' (Int.gcd_dvd_right t b)).symm, ?_⟩
  exact Int.ediv_pos_of_pos_of_dvd hb (Int.le_of_lt hg) (Int.gcd_dvd_right t b)
theorem vq_amt {t b : Int} (hb : 0 < b) : vq (amt t b) = (t : Rat) / (b : Rat) := by
  obtain ⟨g, hg, h1, h2, h3⟩ := amt_div (t := t) hb
  unfold vq
  have e1 : (t : Rat) = (g : Rat) * ((amt t b).1 : Rat) := by rw [← Rat.intCast_mul, ← h1]
  have e2 : (b : Rat) = (g : Rat) * ((amt t b).2 : Rat) := by rw [← Rat.intCast_mul, ← h2]
  have p1 := cast_pos hg
  have p2 := cast_pos h3
  rw [e1, e2]
  generalize ((amt t b).1 : Rat) = x at *
  generalize ((amt t b).2 : Rat) = y at *
  generalize (g : Rat) = z at *
  have : z * y ≠ 0 := by
    intro h
    rcases Rat.mul_eq_zero.mp h with h | h <;> grind
  grind
theorem amt_pos {t b : Int} (hb : 0 < b) : 0 < (amt t b).2 := (amt_div hb).choose_spec.2.2.2
theorem vq_pls {a b : Am} (ha : 0 < a.2) (hb : 0 < b.2) : vq (pls a b) = vq a + vq b := by
  unfold pls
  rw [vq_amt (mul_pos' ha hb), Rat.intCast_add, Rat.intCast_mul, Rat.intCast_mul, Rat.intCast_mul]
  unfold vq
  have p1 := cast_pos ha
  have p2 := cast_pos hb
  grind
theorem vq_tms {a b : Am} (ha : 0 < a.2) (hb : 0 < b.2) : vq (tms a b) = vq a * vq b := by
  unfold tms
  rw [vq_amt (mul_pos' ha hb), Rat.intCast_mul, Rat.intCast_mul]
  unfold vq
  have p1 := cast_pos ha
  have p2 := cast_pos hb
  grind
theorem vq_ovr {a b : Am} (ha : 0 < a.2) (hb : 0 < b.2) (hb1 : 0 < b.1) : vq (ovr a b) = vq a / vq b := by
  unfold ovr
  rw [vq_amt (mul_pos' ha hb1), Rat.intCast_mul, Rat.intCast_mul]
  unfold vq
  have p1 := cast_pos ha
  have p2 := cast_pos hb
  have p3 := cast_pos hb1
  grind
theorem pls_pos {a b : Am} (ha : 0 < a.2) (hb : 0 < b.2) : 0 < (pls a b).2 := amt_pos (mul_pos' ha hb)
theorem tms_pos {a b : Am} (ha : 0 < a.2) (hb : 0 < b.2) : 0 < (tms a b).2 := amt_pos (mul_pos' ha hb)
theorem ovr_pos {a b : Am} (ha : 0 < a.2) (hb : 0 < b.1) : 0 < (ovr a b).2 := amt_pos (mul_pos' ha hb)
theorem vq_neg {a : Am} (ha : 0 < a.2) : vq a < 0 ↔ a.1 < 0 := by
  unfold vq
  rw [rdiv_neg (cast_pos ha), cast_lt0]
theorem vq_zero {a : Am} (ha : 0 < a.2) : vq a = 0 ↔ a.1 = 0 := by
  unfold vq
  rw [rdiv_zero (cast_pos ha), cast_eq0]
theorem vq_gt {a : Am} (ha : 0 < a.2) : 0 < vq a ↔ 0 < a.1 := by
  have h1 := vq_neg ha
  have h2 := vq_zero ha
  constructor
  · intro h
    refine Classical.byContradiction fun z => ?_
    by_cases c : a.1 = 0
    · have := h2.mpr c; grind
    · have := h1.mpr (by omega); grind
  · intro h
    have n1 : ¬ vq a < 0 := fun z => by have := h1.mp z; omega
    have n2 : ¬ vq a = 0 := fun z => by have := h2.mp z; omega
    grind
theorem vq01 : vq (0, 1) = 0 := (vq_zero (a := (0, 1)) (by decide)).mpr rfl
theorem vq_int (n : Int) : vq (n, 1) = n := by
  unfold vq
  have : ((1 : Int) : Rat) = 1 := rfl
  rw [this]; grind
/-- in lowest terms -/
theorem amt_idem {t b : Int} (hb : 0 < b) : amt (amt t b).1 (amt t b).2 = amt t b := by
  have hg : Nat.gcd (amt t b).1.natAbs (amt t b).2.natAbs = 1 := by
    have h0 : 0 < Nat.gcd t.natAbs b.natAbs := Nat.gcd_pos_of_pos_right _ (by omega)
    have e1 : t = ((Nat.gcd t.natAbs b.natAbs : Nat) : Int) * (amt t b).1 := (Int.mul_ediv_cancel' (Int.gcd_dvd_left t b)).symm
    have e2 : b = ((Nat.gcd t.natAbs b.natAbs : Nat) : Int) * (amt t b).2 := (Int.mul_ediv_cancel' (Int.gcd_dvd_right t b)).symm
    have e3 : t.natAbs = Nat.gcd t.natAbs b.natAbs * (amt t b).1.natAbs := by
      have := congrArg Int.natAbs e1
      rwa [Int.natAbs_mul, Int.natAbs_natCast] at this
    have e4 : b.natAbs = Nat.gcd t.natAbs b.natAbs * (amt t b).2.natAbs := by
      have := congrArg Int.natAbs e2
      rwa [Int.natAbs_mul, Int.natAbs_natCast] at this
    have e5 : Nat.gcd t.natAbs b.natAbs = Nat.gcd t.natAbs b.natAbs * Nat.gcd (amt t b).1.natAbs (amt t b).2.natAbs := by
      rw [← Nat.gcd_mul_left, ← e3, ← e4]
    exact (Nat.eq_of_mul_eq_mul_left h0 (by omega)).symm
  show ((amt t b).1 / ((Nat.gcd (amt t b).1.natAbs (amt t b).2.natAbs : Nat) : Int), (amt t b).2 / ((Nat.gcd (amt t b).1.natAbs (amt t b).2.natAbs : Nat) : Int)) = amt t b
  rw [hg]
  simp
theorem amt_zero {t b : Int} (hb : 0 < b) : amt t b = (0, 1) ↔ (amt t b).1 = 0 := by
  constructor
  · intro h; rw [h]
  · intro h
    have e := amt_idem (t := t) hb
    have hp := amt_pos (t := t) hb
    rw [h] at e
    have : amt 0 (amt t b).2 = (0, 1) := by
      generalize (amt t b).2 = y at hp
      have eg : Nat.gcd (0 : Int).natAbs y.natAbs = y.natAbs := by simp
      show ((0 : Int) / ((Nat.gcd (0 : Int).natAbs y.natAbs : Nat) : Int), y / ((Nat.gcd (0 : Int).natAbs y.natAbs : Nat) : Int)) = (0, 1)
      rw [eg, Int.natAbs_of_nonneg (Int.le_of_lt hp), Int.zero_ediv, Int.ediv_self (by omega)]
    rw [← e, this]
/-! ### sums over lists -/
def rsum {α : Type} : List α → (α → Rat) → Rat
  | [], _ => 0
  | x :: l, f => f x + rsum l f
section
variable {α β : Type}
theorem rsum_congr {f g : α → Rat} : ∀ {l : List α}, (∀ x ∈ l, f x = g x) → rsum l f = rsum l g
  | [], _ => rfl
  | x :: l, h => by rw [rsum, rsum, h x List.mem_cons_self, rsum_congr fun y hy => h y (List.mem_cons_of_mem _ hy)]
theorem rsum_add (f g : α → Rat) : ∀ l : List α, rsum l (fun x => f x + g x) = rsum l f + rsum l g
  | [] => by show (0 : Rat) = 0 + 0; grind
  | x :: l => by rw [rsum, rsum, rsum, rsum_add f g l]; grind
theorem rsum_mul (c : Rat) (f : α → Rat) : ∀ l : List α, rsum l (fun x => c * f x) = c * rsum l f
  | [] => by show (0 : Rat) = c * 0; grind
  | x :: l => by rw [rsum, rsum, rsum_mul c f l]; grind
theorem rsum_zero {f : α → Rat} : ∀ {l : List α}, (∀ x ∈ l, f x = 0) → rsum l f = 0
  | [], _ => rfl
  | x :: l, h => by rw [rsum, h x List.mem_cons_self, rsum_zero fun y hy => h y (List.mem_cons_of_mem _ hy)]; grind
theorem rsum_map (g : β → α) (f : α → Rat) : ∀ l : List β, rsum (l.map g) f = rsum l fun x => f (g x)
  | [] => rfl
  | x :: l => by rw [List.map_cons, rsum, rsum, rsum_map g f l]
theorem rsum_app (f : α → Rat) (m : List α) : ∀ l : List α, rsum (l ++ m) f = rsum l f + rsum m f
  | [] => by show rsum m f = 0 + rsum m f; grind
  | x :: l => by rw [List.cons_append, rsum, rsum, rsum_app f m l]; grind
theorem rsum_swap (f : α → β → Rat) (m : List β) : ∀ l : List α, rsum l (fun x => rsum m fun y => f x y) = rsum m fun y => rsum l fun x => f x y
  | [] => (rsum_zero fun _ _ => rfl).symm
  | x :: l => by
    rw [rsum, rsum_swap f m l, ← rsum_add]
    rfl
theorem rsum_le {f : α → Rat} : ∀ {l : List α}, (∀ x ∈ l, f x ≤ 0) → rsum l f ≤ 0
  | [], _ => by show (0 : Rat) ≤ 0; grind
  | x :: l, h => by
    have h1 := h x List.mem_cons_self
    have h2 := rsum_le (l := l) fun y hy => h y (List.mem_cons_of_mem _ hy)
    rw [rsum]; grind
theorem rsum_lt {f : α → Rat} {z : α} : ∀ {l : List α}, (∀ x ∈ l, f x ≤ 0) → z ∈ l → f z < 0 → rsum l f < 0
  | [], _, hz, _ => nomatch hz
  | x :: l, h, hz, hn => by
    have h1 := h x List.mem_cons_self
    have h2 := rsum_le (l := l) fun y hy => h y (List.mem_cons_of_mem _ hy)
    rw [rsum]
    rcases List.mem_cons.mp hz with e | e
    · subst e; grind
    · have := rsum_lt (fun y hy => h y (List.mem_cons_of_mem _ hy)) e hn
      grind
theorem rsum_one [DecidableEq α] {f : α → Rat} {z : α} : ∀ {l : List α}, l.Nodup → z ∈ l → (∀ x ∈ l, x ≠ z → f x = 0) → rsum l f = f z
  | [], _, hz, _ => nomatch hz
  | x :: l, n, hz, h => by
    have n := List.nodup_cons.mp n
    rw [rsum]
    by_cases e : x = z
    · subst e
      rw [rsum_zero fun y hy => h y (List.mem_cons_of_mem _ hy) fun e => n.1 (e ▸ hy)]; grind
    · rw [h x List.mem_cons_self e, rsum_one n.2 ((List.mem_cons.mp hz).resolve_left fun z => e z.symm) fun y hy => h y (List.mem_cons_of_mem _ hy)]; grind
end
/-! ### coefficients -/
def cof (l : List Tm) (a : Ad) : Rat := match aget l a with
  | some v => vq v
  | none => 0
theorem cof_nil (a : Ad) : cof [] a = 0 := rfl
theorem cof_cons (t : Tm) (l : List Tm) (a : Ad) : cof (t :: l) a = if t.1 = a then vq t.2 else cof l a := by
  unfold cof
  rw [aget_cons]
  by_cases c : t.1 = a
  · rw [if_pos c, if_pos c]
  · rw [if_neg c, if_neg c]
structure SuOk (s : Su) : Prop where
  nd : (s.1.map (·.1)).Nodup
  pos : ∀ t ∈ s.1, 0 < t.2.2
  nz : ∀ t ∈ s.1, t.2.1 ≠ 0
  cp : 0 < s.2.2
theorem SuOk.get {s : Su} (h : SuOk s) {a : Ad} {v : Am} (e : aget s.1 a = some v) : 0 < v.2 ∧ v.1 ≠ 0 := ⟨h.pos _ (aget_mem e), h.nz _ (aget_mem e)⟩
theorem SuOk.nil {s : Su} (h : SuOk s) : s.1 = [] ↔ ∀ x, cof s.1 x = 0 := by
  constructor
  · intro e x; rw [e]; rfl
  · intro e
    cases hl : s.1 with
    | nil => rfl
    | cons t l =>
      have ht : t ∈ s.1 := by rw [hl]; exact List.mem_cons_self
      have e1 := e t.1
      rw [hl, cof_cons, if_pos rfl] at e1
      exact absurd ((vq_zero (h.pos t ht)).mp e1) (h.nz t ht)
/-- a sum over the terms is one over the addresses -/
theorem rsum_cof (y : Ad → Rat) {ev : List Ad} (hn : ev.Nodup) : ∀ {l : List Tm}, (l.map (·.1)).Nodup → (∀ t ∈ l, t.1 ∈ ev) → rsum l (fun t => vq t.2 * y t.1) = rsum ev fun a => cof l a * y a
  | [], _, _ => (rsum_zero fun _ _ => by rw [cof_nil]; grind).symm
  | t :: l, n, h => by
    have n := List.nodup_cons.mp n
    have ih := rsum_cof y hn n.2 fun u hu => h u (List.mem_cons_of_mem _ hu)
    have e : rsum ev (fun a => cof (t :: l) a * y a) = rsum ev (fun a => (if a = t.1 then vq t.2 * y a else 0) + cof l a * y a) := rsum_congr fun a _ => by
      rw [cof_cons]
      by_cases c : t.1 = a
      · subst c
        rw [if_pos rfl, if_pos rfl]
        have : cof l t.1 = 0 := by unfold cof; rw [aget_none n.1]
        rw [this]; grind
      · rw [if_neg c, if_neg fun z => c z.symm]; grind
    have e3 : rsum ev (fun a => if a = t.1 then vq t.2 * y a else 0) = vq t.2 * y t.1 := by
      rw [rsum_one (z := t.1) hn (h t List.mem_cons_self) fun x _ hx => if_neg hx, if_pos rfl]
    rw [e, rsum_add, rsum, ih, e3]
end Tf
/-! text TgJ -/
/-! plain: what the sums of the law and of the text mean, how great they are -/
namespace Tf
/-! ### sizes -/
structure Pz (n k : Nat) (a : Am) : Prop where
  pos : 0 < a.2
  l1 : Lt2 a.1 n
  l2 : a.2.natAbs ≤ 2 ^ k
theorem Pz.mono {n k n' k' : Nat} {a : Am} (h : Pz n k a) (h1 : n ≤ n') (h2 : k ≤ k') : Pz n' k' a := ⟨h.pos, h.l1.mono h1, Nat.le_trans h.l2 (Nat.pow_le_pow_right (by decide) h2)⟩
theorem pz01 : Pz 1 0 (0, 1) := ⟨by decide, by show (0 : Nat) < 2; decide, by decide⟩
theorem lt2_mulz {i j : Int} {n k : Nat} (h : Lt2 i n) (h' : j.natAbs ≤ 2 ^ k) : Lt2 (i * j) (n + k) := by
  unfold Lt2 at *
  rw [Int.natAbs_mul, Nat.pow_add]
  have p : 0 < 2 ^ k := Nat.two_pow_pos k
  calc i.natAbs * j.natAbs ≤ i.natAbs * 2 ^ k := Nat.mul_le_mul_left _ h'
    _ < 2 ^ n * 2 ^ k := (Nat.mul_lt_mul_right p).mpr h
theorem le_mulz {i j : Int} {n k : Nat} (h : i.natAbs ≤ 2 ^ n) (h' : j.natAbs ≤ 2 ^ k) : (i * j).natAbs ≤ 2 ^ (n + k) := by
  rw [Int.natAbs_mul, Nat.pow_add]
  exact Nat.mul_le_mul h h'
theorem pz_amt {t b : Int} {n k : Nat} (hb : 0 < b) (h1 : Lt2 t n) (h2 : b.natAbs ≤ 2 ^ k) : Pz n k (amt t b) := by
  have hg := gcd_pos (t := t) hb
  refine ⟨amt_pos hb, h1.div hg, Nat.le_trans ?_ h2⟩
  exact Int.natAbs_ediv_le_natAbs b _
theorem pz_pls {a b : Am} {n k n' k' N K : Nat} (h : Pz n k a) (h' : Pz n' k' b) (h1 : n + k' + 1 ≤ N) (h2 : n' + k + 1 ≤ N) (h3 : k + k' ≤ K) : Pz N K (pls a b) := by
  refine pz_amt (mul_pos' h.pos h'.pos) ?_ (Nat.le_trans (le_mulz h.l2 h'.l2) (Nat.pow_le_pow_right (by decide) h3))
  have e1 := (lt2_mulz h.l1 h'.l2).mono (k := N - 1) (by omega)
  have e2 := (lt2_mulz h'.l1 h.l2).mono (k := N - 1) (by omega)
  exact (e1.add e2).mono (by omega)
theorem pz_tms {a b : Am} {n k n' k' N K : Nat} (h : Pz n k a) (h' : Pz n' k' b) (h1 : n + n' ≤ N) (h3 : k + k' ≤ K) : Pz N K (tms a b) :=
  pz_amt (mul_pos' h.pos h'.pos) ((h.l1.mul h'.l1).mono h1) (Nat.le_trans (le_mulz h.l2 h'.l2) (Nat.pow_le_pow_right (by decide) h3))
theorem Pz.pn {n k N : Nat} {a : Am} (h : Pz n k a) (h1 : n ≤ N) (h2 : k + 1 ≤ N) : Pn N a := ⟨h.pos, h.l1.mono h1, by
  have h3 := h.l2
  have h4 : 2 ^ (k + 1) ≤ 2 ^ N := Nat.pow_le_pow_right (by decide) h2
  unfold Lt2
  rw [Nat.pow_succ] at h4
  have := Nat.two_pow_pos k
  omega⟩
theorem Pz.pm {n k : Nat} {a : Am} (h : Pz n k a) (h1 : n + k ≤ 30000000) : Pm a := (h.pn (N := n + k + 1) (by omega) (by omega)).pm (by omega)
theorem Pz.pmL {n k n' k' : Nat} {a b : Am} (h : Pz n k a) (h' : Pz n' k' b) (h1 : n + k + n' + k' ≤ 498900) : PmL a b := ⟨n + k + 1, n' + k' + 1, h.pn (by omega) (by omega), h'.pn (by omega) (by omega), by omega⟩
theorem Pz.pmM {n k n' k' N N' : Nat} {a b : Am} (h : Pz n k a) (h' : Pz n' k' b) (e1 : n ≤ N) (e2 : k + 1 ≤ N) (e3 : n' ≤ N') (e4 : k' + 1 ≤ N') (h1 : N + N' + 1 ≤ 499000) : PmL a b := ⟨N, N', h.pn e1 e2, h'.pn e3 e4, h1⟩
theorem Pz.neg {n k : Nat} {a : Am} (h : Pz n k a) : Pz n k (-a.1, a.2) := ⟨h.pos, h.l1.neg, h.l2⟩
theorem pz_getD {n k : Nat} {o : Option Am} (h1 : 1 ≤ n) (h : ∀ v, o = some v → Pz n k v) : Pz n k (o.getD (0, 1)) := by
  cases o with
  | none => exact pz01.mono h1 (Nat.zero_le _)
  | some v => exact h v rfl
/-! ### folds of puts -/
theorem aget_foldG (G : Option Am → Am → Am) : ∀ (l : List Tm) (acc : Pnt) (x : Ad), (l.map (·.1)).Nodup → aget (l.foldl (fun acc t => aput acc t.1 (G (aget acc t.1) t.2)) acc) x = match aget l x with
    | some v => some (G (aget acc x) v)
    | none => aget acc x
  | [], acc, x, _ => by rw [aget_nil]; rfl
  | t :: l, acc, x, n => by
    have n := List.nodup_cons.mp n
    rw [List.foldl_cons, aget_foldG G l _ x n.2, aget_aput, aget_cons]
    by_cases c : x = t.1
    · subst c
      rw [aget_none n.1, if_pos rfl, if_pos rfl]
    · rw [if_neg c, if_neg fun e => c e.symm]
theorem aget_lfdF (f : Am) (l : List Tm) (acc : Pnt) (x : Ad) (n : (l.map (·.1)).Nodup) : aget (l.foldl (lfdF f) acc) x = match aget l x with
    | some v => some (pls ((aget acc x).getD (0, 1)) (tms f v))
    | none => aget acc x := aget_foldG (fun o v => pls (o.getD (0, 1)) (tms f v)) l acc x n
theorem aget_addF (l : List Tm) (acc : Pnt) (x : Ad) (n : (l.map (·.1)).Nodup) : aget (l.foldl addF acc) x = match aget l x with
    | some v => some (pls ((aget acc x).getD (0, 1)) v)
    | none => aget acc x := aget_foldG (fun o v => pls (o.getD (0, 1)) v) l acc x n
theorem aget_lfd0 (l : List Tm) (x : Ad) (n : (l.map (·.1)).Nodup) : aget (lfd0 l) x = aget l x := by
  have := aget_foldG (fun _ v => v) l [] x n
  unfold lfd0
  rw [this, aget_nil]
  cases aget l x <;> rfl
theorem foldG_nodup (G : Option Am → Am → Am) (l : List Tm) (acc : Pnt) (h : (acc.map (·.1)).Nodup) : ((l.foldl (fun acc t => aput acc t.1 (G (aget acc t.1) t.2)) acc).map (·.1)).Nodup :=
  fold_nodup _ (fun acc x h => aput_nodup h) l acc h
theorem aget_mapK (g : Ad → Am) : ∀ (L : List Ad) (x : Ad), aget (L.map fun a => (a, g a)) x = if x ∈ L then some (g x) else none
  | [], x => by simp [aget_nil]
  | a :: L, x => by
    rw [List.map_cons, aget_cons, aget_mapK g L x]
    by_cases c : a = x
    · subst c; simp
    · have c' : ¬ x = a := fun e => c e.symm
      simp [c, c']
/-- the terms that a dict of factors leaves: sorted, without those that p drops -/
def selT (p : Am → Bool) (F : Pnt) : List Tm := ((sortA (F.map (·.1))).filter fun a => !p ((aget F a).getD (0, 1))).map fun a => (a, (aget F a).getD (0, 1))
theorem selT_keys (p : Am → Bool) (F : Pnt) : (selT p F).map (·.1) = (sortA (F.map (·.1))).filter fun a => !p ((aget F a).getD (0, 1)) := by
  unfold selT
  rw [List.map_map]
  exact List.map_id _
theorem selT_nodup {p : Am → Bool} {F : Pnt} (h : (F.map (·.1)).Nodup) : ((selT p F).map (·.1)).Nodup := by
  rw [selT_keys]
  exact List.Nodup.sublist List.filter_sublist ((sortA_perm _).nodup_iff.mpr h)
theorem selT_mem {p : Am → Bool} {F : Pnt} {t : Tm} (h : t ∈ selT p F) : aget F t.1 = some t.2 ∧ p t.2 = false := by
  obtain ⟨a, ha, rfl⟩ := List.mem_map.mp h
  obtain ⟨h1, h2⟩ := List.mem_filter.mp ha
  obtain ⟨v, hv⟩ := aget_key ((sortA_perm _).mem_iff.mp h1)
  rw [hv] at h2
  refine ⟨?_, ?_⟩
  · show aget F a = some ((aget F a).getD (0, 1))
    rw [hv]; rfl
  · show p ((aget F a).getD (0, 1)) = false
    rw [hv]; simpa using h2
theorem selT_cof {p : Am → Bool} {F : Pnt} {c : Ad → Rat} (hp : ∀ v x, aget F x = some v → vq v = c x ∧ (p v = true → vq v = 0)) (h0 : ∀ x, aget F x = none → c x = 0) (x : Ad) : cof (selT p F) x = c x := by
  unfold cof selT
  rw [aget_mapK]
  cases e : aget F x with
  | none =>
    rw [if_neg, h0 x e]
    intro h
    obtain ⟨v, hv⟩ := aget_key ((sortA_perm _).mem_iff.mp (List.mem_filter.mp h).1)
    rw [e] at hv; cases hv
  | some v =>
    obtain ⟨h1, h2⟩ := hp v x e
    have hk : x ∈ sortA (F.map (·.1)) := (sortA_perm _).mem_iff.mpr (aget_isKey.mp (by rw [e]; rfl))
    by_cases c : p v = true
    · rw [if_neg, ← h1, h2 c]
      intro h
      have := (List.mem_filter.mp h).2
      rw [e] at this
      simp [c] at this
    · rw [if_pos]
      · exact h1
      · refine List.mem_filter.mpr ⟨hk, ?_⟩
        rw [e]; simp [c]
theorem ltms_sel (F : Pnt) : ltms F = selT (fun v => decide (v.1 = 0)) F := rfl
theorem termsOf_sel (F : Pnt) : termsOf F = selT (fun v => decide (v = (0, 1))) F := rfl
theorem cof_get {l : List Tm} {x : Ad} {v : Am} (h : aget l x = some v) : cof l x = vq v := by unfold cof; rw [h]
theorem cof_none {l : List Tm} {x : Ad} (h : aget l x = none) : cof l x = 0 := by unfold cof; rw [h]
/-! ### the law's addition -/
section
variable {a b : Su} {f : Am}
def addFd (a b : Su) (f : Am) : Pnt := b.1.foldl (lfdF f) (lfd0 a.1)
theorem addFd_get (ha : (a.1.map (·.1)).Nodup) (hb : (b.1.map (·.1)).Nodup) (x : Ad) : aget (addFd a b f) x = match aget b.1 x with
    | some v => some (pls ((aget a.1 x).getD (0, 1)) (tms f v))
    | none => aget a.1 x := by
  unfold addFd
  rw [aget_lfdF f _ _ _ hb, aget_lfd0 _ _ ha]
theorem addFd_nodup : ((addFd a b f).map (·.1)).Nodup := foldG_nodup (fun o v => pls (o.getD (0, 1)) (tms f v)) b.1 _ (foldG_nodup (fun _ v => v) a.1 [] (by simp))
theorem getD_pos {o : Option Am} (h : ∀ v, o = some v → 0 < v.2) : 0 < (o.getD (0, 1)).2 := by
  cases o with
  | none => decide
  | some v => exact h v rfl
theorem cof_getD (l : List Tm) (x : Ad) : vq ((aget l x).getD (0, 1)) = cof l x := by
  unfold cof
  cases aget l x with
  | none => exact vq01
  | some v => rfl
theorem addFd_val (ha : SuOk a) (hb : SuOk b) (hf : 0 < f.2) {x : Ad} {v : Am} (h : aget (addFd a b f) x = some v) : 0 < v.2 ∧ vq v = cof a.1 x + vq f * cof b.1 x := by
  rw [addFd_get ha.nd hb.nd] at h
  have p := getD_pos (o := aget a.1 x) fun u e => (ha.get e).1
  cases e : aget b.1 x with
  | none =>
    rw [e] at h
    have h : aget a.1 x = some v := h
    rw [cof_none e, cof_get h]
    exact ⟨(ha.get h).1, by grind⟩
  | some u =>
    rw [e] at h
    have h := Option.some.inj h
    have hu := (hb.get e).1
    rw [← h, cof_get e]
    refine ⟨pls_pos p (tms_pos hf hu), ?_⟩
    rw [vq_pls p (tms_pos hf hu), vq_tms hf hu, cof_getD]
theorem lawAdd_ok (ha : SuOk a) (hb : SuOk b) (hf : 0 < f.2) : SuOk (lawAdd a b f) where
  nd := selT_nodup (p := fun v => decide (v.1 = 0)) addFd_nodup
  pos := fun t ht => (addFd_val ha hb hf (selT_mem (p := fun v => decide (v.1 = 0)) (F := addFd a b f) ht).1).1
  nz := fun t ht => of_decide_eq_false (selT_mem (p := fun v => decide (v.1 = 0)) (F := addFd a b f) ht).2
  cp := pls_pos ha.cp (tms_pos hf hb.cp)
theorem lawAdd_cof (ha : SuOk a) (hb : SuOk b) (hf : 0 < f.2) (x : Ad) : cof (lawAdd a b f).1 x = cof a.1 x + vq f * cof b.1 x := by
  refine selT_cof (p := fun v => decide (v.1 = 0)) (F := addFd a b f) (c := fun x => cof a.1 x + vq f * cof b.1 x) (fun v x e => ?_) (fun x e => ?_) x
  · obtain ⟨h1, h2⟩ := addFd_val ha hb hf e
    exact ⟨h2, fun z => (vq_zero h1).mpr (of_decide_eq_true z)⟩
  · rw [addFd_get ha.nd hb.nd] at e
    cases e2 : aget b.1 x with
    | some u => rw [e2] at e; cases e
    | none =>
      rw [e2] at e
      show cof a.1 x + vq f * cof b.1 x = 0
      rw [cof_none e2, cof_none e]; grind
theorem lawAdd_con (ha : SuOk a) (hb : SuOk b) (hf : 0 < f.2) : vq (lawAdd a b f).2 = vq a.2 + vq f * vq b.2 := by
  show vq (pls a.2 (tms f b.2)) = _
  rw [vq_pls ha.cp (tms_pos hf hb.cp), vq_tms hf hb.cp]
/-- good sums: their addresses, their sizes -/
structure SuG (ev : List Ad) (n k : Nat) (s : Su) : Prop where
  ok : SuOk s
  mem : ∀ t ∈ s.1, t.1 ∈ ev
  tz : ∀ t ∈ s.1, Pz n k t.2
  cz : Pz n k s.2
variable {ev : List Ad} {n1 k1 n2 k2 nf kf n k : Nat}
theorem SuG.mono (h : SuG ev n1 k1 a) (e1 : n1 ≤ n) (e2 : k1 ≤ k) : SuG ev n k a := ⟨h.ok, h.mem, fun t ht => (h.tz t ht).mono e1 e2, h.cz.mono e1 e2⟩
theorem SuG.len (h : SuG ev n k a) : a.1.length ≤ ev.length := by
  have := nodup_len (m := ev) h.ok.nd fun x hx => by
    obtain ⟨t, ht, rfl⟩ := List.mem_map.mp hx
    exact h.mem t ht
  rwa [List.length_map] at this
theorem lawAdd_g (ha : SuG ev n1 k1 a) (hb : SuG ev n2 k2 b) (hf : Pz nf kf f) (e0 : 1 ≤ n1) (e1 : n1 + k2 + kf + 1 ≤ n) (e2 : nf + n2 + k1 + 1 ≤ n) (e3 : k1 + k2 + kf ≤ k) : SuG ev n k (lawAdd a b f) where
  ok := lawAdd_ok ha.ok hb.ok hf.pos
  mem := fun t ht => by
    have h := (selT_mem (p := fun v => decide (v.1 = 0)) (F := addFd a b f) ht).1
    rw [addFd_get ha.ok.nd hb.ok.nd] at h
    cases e : aget b.1 t.1 with
    | some u => exact hb.mem (t.1, u) (aget_mem e)
    | none => rw [e] at h; exact ha.mem _ (aget_mem h)
  tz := fun t ht => by
    have h := (selT_mem (p := fun v => decide (v.1 = 0)) (F := addFd a b f) ht).1
    rw [addFd_get ha.ok.nd hb.ok.nd] at h
    cases e : aget b.1 t.1 with
    | some u =>
      rw [e] at h
      rw [← Option.some.inj h]
      have hu := hb.tz _ (aget_mem e)
      have hg : Pz (n1 + 1) k1 ((aget a.1 t.1).getD (0, 1)) := pz_getD (by omega) fun v hv => (ha.tz _ (aget_mem hv)).mono (by omega) (Nat.le_refl _)
      cases e4 : aget a.1 t.1 with
      | none => exact pz_pls (pz01.mono (n' := 1) (k' := 0) (Nat.le_refl _) (Nat.le_refl _)) (pz_tms hf hu (Nat.le_refl _) (Nat.le_refl _)) (by omega) (by omega) (by omega)
      | some v => exact pz_pls (ha.tz _ (aget_mem e4)) (pz_tms hf hu (Nat.le_refl _) (Nat.le_refl _)) (by omega) (by omega) (by omega)
    | none => rw [e] at h; exact (ha.tz _ (aget_mem h)).mono (by omega) (by omega)
  cz := pz_pls ha.cz (pz_tms hf hb.cz (Nat.le_refl _) (Nat.le_refl _)) (by omega) (by omega) (by omega)
end
end Tf
/-! text TgK -/
/-! plain: what the sums of the law and of the text mean, how great they are; who keeps, who refutes -/
namespace Tf
section
variable {a b : Su} {f : Am} {ev : List Ad} {n1 k1 n2 k2 nf kf n k : Nat}
theorem prefix_key {l pre : List Tm} {t : Tm} (n : (l.map (·.1)).Nodup) (h : pre ++ [t] <+: l) : (pre.map (·.1)).Nodup ∧ aget pre t.1 = none := by
  have n2 : ((pre ++ [t]).map (·.1)).Nodup := List.Nodup.sublist (h.sublist.map _) n
  rw [List.map_append, List.nodup_append] at n2
  exact ⟨n2.1, aget_none fun hm => n2.2.2 _ hm _ (by simp) rfl⟩
/-- the law's addition may be called -/
theorem lawAdd_pre (ev0 : ∀ x ∈ ev, x ≠ []) (ev4 : ev.length ≤ 4) (ha : SuG ev n1 k1 a) (hb : SuG ev n2 k2 b) (hf : Pz nf kf f) (e : n1 + n2 + nf + k1 + k2 + kf ≤ 498800) : PreLad (a, b, f) where
  nn := fun t ht => by
    rcases List.mem_append.mp ht with h | h
    · exact ev0 _ (ha.mem t h)
    · exact ev0 _ (hb.mem t h)
  len := by
    have h1 := ha.len
    have h2 := hb.len
    show a.1.length + b.1.length ≤ 1000
    omega
  mid := fun pre t hp => by
    have ht := hb.tz t (hp.subset (by simp))
    obtain ⟨p1, p2⟩ := prefix_key hb.ok.nd hp
    refine ⟨hf.pmL ht (by omega), ?_⟩
    show PmL ((aget (pre.foldl (lfdF f) (lfd0 a.1)) t.1).getD (0, 1)) (tms f t.2)
    rw [aget_lfdF _ _ _ _ p1, p2, aget_lfd0 _ _ ha.ok.nd]
    exact (pz_getD (n := n1 + 1) (k := k1) (by omega) fun v hv => (ha.tz _ (aget_mem hv)).mono (by omega) (Nat.le_refl _)).pmL (pz_tms hf ht (Nat.le_refl _) (Nat.le_refl _)) (by omega)
  fin := ⟨hf.pmL hb.cz (by omega), ha.cz.pmL (pz_tms hf hb.cz (Nat.le_refl _) (Nat.le_refl _)) (by omega)⟩
/-! ### the text's addition -/
theorem timS_ok (hb : SuOk b) (hf : 0 < f.2) : SuOk (timS f b) := by
  unfold timS
  split
  · exact ⟨List.nodup_nil, fun t h => (nomatch h), fun t h => (nomatch h), by decide⟩
  · next c =>
    refine ⟨?_, fun t ht => ?_, fun t ht => ?_, tms_pos hf hb.cp⟩
    · show ((b.1.map fun t => (t.1, tms f t.2)).map (·.1)).Nodup
      rw [List.map_map]
      exact hb.nd
    · obtain ⟨u, hu, rfl⟩ := List.mem_map.mp ht
      exact tms_pos hf (hb.pos u hu)
    · obtain ⟨u, hu, rfl⟩ := List.mem_map.mp ht
      intro z
      have h1 := (vq_zero (tms_pos hf (hb.pos u hu))).mpr z
      rw [vq_tms hf (hb.pos u hu)] at h1
      rcases Rat.mul_eq_zero.mp h1 with h | h
      · exact c ((vq_zero hf).mp h)
      · exact hb.nz u hu ((vq_zero (hb.pos u hu)).mp h)
theorem cof_map (g : Am → Am) (q : Rat) : ∀ {l : List Tm}, (∀ t ∈ l, vq (g t.2) = q * vq t.2) → ∀ x, cof (l.map fun t => (t.1, g t.2)) x = q * cof l x
  | [], _, x => by show (0 : Rat) = q * 0; grind
  | t :: l, h, x => by
    rw [List.map_cons, cof_cons, cof_cons, cof_map g q (fun u hu => h u (List.mem_cons_of_mem _ hu)), h t List.mem_cons_self]
    split <;> rfl
theorem timS_cof (hb : SuOk b) (hf : 0 < f.2) : (∀ x, cof (timS f b).1 x = vq f * cof b.1 x) ∧ vq (timS f b).2 = vq f * vq b.2 := by
  unfold timS
  split
  · next c =>
    have := (vq_zero hf).mpr c
    rw [this]
    exact ⟨fun x => by show (0 : Rat) = 0 * _; grind, by show vq (0, 1) = _; rw [vq01]; grind⟩
  · exact ⟨fun x => cof_map (tms f) (vq f) (fun t ht => vq_tms hf (hb.pos t ht)) x, vq_tms hf hb.cp⟩
theorem timS_g (hb : SuG ev n2 k2 b) (hf : Pz nf kf f) (e0 : 1 ≤ n2) : SuG ev (nf + n2) (kf + k2) (timS f b) := by
  refine ⟨timS_ok hb.ok hf.pos, fun t ht => ?_, fun t ht => ?_, ?_⟩
  · unfold timS at ht
    split at ht
    · cases ht
    · obtain ⟨u, hu, rfl⟩ := List.mem_map.mp ht; exact hb.mem u hu
  · unfold timS at ht
    split at ht
    · cases ht
    · obtain ⟨u, hu, rfl⟩ := List.mem_map.mp ht
      exact pz_tms hf (hb.tz u hu) (Nat.le_refl _) (Nat.le_refl _)
  · unfold timS
    split
    · exact pz01.mono (by omega) (Nat.zero_le _)
    · exact pz_tms hf hb.cz (Nat.le_refl _) (Nat.le_refl _)
def addSd (a b : Su) : Pnt := (a.1 ++ b.1).foldl addF []
theorem addSd_get (ha : (a.1.map (·.1)).Nodup) (hb : (b.1.map (·.1)).Nodup) (x : Ad) : aget (addSd a b) x = match aget b.1 x with
    | some v => some (pls (((aget a.1 x).map (pls (0, 1))).getD (0, 1)) v)
    | none => (aget a.1 x).map (pls (0, 1)) := by
  unfold addSd
  have e : aget (a.1.foldl addF []) x = (aget a.1 x).map (pls (0, 1)) := by
    rw [aget_addF _ _ _ ha, aget_nil]
    cases aget a.1 x <;> rfl
  rw [List.foldl_append, aget_addF _ _ _ hb, e]
  all_goals (cases aget b.1 x <;> rfl)
theorem vq_p0 {v : Am} (h : 0 < v.2) : vq (pls (0, 1) v) = vq v := by
  rw [vq_pls (by decide) h, vq01]; grind
theorem addSd_val (ha : SuOk a) (hb : SuOk b) {x : Ad} {v : Am} (h : aget (addSd a b) x = some v) : (∃ t d, 0 < d ∧ v = amt t d) ∧ vq v = cof a.1 x + cof b.1 x := by
  rw [addSd_get ha.nd hb.nd] at h
  have e1 : 0 < (((aget a.1 x).map (pls (0, 1))).getD (0, 1)).2 ∧ vq (((aget a.1 x).map (pls (0, 1))).getD (0, 1)) = cof a.1 x := by
    cases e : aget a.1 x with
    | none => exact ⟨by decide, by rw [cof_none e]; exact vq01⟩
    | some u => exact ⟨pls_pos (by decide) (ha.get e).1, by rw [cof_get e]; exact vq_p0 (ha.get e).1⟩
  cases e : aget b.1 x with
  | none =>
    rw [e] at h
    have h : (aget a.1 x).map (pls (0, 1)) = some v := h
    rw [h] at e1
    rw [cof_none e]
    refine ⟨?_, ?_⟩
    · cases e2 : aget a.1 x with
      | none => rw [e2] at h; cases h
      | some u =>
        rw [e2] at h
        exact ⟨_, _, mul_pos' (by decide) (ha.get e2).1, (Option.some.inj h).symm⟩
    · have := e1.2
      show vq v = _
      have : vq v = cof a.1 x := this
      grind
  | some u =>
    rw [e] at h
    have h := Option.some.inj h
    have hu := (hb.get e).1
    refine ⟨⟨_, _, mul_pos' e1.1 hu, h.symm⟩, ?_⟩
    rw [← h, vq_pls e1.1 hu, e1.2, cof_get e]
theorem amt_z {v : Am} (h : ∃ t d, 0 < d ∧ v = amt t d) : 0 < v.2 ∧ (v = (0, 1) ↔ v.1 = 0) := by
  obtain ⟨t, d, hd, rfl⟩ := h
  exact ⟨amt_pos hd, amt_zero hd⟩
theorem addS_ok (ha : SuOk a) (hb : SuOk b) : SuOk (addS a b) where
  nd := selT_nodup (p := fun v => decide (v = (0, 1))) (F := addSd a b) (foldG_nodup (fun o v => pls (o.getD (0, 1)) v) _ [] (by simp))
  pos := fun t ht => (amt_z (addSd_val ha hb (selT_mem (p := fun v => decide (v = (0, 1))) (F := addSd a b) ht).1).1).1
  nz := fun t ht z => by
    have h1 := selT_mem (p := fun v => decide (v = (0, 1))) (F := addSd a b) ht
    exact of_decide_eq_false h1.2 ((amt_z (addSd_val ha hb h1.1).1).2.mpr z)
  cp := pls_pos ha.cp hb.cp
theorem addS_cof (ha : SuOk a) (hb : SuOk b) (x : Ad) : cof (addS a b).1 x = cof a.1 x + cof b.1 x := by
  refine selT_cof (p := fun v => decide (v = (0, 1))) (F := addSd a b) (c := fun x => cof a.1 x + cof b.1 x) (fun v x e => ?_) (fun x e => ?_) x
  · obtain ⟨h1, h2⟩ := addSd_val ha hb e
    exact ⟨h2, fun z => by rw [of_decide_eq_true z]; exact vq01⟩
  · rw [addSd_get ha.nd hb.nd] at e
    cases e2 : aget b.1 x with
    | some u => rw [e2] at e; cases e
    | none =>
      rw [e2] at e
      cases e3 : aget a.1 x with
      | some u => rw [e3] at e; cases e
      | none =>
        show cof a.1 x + cof b.1 x = 0
        rw [cof_none e2, cof_none e3]; grind
theorem addS_con (ha : SuOk a) (hb : SuOk b) : vq (addS a b).2 = vq a.2 + vq b.2 := vq_pls ha.cp hb.cp
theorem pz_p0 {v : Am} (h : Pz n k v) : Pz (n + k + 2) k (pls (0, 1) v) := pz_pls pz01 h (by omega) (by omega) (by omega)
theorem addS_g (ha : SuG ev n1 k1 a) (hb : SuG ev n2 k2 b) (e1 : n1 + k1 + k2 + 3 ≤ n) (e2 : n2 + k1 + 3 ≤ n) (e3 : k1 + k2 ≤ k) : SuG ev n k (addS a b) where
  ok := addS_ok ha.ok hb.ok
  mem := fun t ht => by
    have h := (selT_mem (p := fun v => decide (v = (0, 1))) (F := addSd a b) ht).1
    rw [addSd_get ha.ok.nd hb.ok.nd] at h
    cases e : aget b.1 t.1 with
    | some u => exact hb.mem (t.1, u) (aget_mem e)
    | none =>
      rw [e] at h
      cases e3 : aget a.1 t.1 with
      | some u => exact ha.mem (t.1, u) (aget_mem e3)
      | none => rw [e3] at h; cases h
  tz := fun t ht => by
    have h := (selT_mem (p := fun v => decide (v = (0, 1))) (F := addSd a b) ht).1
    rw [addSd_get ha.ok.nd hb.ok.nd] at h
    have hg : Pz (n1 + k1 + 2) k1 (((aget a.1 t.1).map (pls (0, 1))).getD (0, 1)) := pz_getD (by omega) fun v hv => by
      cases e3 : aget a.1 t.1 with
      | none => rw [e3] at hv; cases hv
      | some u => rw [e3] at hv; rw [← Option.some.inj hv]; exact pz_p0 (ha.tz _ (aget_mem e3))
    cases e : aget b.1 t.1 with
    | some u =>
      rw [e] at h
      rw [← Option.some.inj h]
      exact pz_pls hg (hb.tz _ (aget_mem e)) (by omega) (by omega) e3
    | none =>
      rw [e] at h
      have h : (aget a.1 t.1).map (pls (0, 1)) = some t.2 := h
      rw [h] at hg
      exact Pz.mono hg (by omega) (by omega)
  cz := pz_pls ha.cz hb.cz (by omega) (by omega) e3
theorem addS_pre (ev0 : ∀ x ∈ ev, x ≠ []) (ev4 : ev.length ≤ 4) (ha : SuG ev n1 k1 a) (hb : SuG ev n2 k2 b) (e : n1 + n2 + k1 + k2 ≤ 10000000) : PreAdd (a, b) where
  nn := fun t ht => by
    rcases List.mem_append.mp ht with h | h
    · exact ev0 _ (ha.mem t h)
    · exact ev0 _ (hb.mem t h)
  len := by
    have h1 := ha.len
    have h2 := hb.len
    show a.1.length + b.1.length ≤ 1000
    omega
  one := ha.cz.pm (by omega)
  two := hb.cz.pm (by omega)
  mid := fun pre t hp => by
    have hp : pre ++ [t] <+: a.1 ++ b.1 := hp
    have ht : Pm t.2 := by
      rcases List.mem_append.mp (hp.subset (show t ∈ pre ++ [t] by simp)) with h | h
      · exact (ha.tz t h).pm (by omega)
      · exact (hb.tz t h).pm (by omega)
    refine ⟨?_, ht⟩
    show Pm ((aget (pre.foldl addF []) t.1).getD (0, 1))
    have hpre : pre <+: a.1 ++ b.1 := (List.prefix_append pre [t]).trans hp
    have ep := List.prefix_iff_eq_take.mp hpre
    rw [List.take_append] at ep
    rw [ep]
    have na : ((a.1.take pre.length).map (·.1)).Nodup := List.Nodup.sublist ((List.take_sublist _ _).map _) ha.ok.nd
    have nb : ((b.1.take (pre.length - a.1.length)).map (·.1)).Nodup := List.Nodup.sublist ((List.take_sublist _ _).map _) hb.ok.nd
    refine Pz.pm (n := n1 + n2 + k1 + k2 + 4) (k := k1 + k2) (pz_getD (by omega) fun v hv => ?_) (by omega)
    have h : aget (addSd (a.1.take pre.length, a.2) (b.1.take (pre.length - a.1.length), b.2)) t.1 = some v := hv
    rw [addSd_get na nb] at h
    have hg : Pz (n1 + k1 + 2) k1 (((aget (a.1.take pre.length) t.1).map (pls (0, 1))).getD (0, 1)) := pz_getD (by omega) fun v hv => by
      cases e3 : aget (a.1.take pre.length) t.1 with
      | none => rw [e3] at hv; cases hv
      | some u => rw [e3] at hv; rw [← Option.some.inj hv]; exact pz_p0 (ha.tz _ (List.mem_of_mem_take (aget_mem e3)))
    cases e : aget (b.1.take (pre.length - a.1.length)) t.1 with
    | some u =>
      simp only [e] at h
      rw [← Option.some.inj h]
      exact pz_pls hg (hb.tz _ (List.mem_of_mem_take (aget_mem e))) (by omega) (by omega) (by omega)
    | none =>
      simp only [e] at h
      rw [h] at hg
      exact Pz.mono hg (by omega) (by omega)
end
end Tf
/-! text TgL -/
/-! plain: who keeps, who refutes -/
namespace Tf
/-! ### values -/
theorem val_fold (p : Pnt) : ∀ (l : List Tm) (c : Am), 0 < c.2 → (∀ t ∈ l, 0 < t.2.2) → (∀ t ∈ l, 0 < ((aget p t.1).getD (0, 1)).2) →
    0 < (l.foldl (fun v t => pls v (tms t.2 ((aget p t.1).getD (0, 1)))) c).2 ∧ vq (l.foldl (fun v t => pls v (tms t.2 ((aget p t.1).getD (0, 1)))) c) = vq c + rsum l (fun t => vq t.2 * cof p t.1)
  | [], c, h, _, _ => ⟨h, by show vq c = vq c + 0; grind⟩
  | t :: l, c, h, h1, h2 => by
    have p1 := tms_pos (h1 t List.mem_cons_self) (h2 t List.mem_cons_self)
    obtain ⟨q1, q2⟩ := val_fold p l _ (pls_pos h p1) (fun u hu => h1 u (List.mem_cons_of_mem _ hu)) fun u hu => h2 u (List.mem_cons_of_mem _ hu)
    refine ⟨q1, ?_⟩
    rw [List.foldl_cons, q2, vq_pls h p1, vq_tms (h1 t List.mem_cons_self) (h2 t List.mem_cons_self), cof_getD, rsum]
    grind
/-- a point that knows the addresses -/
structure PtG (ev : List Ad) (n k : Nat) (p : Pnt) : Prop where
  get : ∀ a ∈ ev, ∃ v, aget p a = some v ∧ Pz n k v
section
variable {ev : List Ad} {n k np kp : Nat} {s : Su} {p : Pnt}
theorem PtG.pz (hp : PtG ev np kp p) {a : Ad} (ha : a ∈ ev) : Pz np kp ((aget p a).getD (0, 1)) := by
  obtain ⟨v, h1, h2⟩ := hp.get a ha
  rw [h1]; exact h2
theorem valS_q (hs : SuG ev n k s) (hp : PtG ev np kp p) : 0 < (valS s p).2 ∧ vq (valS s p) = vq s.2 + rsum s.1 (fun t => vq t.2 * cof p t.1) :=
  val_fold p s.1 s.2 hs.ok.cp hs.ok.pos fun t ht => (hp.pz (hs.mem t ht)).pos
theorem val_sz (p : Pnt) : ∀ (l : List Tm) (c : Am) (A Kc : Nat), Pz A Kc c → n + np + Kc ≤ A → (∀ t ∈ l, Pz n k t.2) → (∀ t ∈ l, Pz np kp ((aget p t.1).getD (0, 1))) →
    Pz (A + l.length * (k + kp + 1)) (Kc + l.length * (k + kp)) (l.foldl (fun v t => pls v (tms t.2 ((aget p t.1).getD (0, 1)))) c)
  | [], c, A, Kc, h, _, _, _ => h.mono (by simp) (by simp)
  | t :: l, c, A, Kc, h, e, h1, h2 => by
    have p1 := pz_tms (h1 t List.mem_cons_self) (h2 t List.mem_cons_self) (Nat.le_refl _) (Nat.le_refl _)
    have p2 := pz_pls (N := A + (k + kp + 1)) (K := Kc + (k + kp)) h p1 (by omega) (by omega) (Nat.le_refl _)
    refine (val_sz p l _ _ _ p2 (by omega) (fun u hu => h1 u (List.mem_cons_of_mem _ hu)) fun u hu => h2 u (List.mem_cons_of_mem _ hu)).mono ?_ ?_
    · rw [List.length_cons, Nat.succ_mul]; omega
    · rw [List.length_cons, Nat.succ_mul]; omega
theorem val_g (hs : SuG ev n k s) (hp : PtG ev np kp p) (ev4 : ev.length ≤ 4) {pre : List Tm} (h : pre <+: s.1) : Pz (n + np + k + 4 * (k + kp + 1)) (k + 4 * (k + kp)) (valS (pre, s.2) p) := by
  have hl : pre.length ≤ 4 := Nat.le_trans h.length_le (Nat.le_trans hs.len ev4)
  have hm : ∀ t ∈ pre, t ∈ s.1 := fun t ht => h.subset ht
  refine (val_sz (n := n) (k := k) (np := np) (kp := kp) p pre s.2 (n + np + k) k (hs.cz.mono (by omega) (Nat.le_refl _)) (Nat.le_refl _) (fun t ht => hs.tz t (hm t ht)) fun t ht => hp.pz (hs.mem t (hm t ht))).mono ?_ ?_
  · have := Nat.mul_le_mul_right (k + kp + 1) hl; omega
  · have := Nat.mul_le_mul_right (k + kp) hl; omega
theorem valS_g (hs : SuG ev n k s) (hp : PtG ev np kp p) (ev4 : ev.length ≤ 4) : Pz (n + np + k + 4 * (k + kp + 1)) (k + 4 * (k + kp)) (valS s p) := val_g hs hp ev4 (List.prefix_refl _)
theorem pre_vaL {N : Nat} (hs : SuG ev n k s) (hp : PtG ev np kp p) (ev4 : ev.length ≤ 4) (e1 : n + np ≤ N) (e2 : k + kp + 1 ≤ N) (e : n + np + k + 4 * (k + kp + 1) + 1 + N + 1 ≤ 499000) : PreVaL (s, p) where
  mid := fun pre t h => by
    have h : pre ++ [t] <+: s.1 := h
    have ht := h.subset (show t ∈ pre ++ [t] by simp)
    obtain ⟨v, h1, h2⟩ := hp.get t.1 (hs.mem t ht)
    refine ⟨v, h1, (hs.tz t ht).pmM (N := n + k + 1) (N' := np + kp + 1) h2 (by omega) (by omega) (by omega) (by omega) (by omega), ?_⟩
    exact (val_g hs hp ev4 ((List.prefix_append pre [t]).trans h)).pmM (N := n + np + k + 4 * (k + kp + 1) + 1) (N' := N) (pz_tms (hs.tz t ht) h2 (Nat.le_refl _) (Nat.le_refl _)) (by omega) (by omega) (by omega) (by omega) (by omega)
theorem pre_val (hs : SuG ev n k s) (hp : PtG ev np kp p) (ev4 : ev.length ≤ 4) (e : 2 * (n + np) + 10 * (k + kp + 1) ≤ 10000000) : PreVal (s, p) where
  mid := fun pre t h => by
    have h : pre ++ [t] <+: s.1 := h
    have ht := h.subset (show t ∈ pre ++ [t] by simp)
    obtain ⟨v, h1, h2⟩ := hp.get t.1 (hs.mem t ht)
    refine ⟨(val_g hs hp ev4 ((List.prefix_append pre [t]).trans h)).pm (by omega), (hs.tz t ht).pm (by omega), v, h1, h2.pm (by omega), (pz_tms (hs.tz t ht) h2 (Nat.le_refl _) (Nat.le_refl _)).pm (by omega)⟩
end
/-! ### keeping -/
/-- an assignment keeps a bound -/
def KeepsQ (b : Bd) (y : Ad → Rat) : Prop := vq b.1.2 + rsum b.1.1 (fun t => vq t.2 * y t.1) ≤ 0 ∧ (b.2 = true → vq b.1.2 + rsum b.1.1 (fun t => vq t.2 * y t.1) < 0)
theorem hld_brk (b : Bd) (p : Pnt) : hldS b p = !brkS b p := by
  unfold hldS brkS
  generalize (valS b.1 p).1 = v
  generalize b.2 = s
  rcases Int.lt_trichotomy v 0 with h | h | h
  · have h1 : ¬ 0 < v := by omega
    have h2 : ¬ v = 0 := by omega
    simp [h, h1, h2]
  · subst h; cases s <;> simp
  · have h1 : ¬ v < 0 := by omega
    have h2 : ¬ v = 0 := by omega
    simp [h, h1, h2]
theorem brk_iff {ev : List Ad} {n k np kp : Nat} {b : Bd} {p : Pnt} (hs : SuG ev n k b.1) (hp : PtG ev np kp p) : brkS b p = false ↔ KeepsQ b (cof p) := by
  obtain ⟨h1, h2⟩ := valS_q hs hp
  unfold brkS KeepsQ
  rw [← h2]
  have n1 := vq_neg h1
  have n2 := vq_zero h1
  have n3 := vq_gt h1
  generalize vq (valS b.1 p) = q at *
  generalize (valS b.1 p).1 = v at *
  rcases Int.lt_trichotomy v 0 with h | h | h
  · have a1 : ¬ 0 < v := by omega
    have a2 : ¬ v = 0 := by omega
    have := n1.mpr h
    simp [a1, a2]
    exact ⟨by grind, fun _ => this⟩
  · have := n2.mpr h
    subst h
    subst this
    cases b.2 <;> simp <;> grind
  · have := n3.mpr h
    simp [h]
    intro _
    grind
theorem kep_iff {ev : List Ad} {n k np kp : Nat} {bs : List Bd} {p : Pnt} (hs : ∀ b ∈ bs, SuG ev n k b.1) (hp : PtG ev np kp p) : kepS bs p = true ↔ ∀ b ∈ bs, KeepsQ b (cof p) := by
  unfold kepS
  rw [List.all_eq_true]
  constructor
  · intro h b hb
    have := h b hb
    exact (brk_iff (hs b hb) hp).mp (by simpa using this)
  · intro h b hb
    have := (brk_iff (hs b hb) hp).mpr (h b hb)
    simp [this]
/-! ### refuting -/
def RefP (l : List (Bd × Am)) (c : Ad → Rat) (q : Rat) (st : Bool) : Prop := (∀ p ∈ l, 0 ≤ p.2.1) ∧ (∀ x, c x + rsum l (fun p => vq p.2 * cof p.1.1.1 x) = 0) ∧
  (0 < q + rsum l (fun p => vq p.2 * vq p.1.1.2) ∨ (q + rsum l (fun p => vq p.2 * vq p.1.1.2) = 0 ∧ (st = true ∨ ∃ p ∈ l, p.1.2 = true ∧ 0 < p.2.1)))
theorem refP_nil {t : Su} (ht : SuOk t) (st : Bool) : (decide (t.1 = []) && (decide (0 < t.2.1) || (decide (t.2.1 = 0) && st))) = true ↔ RefP [] (cof t.1) (vq t.2) st := by
  unfold RefP
  have e1 : ∀ x : Rat, x + (0 : Rat) = x := fun x => by grind
  simp only [rsum, e1]
  rw [Bool.and_eq_true, Bool.or_eq_true, Bool.and_eq_true, decide_eq_true_iff, decide_eq_true_iff, decide_eq_true_iff, ht.nil, vq_gt ht.cp, vq_zero ht.cp]
  simp
theorem refP_cons {b : Bd} {w : Am} {l : List (Bd × Am)} {c c' : Ad → Rat} {q q' : Rat} {st : Bool} (hw : 0 ≤ w.1) (hc : ∀ x, c' x = c x + vq w * cof b.1.1 x) (hq : q' = q + vq w * vq b.1.2) :
    RefP l c' q' (st || (b.2 && decide (0 < w.1))) ↔ RefP ((b, w) :: l) c q st := by
  unfold RefP
  refine and_congr ?_ (and_congr ?_ ?_)
  · constructor
    · intro h p hp
      rcases List.mem_cons.mp hp with e | e
      · rw [e]; exact hw
      · exact h p e
    · exact fun h p hp => h p (List.mem_cons_of_mem _ hp)
  · refine forall_congr' fun x => ?_
    rw [hc, rsum]
    constructor <;> intro h <;> grind
  · have e : q' + rsum l (fun p => vq p.2 * vq p.1.1.2) = q + rsum ((b, w) :: l) (fun p => vq p.2 * vq p.1.1.2) := by rw [hq, rsum]; grind
    rw [e]
    refine or_congr Iff.rfl (and_congr Iff.rfl ?_)
    rw [Bool.or_eq_true, Bool.and_eq_true, decide_eq_true_iff, or_assoc]
    refine or_congr Iff.rfl ?_
    constructor
    · rintro (⟨h1, h2⟩ | ⟨p, h1, h2⟩)
      · exact ⟨(b, w), List.mem_cons_self, h1, h2⟩
      · exact ⟨p, List.mem_cons_of_mem _ h1, h2⟩
    · rintro ⟨p, h1, h2⟩
      rcases List.mem_cons.mp h1 with e | e
      · rw [e] at h2; exact .inl h2
      · exact .inr ⟨p, e, h2⟩
theorem lrf_iff : ∀ (l : List (Bd × Am)) (t : Su) (st : Bool), SuOk t → (∀ p ∈ l, SuOk p.1.1 ∧ 0 < p.2.2) → (lrfG l t st = true ↔ RefP l (cof t.1) (vq t.2) st)
  | [], t, st, ht, _ => refP_nil ht st
  | (b, w) :: l, t, st, ht, h => by
    obtain ⟨h1, h2⟩ := h (b, w) List.mem_cons_self
    have h1 : SuOk b.1 := h1
    have h2 : 0 < w.2 := h2
    rw [lrfG]
    by_cases c : w.1 < 0
    · rw [if_pos c]
      refine ⟨(fun z => nomatch z), fun z => ?_⟩
      have : 0 ≤ w.1 := z.1 (b, w) List.mem_cons_self
      omega
    · rw [if_neg c, lrf_iff l _ _ (lawAdd_ok ht h1 h2) fun p hp => h p (List.mem_cons_of_mem _ hp)]
      exact refP_cons (by omega) (lawAdd_cof ht h1 h2) (lawAdd_con ht h1 h2)
theorem ref_iff : ∀ (l : List (Bd × Am)) (t : Su) (st : Bool), SuOk t → (∀ p ∈ l, SuOk p.1.1 ∧ 0 < p.2.2) → (refG l t st = true ↔ RefP l (cof t.1) (vq t.2) st)
  | [], t, st, ht, _ => refP_nil ht st
  | (b, w) :: l, t, st, ht, h => by
    obtain ⟨h1, h2⟩ := h (b, w) List.mem_cons_self
    have h1 : SuOk b.1 := h1
    have h2 : 0 < w.2 := h2
    have ho := timS_ok h1 h2
    obtain ⟨g1, g2⟩ := timS_cof h1 h2
    rw [refG]
    by_cases c : w.1 < 0
    · rw [if_pos c]
      refine ⟨(fun z => nomatch z), fun z => ?_⟩
      have : 0 ≤ w.1 := z.1 (b, w) List.mem_cons_self
      omega
    · rw [if_neg c, ref_iff l _ _ (addS_ok ht ho) fun p hp => h p (List.mem_cons_of_mem _ hp)]
      exact refP_cons (by omega) (fun x => by rw [addS_cof ht ho, g1]) (by rw [addS_con ht ho, g2])
theorem rmul_nonpos {a b : Rat} (ha : 0 ≤ a) (hb : b ≤ 0) : a * b ≤ 0 := by
  have := Rat.mul_nonneg ha (by grind : (0 : Rat) ≤ -b)
  grind
/-- nobody keeps what is refuted -/
theorem no_both {ev : List Ad} (hn : ev.Nodup) {l : List (Bd × Am)} {y : Ad → Rat} (hs : ∀ p ∈ l, SuOk p.1.1 ∧ (∀ t ∈ p.1.1.1, t.1 ∈ ev) ∧ 0 < p.2.2) (h : RefP l (fun _ => 0) 0 false) (hk : ∀ p ∈ l, KeepsQ p.1 y) : False := by
  obtain ⟨h1, h2, h3⟩ := h
  have wn : ∀ p ∈ l, 0 ≤ vq p.2 := fun p hp => by
    have := h1 p hp
    have n := vq_neg (hs p hp).2.2
    have : ¬ vq p.2 < 0 := fun z => by have := n.mp z; omega
    grind
  have tot : rsum l (fun p => vq p.2 * (vq p.1.1.2 + rsum p.1.1.1 (fun t => vq t.2 * y t.1))) = rsum l (fun p => vq p.2 * vq p.1.1.2) := by
    have e1 : rsum l (fun p => vq p.2 * (vq p.1.1.2 + rsum p.1.1.1 (fun t => vq t.2 * y t.1))) = rsum l (fun p => vq p.2 * vq p.1.1.2 + rsum ev fun a => vq p.2 * cof p.1.1.1 a * y a) := rsum_congr fun p hp => by
      obtain ⟨g1, g2, g3⟩ := hs p hp
      rw [rsum_cof y hn g1.nd g2]
      have : rsum ev (fun a => vq p.2 * cof p.1.1.1 a * y a) = vq p.2 * rsum ev fun a => cof p.1.1.1 a * y a := by
        rw [← rsum_mul]
        exact rsum_congr fun a _ => by grind
      rw [this]; grind
    rw [e1, rsum_add, rsum_swap]
    have e2 : rsum ev (fun a => rsum l fun p => vq p.2 * cof p.1.1.1 a * y a) = 0 := rsum_zero fun a _ => by
      have : rsum l (fun p => vq p.2 * cof p.1.1.1 a * y a) = y a * rsum l fun p => vq p.2 * cof p.1.1.1 a := by
        rw [← rsum_mul]
        exact rsum_congr fun p _ => by grind
      have := h2 a
      grind
    rw [e2]; grind
  have le : ∀ p ∈ l, vq p.2 * (vq p.1.1.2 + rsum p.1.1.1 (fun t => vq t.2 * y t.1)) ≤ 0 := fun p hp => rmul_nonpos (wn p hp) (hk p hp).1
  have s0 := rsum_le le
  rw [tot] at s0
  rcases h3 with h3 | ⟨h3, h4⟩
  · grind
  · rcases h4 with h4 | ⟨p, hp, h5, h6⟩
    · cases h4
    · have lt := rsum_lt le hp (by
        have := rmul_neg ((hk p hp).2 h5) ((vq_gt (hs p hp).2.2).mpr h6)
        grind)
      rw [tot] at lt
      grind
end Tf
/-! text TgM -/
/-! plain: the first table -/
namespace Tf
section
variable {κ α γ : Type} [DecidableEq κ] (g : γ → κ) (F : γ → α)
theorem foldK_out : ∀ (l : List γ) (acc : List (κ × α)) (x : κ), x ∉ l.map g → aget (l.foldl (fun acc p => aput acc (g p) (F p)) acc) x = aget acc x
  | [], acc, x, _ => rfl
  | p :: l, acc, x, h => by
    rw [List.map_cons, List.mem_cons, not_or] at h
    rw [List.foldl_cons, foldK_out l _ x h.2, aget_aput, if_neg h.1]
theorem foldK_in : ∀ (l : List γ) (acc : List (κ × α)) (p : γ), (l.map g).Nodup → p ∈ l → aget (l.foldl (fun acc p => aput acc (g p) (F p)) acc) (g p) = some (F p)
  | [], acc, p, _, h => nomatch h
  | q :: l, acc, p, n, h => by
    have n := List.nodup_cons.mp n
    rw [List.foldl_cons]
    rcases List.mem_cons.mp h with e | e
    · subst e
      rw [foldK_out g F l _ _ n.1, aget_aput, if_pos rfl]
    · exact foldK_in l _ p n.2 e
theorem foldK_nodup (l : List γ) (acc : List (κ × α)) (h : (acc.map (·.1)).Nodup) : ((l.foldl (fun acc p => aput acc (g p) (F p)) acc).map (·.1)).Nodup :=
  fold_nodup _ (fun acc x h => aput_nodup h) l acc h
theorem foldK_keys (l : List γ) (acc : List (κ × α)) (n : (l.map g).Nodup) (x : κ) : x ∈ (l.foldl (fun acc p => aput acc (g p) (F p)) acc).map (·.1) ↔ x ∈ l.map g ∨ x ∈ acc.map (·.1) := by
  by_cases c : x ∈ l.map g
  · obtain ⟨p, hp, rfl⟩ := List.mem_map.mp c
    rw [← aget_isKey, foldK_in g F l acc p n hp]
    simp [c]
  · rw [← aget_isKey, foldK_out g F l acc x c, aget_isKey]
    simp [c]
end
section
variable {α : Type}
theorem idx_in {l : List α} {i : Nat} {a : α} (h : l[i]? = some a) : (i, a) ∈ l.mapIdx fun i a => (i, a) := by
  refine List.mem_of_getElem? (i := i) ?_
  rw [List.getElem?_mapIdx, h]
  rfl
theorem idx_snd (l : List α) : (l.mapIdx fun i a => (i, a)).map (·.2) = l := by
  apply List.ext_getElem?
  intro i
  rw [List.getElem?_map, List.getElem?_mapIdx]
  cases l[i]? <;> rfl
theorem idx_fst (l : List α) : (l.mapIdx fun i a => (i, a)).map (·.1) = List.range l.length := by
  apply List.ext_getElem?
  intro i
  rw [List.getElem?_map, List.getElem?_mapIdx]
  by_cases c : i < l.length
  · rw [List.getElem?_eq_getElem c, List.getElem?_range c]; rfl
  · rw [List.getElem?_eq_none (by omega), List.getElem?_eq_none (by rw [List.length_range]; omega)]; rfl
theorem idx_nodup (l : List α) (c : Int) : ((l.mapIdx fun i a => (i, a)).map fun p => c + ((p.1 : Nat) : Int)).Nodup := by
  have e : ((l.mapIdx fun i a => (i, a)).map fun p => c + ((p.1 : Nat) : Int)) = (List.range l.length).map fun i : Nat => c + (i : Int) := by
    rw [← idx_fst l, List.map_map]
    rfl
  rw [e, List.Nodup, List.pairwise_map]
  exact (List.nodup_range (n := l.length)).imp fun {a b} n e => n (by omega)
end
/-! ### the numbers of the addresses -/
theorem adsS_nodup (bs : List Bd) : (adsS bs).Nodup := (sortA_perm _).nodup_iff.mpr (nub_nodup _)
theorem adsS_mem (bs : List Bd) (a : Ad) : a ∈ adsS bs ↔ ∃ b ∈ bs, ∃ t ∈ b.1.1, t.1 = a := by
  unfold adsS
  rw [(sortA_perm _).mem_iff, nub_mem]
  unfold adsA
  rw [List.mem_flatMap]
  simp only [List.mem_map]
theorem numS_get {bs : List Bd} {i : Nat} {a : Ad} (h : (adsS bs)[i]? = some a) : aget (numS bs) a = some (2 + (i : Int)) := by
  unfold numS
  have := foldK_in (fun p : Nat × Ad => p.2) (fun p : Nat × Ad => (1 + 1 + ((p.1 : Nat) : Int))) _ [] (i, a) (by rw [idx_snd]; exact adsS_nodup bs) (idx_in h)
  exact this
theorem numS_keys (bs : List Bd) (a : Ad) : a ∈ (numS bs).map (·.1) ↔ a ∈ adsS bs := by
  unfold numS
  rw [foldK_keys (fun p : Nat × Ad => p.2) (fun p : Nat × Ad => (1 + 1 + ((p.1 : Nat) : Int))) _ [] (by rw [idx_snd]; exact adsS_nodup bs), idx_snd]
  simp
theorem numS_nodup (bs : List Bd) : ((numS bs).map (·.1)).Nodup := by
  unfold numS
  exact foldK_nodup (fun p : Nat × Ad => p.2) (fun p : Nat × Ad => (1 + 1 + ((p.1 : Nat) : Int))) _ [] (by simp)
/-- the number of an address -/
def nmS (bs : List Bd) (a : Ad) : Int := (aget (numS bs) a).getD 0
theorem nmS_at {bs : List Bd} {i : Nat} {a : Ad} (h : (adsS bs)[i]? = some a) : nmS bs a = 2 + (i : Int) := by unfold nmS; rw [numS_get h]; rfl
theorem nmS_of {bs : List Bd} {a : Ad} (h : a ∈ adsS bs) : ∃ i : Nat, i < (adsS bs).length ∧ (adsS bs)[i]? = some a ∧ nmS bs a = 2 + (i : Int) ∧ aget (numS bs) a = some (2 + (i : Int)) := by
  obtain ⟨i, hi⟩ := List.getElem?_of_mem h
  exact ⟨i, (List.getElem?_eq_some_iff.mp hi).1, hi, nmS_at hi, numS_get hi⟩
theorem nmS_inj {bs : List Bd} {a a' : Ad} (h : a ∈ adsS bs) (h' : a' ∈ adsS bs) (e : nmS bs a = nmS bs a') : a = a' := by
  obtain ⟨i, _, h1, h2, _⟩ := nmS_of h
  obtain ⟨j, _, h3, h4, _⟩ := nmS_of h'
  have : i = j := by omega
  subst this
  rw [h1] at h3
  exact Option.some.inj h3
/-! ### the whole scale -/
theorem sca_fold : ∀ (l : List Tm) (n : Int), 0 < n → (∀ t ∈ l, 0 < t.2.2) → 0 < l.foldl (fun n t => ((Nat.lcm n.natAbs t.2.2.natAbs : Nat) : Int)) n ∧ n ∣ l.foldl (fun n t => ((Nat.lcm n.natAbs t.2.2.natAbs : Nat) : Int)) n ∧ ∀ t ∈ l, t.2.2 ∣ l.foldl (fun n t => ((Nat.lcm n.natAbs t.2.2.natAbs : Nat) : Int)) n
  | [], n, h, _ => ⟨h, Int.dvd_refl _, fun t h => nomatch h⟩
  | t :: l, n, h, hl => by
    have ht := hl t List.mem_cons_self
    have hp : (0 : Int) < ((Nat.lcm n.natAbs t.2.2.natAbs : Nat) : Int) := by
      have := Nat.lcm_pos (m := n.natAbs) (n := t.2.2.natAbs) (by omega) (by omega)
      omega
    obtain ⟨h1, h2, h3⟩ := sca_fold l _ hp fun u hu => hl u (List.mem_cons_of_mem _ hu)
    refine ⟨h1, Int.dvd_trans ?_ h2, fun u hu => ?_⟩
    · exact Int.natAbs_dvd.mp (Int.natCast_dvd_natCast.mpr (Nat.dvd_lcm_left _ _))
    · rcases List.mem_cons.mp hu with e | e
      · subst e
        exact Int.dvd_trans (Int.natAbs_dvd.mp (Int.natCast_dvd_natCast.mpr (Nat.dvd_lcm_right _ _))) h2
      · exact h3 u e
theorem lcm_le (a b : Nat) (n k : Nat) (ha : a ≤ 2 ^ n) (hb : b ≤ 2 ^ k) : Nat.lcm a b ≤ 2 ^ (n + k) := by
  rw [Nat.pow_add]
  by_cases z : a = 0
  · rw [z, Nat.lcm_zero_left]; exact Nat.zero_le _
  by_cases w : b = 0
  · rw [w, Nat.lcm_zero_right]; exact Nat.zero_le _
  exact Nat.le_trans (Nat.le_of_dvd (Nat.mul_pos (Nat.pos_of_ne_zero z) (Nat.pos_of_ne_zero w)) (Nat.lcm_dvd (Nat.dvd_mul_right _ _) (Nat.dvd_mul_left _ _))) (Nat.mul_le_mul ha hb)
theorem sca_le (k : Nat) : ∀ (l : List Tm) (n : Int) (K : Nat), n.natAbs ≤ 2 ^ K → (∀ t ∈ l, t.2.2.natAbs ≤ 2 ^ k) → (l.foldl (fun n t => ((Nat.lcm n.natAbs t.2.2.natAbs : Nat) : Int)) n).natAbs ≤ 2 ^ (K + l.length * k)
  | [], n, K, h, _ => by simpa using h
  | t :: l, n, K, h, hl => by
    have h1 := lcm_le _ _ _ _ h (hl t List.mem_cons_self)
    have := sca_le k l ((Nat.lcm n.natAbs t.2.2.natAbs : Nat) : Int) (K + k) (by rw [Int.natAbs_natCast]; exact h1) fun u hu => hl u (List.mem_cons_of_mem _ hu)
    rw [List.foldl_cons, List.length_cons, Nat.succ_mul]
    have e : K + (l.length * k + k) = K + k + l.length * k := by omega
    rw [e]; exact this
section
variable {ev : List Ad} {n k : Nat} {s : Su}
theorem scaS_pos (h : SuOk s) : 0 < scaS s ∧ s.2.2 ∣ scaS s ∧ ∀ t ∈ s.1, t.2.2 ∣ scaS s := sca_fold s.1 s.2.2 h.cp h.pos
theorem scaS_le (h : SuG ev n k s) (ev4 : ev.length ≤ 4) {pre : List Tm} (hp : pre <+: s.1) : (scaS (pre, s.2)).natAbs ≤ 2 ^ (5 * k) := by
  have h1 := sca_le k pre s.2.2 k h.cz.l2 fun t ht => (h.tz t (hp.subset ht)).l2
  refine Nat.le_trans h1 (Nat.pow_le_pow_right (by decide) ?_)
  have : pre.length ≤ 4 := Nat.le_trans hp.length_le (Nat.le_trans h.len ev4)
  have := Nat.mul_le_mul_right k this
  omega
theorem scaS_sz (h : SuG ev n k s) (ev4 : ev.length ≤ 4) (e : 5 * k ≤ 5900) : ∀ pre t, pre ++ [t] <+: s.1 → Lt2 (scaS (pre, s.2)) 6000 ∧ Lt2 t.2.2 6000 := fun pre t hp => by
  have le : ∀ {z j : Nat}, z ≤ 2 ^ j → j < 6000 → z < 2 ^ 6000 := fun {z j} h1 h2 => Nat.lt_of_le_of_lt h1 (Nat.pow_lt_pow_right (by decide) h2)
  refine ⟨le (scaS_le h ev4 ((List.prefix_append pre [t]).trans hp)) (by omega), le (h.tz t (hp.subset (by simp))).l2 (by omega)⟩
/-- what a factor becomes -/
theorem fac_q {f : Am} {sc : Int} (hf : 0 < f.2) (hd : f.2 ∣ sc) : ((-f.1 * (sc / f.2) : Int) : Rat) = -((sc : Rat) * vq f) := by
  obtain ⟨z, rfl⟩ := hd
  rw [Int.mul_ediv_cancel_left _ (by omega), Rat.intCast_mul, Rat.intCast_mul, Rat.intCast_neg]
  unfold vq
  have := cast_pos hf
  grind
theorem fac_sz {f : Am} {sc : Int} {K : Nat} (hf : Pz n k f) (h : sc.natAbs ≤ 2 ^ K) : Lt2 (-f.1 * (sc / f.2)) (n + K) :=
  lt2_mulz hf.l1.neg (Nat.le_trans (Int.natAbs_ediv_le_natAbs _ _) h)
end
end Tf
/-! text TgN -/
/-! plain: the first table is well -/
namespace Tf
/-! ### a row -/
def facI (b : Bd) (f : Am) : Int := -f.1 * (scaS b.1 / f.2)
section
variable {bs : List Bd} {b : Bd} {sl : Int}
theorem div_pos' {b : Bd} (h : SuOk b.1) {f : Am} (hf : 0 < f.2) (hd : f.2 ∣ scaS b.1) : 0 < scaS b.1 / f.2 := Int.ediv_pos_of_pos_of_dvd (scaS_pos h).1 (Int.le_of_lt hf) hd
theorem facI_ne {b : Bd} (h : SuOk b.1) {f : Am} (hf : 0 < f.2) (hd : f.2 ∣ scaS b.1) (hz : f.1 ≠ 0) : facI b f ≠ 0 := by
  have := div_pos' h hf hd
  exact mul_ne0 (by omega) (by omega)
theorem gt_one (sl k v : Int) : gt [(sl, v)] k = if k = sl then v else 0 := by
  unfold gt
  rw [aget_cons, aget_nil]
  by_cases c : sl = k
  · rw [if_pos c, if_pos c.symm]; rfl
  · rw [if_neg c, if_neg fun e => c e.symm]; rfl
theorem gt_rowA (h2 : 2 ≤ sl) (k : Int) : gt (rowA b sl) k = if k = 0 then facI b b.1.2 else if k = sl then -1 else 0 := by
  unfold rowA
  split
  · next c =>
    rw [gt_one]
    by_cases z : k = 0
    · subst z
      rw [if_neg (by omega), if_pos rfl]
      unfold facI
      rw [c]; simp
    · rw [if_neg z]
  · rw [gt_aput, gt_one]
    rfl
theorem gt_rowI (h2 : 2 ≤ sl) (k : Int) : gt (rowI b sl) k = if k = 0 then facI b b.1.2 else if k = 1 then (if b.2 = true then -1 else 0) else if k = sl then -1 else 0 := by
  unfold rowI
  by_cases c : b.2 = true
  · rw [if_pos c, gt_aput, gt_rowA h2]
    by_cases z : k = 1
    · subst z; simp [c]
    · rw [if_neg z, if_neg z]
  · rw [if_neg c, gt_rowA h2]
    by_cases z : k = 1
    · subst z; simp [c]; omega
    · rw [if_neg z]
theorem rowI_nodup : ((rowI b sl).map (·.1)).Nodup := by
  have h1 : ((rowA b sl).map (·.1)).Nodup := by
    unfold rowA
    split
    · simp
    · exact aput_nodup (by simp)
  unfold rowI
  split
  · exact aput_nodup h1
  · exact h1
theorem rowI_keys (k : Int) (h : k ∈ (rowI b sl).map (·.1)) : k = sl ∨ (k = 0 ∧ b.1.2.1 ≠ 0) ∨ (k = 1 ∧ b.2 = true) := by
  have hA : k ∈ (rowA b sl).map (·.1) → k = sl ∨ (k = 0 ∧ b.1.2.1 ≠ 0) := fun h => by
    unfold rowA at h
    split at h
    · left; simpa using h
    · next c =>
      rcases aput_key h with z | z
      · left; simpa using z
      · exact .inr ⟨z, c⟩
  unfold rowI at h
  split at h
  · next c =>
    rcases aput_key h with z | z
    · rcases hA z with y | y
      · exact .inl y
      · exact .inr (.inl y)
    · exact .inr (.inr ⟨z, c⟩)
  · rcases hA h with y | y
    · exact .inl y
    · exact .inr (.inl y)
/-- the numbers of a bound's addresses differ -/
structure InB (bs : List Bd) (b : Bd) : Prop where
  ok : SuOk b.1
  mem : ∀ t ∈ b.1.1, t.1 ∈ adsS bs
theorem InB.nm (h : InB bs b) : (b.1.1.map fun t : Tm => nmS bs t.1).Nodup := by
  have hn := h.ok.nd
  have hm := h.mem
  generalize b.1.1 = l at hn hm
  induction l with
  | nil => exact List.nodup_nil
  | cons t l ih =>
    have hn := List.nodup_cons.mp hn
    rw [List.map_cons, List.nodup_cons]
    refine ⟨fun z => ?_, ih hn.2 fun u hu => hm u (List.mem_cons_of_mem _ hu)⟩
    obtain ⟨u, hu, e⟩ := List.mem_map.mp z
    have := nmS_inj (hm u (List.mem_cons_of_mem _ hu)) (hm t List.mem_cons_self) e
    exact hn.1 (List.mem_map.mpr ⟨u, hu, this⟩)
theorem rowS_eq (b : Bd) (sl : Int) (bs : List Bd) : rowS b sl (numS bs) = b.1.1.foldl (fun acc t => aput acc ((fun t : Tm => nmS bs t.1) t) ((fun t : Tm => facI b t.2) t)) (rowI b sl) := rfl
theorem rowS_in (h : InB bs b) {t : Tm} (ht : t ∈ b.1.1) : gt (rowS b sl (numS bs)) (nmS bs t.1) = facI b t.2 := by
  have := foldK_in (fun t : Tm => nmS bs t.1) (fun t : Tm => facI b t.2) b.1.1 (rowI b sl) t h.nm ht
  unfold gt
  rw [rowS_eq, this]; rfl
theorem rowS_out {k : Int} (hk : k ∉ b.1.1.map fun t : Tm => nmS bs t.1) : gt (rowS b sl (numS bs)) k = gt (rowI b sl) k := by
  have := foldK_out (fun t : Tm => nmS bs t.1) (fun t : Tm => facI b t.2) b.1.1 (rowI b sl) k hk
  unfold gt
  rw [rowS_eq, this]
theorem nm_rg {a : Ad} (h : a ∈ adsS bs) : 2 ≤ nmS bs a ∧ nmS bs a < fstS bs := by
  obtain ⟨i, h1, _, h2, _⟩ := nmS_of h
  have : fstS bs = 1 + 1 + ((adsS bs).length : Int) := rfl
  omega
theorem nm_far (h : InB bs b) {k : Int} (hk : k < 2 ∨ fstS bs ≤ k) : k ∉ b.1.1.map fun t : Tm => nmS bs t.1 := fun z => by
  obtain ⟨t, ht, e⟩ := List.mem_map.mp z
  have := nm_rg (h.mem t ht)
  omega
theorem fst_ge (bs : List Bd) : 2 ≤ fstS bs := by
  have : fstS bs = 1 + 1 + ((adsS bs).length : Int) := rfl
  omega
theorem rowS_0 (h : InB bs b) (hs : fstS bs ≤ sl) : gt (rowS b sl (numS bs)) 0 = facI b b.1.2 := by
  have := fst_ge bs
  rw [rowS_out (nm_far h (.inl (by omega))), gt_rowI (by omega), if_pos rfl]
theorem rowS_1 (h : InB bs b) (hs : fstS bs ≤ sl) : gt (rowS b sl (numS bs)) 1 = if b.2 = true then -1 else 0 := by
  have := fst_ge bs
  rw [rowS_out (nm_far h (.inl (by omega))), gt_rowI (by omega), if_neg (by omega), if_pos rfl]
theorem rowS_sl (h : InB bs b) (hs : fstS bs ≤ sl) {k : Int} (hk : fstS bs ≤ k) : gt (rowS b sl (numS bs)) k = if k = sl then -1 else 0 := by
  have := fst_ge bs
  rw [rowS_out (nm_far h (.inr hk)), gt_rowI (by omega), if_neg (by omega), if_neg (by omega)]
/-- the factor of an address, by the whole scale -/
theorem rowS_cof (h : InB bs b) (hs : fstS bs ≤ sl) {a : Ad} (ha : a ∈ adsS bs) : (gt (rowS b sl (numS bs)) (nmS bs a) : Rat) = -((scaS b.1 : Rat) * cof b.1.1 a) := by
  have hp := scaS_pos h.ok
  cases e : aget b.1.1 a with
  | some v =>
    have ht := aget_mem e
    rw [rowS_in h ht, cof_get e]
    exact fac_q (h.ok.pos _ ht) (hp.2.2 _ ht)
  | none =>
    have g := nm_rg ha
    rw [rowS_out, gt_rowI (by omega), if_neg (by omega), if_neg (by omega), if_neg (by omega), cof_none e]
    · rw [show ((0 : Int) : Rat) = 0 from rfl]; grind
    · intro z
      obtain ⟨t, ht, e2⟩ := List.mem_map.mp z
      have := nmS_inj (h.mem t ht) ha e2
      rw [← this] at e
      have hk := aget_isKey.mpr (List.mem_map.mpr ⟨t, ht, rfl⟩)
      rw [e] at hk
      cases hk
theorem rowS_con (h : InB bs b) (hs : fstS bs ≤ sl) : (gt (rowS b sl (numS bs)) 0 : Rat) = -((scaS b.1 : Rat) * vq b.1.2) := by
  rw [rowS_0 h hs]
  exact fac_q h.ok.cp (scaS_pos h.ok).2.1
theorem rowS_key (k : Int) : k ∈ (rowS b sl (numS bs)).map (·.1) ↔ k ∈ (b.1.1.map fun t : Tm => nmS bs t.1) ∨ k ∈ (rowI b sl).map (·.1) := by
  by_cases c : k ∈ b.1.1.map fun t : Tm => nmS bs t.1
  · simp only [c, true_or, iff_true]
    rw [rowS_eq]
    have : ∀ (l : List Tm) (acc : Row), (k ∈ l.map (fun t : Tm => nmS bs t.1) ∨ k ∈ acc.map (·.1)) → k ∈ (l.foldl (fun acc t => aput acc ((fun t : Tm => nmS bs t.1) t) ((fun t : Tm => facI b t.2) t)) acc).map (·.1) := fun l => by
      induction l with
      | nil => intro acc h; rcases h with h | h; · cases h
               · exact h
      | cons t l ih =>
        intro acc h
        refine ih _ ?_
        rw [aput_keyI]
        rcases h with h | h
        · rcases List.mem_cons.mp h with e | e
          · exact .inr (.inr e)
          · exact .inl e
        · exact .inr (.inl h)
    exact this _ _ (.inl c)
  · rw [← aget_isKey, rowS_eq, foldK_out (fun t : Tm => nmS bs t.1) (fun t : Tm => facI b t.2) _ _ _ c, aget_isKey]
    simp only [c, false_or]
theorem rowS_ok (h : InB bs b) (hs : fstS bs ≤ sl) {M : Int} (hM : sl < M) : RowOk M (rowS b sl (numS bs)) := by
  have f2 := fst_ge bs
  have hp := scaS_pos h.ok
  refine ⟨?_, fun k hk => ?_, fun k hk => ?_⟩
  · rw [rowS_eq]
    exact foldK_nodup (fun t : Tm => nmS bs t.1) (fun t : Tm => facI b t.2) _ _ rowI_nodup
  · by_cases c : k ∈ b.1.1.map fun t : Tm => nmS bs t.1
    · obtain ⟨t, ht, rfl⟩ := List.mem_map.mp c
      rw [rowS_in h ht]
      exact facI_ne h.ok (h.ok.pos t ht) (hp.2.2 t ht) (h.ok.nz t ht)
    · rw [rowS_out c, gt_rowI (by omega)]
      rcases rowI_keys k (((rowS_key k).mp hk).resolve_left c) with z | ⟨z, y⟩ | ⟨z, y⟩
      · subst z
        rw [if_neg (by omega), if_neg (by omega), if_pos rfl]; decide
      · rw [if_pos z]
        exact facI_ne h.ok h.ok.cp hp.2.1 y
      · rw [if_neg (by omega), if_pos z, if_pos y]; decide
  · by_cases c : k ∈ b.1.1.map fun t : Tm => nmS bs t.1
    · obtain ⟨t, ht, rfl⟩ := List.mem_map.mp c
      have := nm_rg (h.mem t ht)
      omega
    · rw [rowS_out c, gt_rowI (by omega)] at hk
      by_cases z0 : k = 0
      · omega
      by_cases z1 : k = 1
      · omega
      by_cases z2 : k = sl
      · omega
      · rw [if_neg z0, if_neg z1, if_neg z2] at hk
        exact absurd rfl hk
end
/-! ### the system -/
def rwS (bs : List Bd) (i : Nat) : Row := match bs[i]? with
  | some b => rowS b (fstS bs + (i : Int)) (numS bs)
  | none => []
/-- good bounds: their sums -/
def OkB (bs : List Bd) : Prop := ∀ b ∈ bs, SuOk b.1
section
variable {bs : List Bd}
theorem OkB.inB (h : OkB bs) {b : Bd} (hb : b ∈ bs) : InB bs b := ⟨h b hb, fun t ht => (adsS_mem bs _).mpr ⟨b, hb, t, ht, rfl⟩⟩
theorem rwS_at {i : Nat} {b : Bd} (h : bs[i]? = some b) : rwS bs i = rowS b (fstS bs + (i : Int)) (numS bs) := by unfold rwS; rw [h]
theorem rwS_no {i : Nat} (h : bs[i]? = none) : rwS bs i = [] := by unfold rwS; rw [h]
theorem OkB.at (h : OkB bs) {i : Nat} (hi : i < bs.length) : ∃ b, bs[i]? = some b ∧ b ∈ bs ∧ InB bs b ∧ rwS bs i = rowS b (fstS bs + (i : Int)) (numS bs) := by
  have e := List.getElem?_eq_getElem hi
  exact ⟨_, e, List.mem_of_getElem? e, h.inB (List.mem_of_getElem? e), rwS_at e⟩
def sysOf (bs : List Bd) (h : OkB bs) : Sys where
  n := (adsS bs).length
  m := bs.length
  a := fun i => gt (rwS bs i)
  sup := fun i k hk => by
    have : fstS bs = 1 + 1 + ((adsS bs).length : Int) := rfl
    by_cases c : i < bs.length
    · obtain ⟨b, _, _, h3, h4⟩ := h.at c
      rw [h4] at hk
      exact (rowS_ok h3 (by omega) (M := 2 + (adsS bs).length + bs.length) (by omega)).rg k hk
    · rw [rwS_no (List.getElem?_eq_none (by omega))] at hk
      exact absurd rfl hk
  own := fun i hi => by
    have e : fstS bs = 1 + 1 + ((adsS bs).length : Int) := rfl
    obtain ⟨b, _, _, h3, h4⟩ := h.at hi
    rw [h4, rowS_sl h3 (by omega) (by omega), if_pos (by omega)]
  oth := fun i j hi hj hne => by
    have e : fstS bs = 1 + 1 + ((adsS bs).length : Int) := rfl
    obtain ⟨b, _, _, h3, h4⟩ := h.at hi
    rw [h4, rowS_sl h3 (by omega) (by omega), if_neg (by omega)]
theorem sys_first (h : OkB bs) : (sysOf bs h).first = fstS bs := rfl
theorem tab0_get {i : Nat} {b : Bd} (hb : bs[i]? = some b) : aget (tab0 bs) (fstS bs + (i : Int)) = some (rowS b (fstS bs + (i : Int)) (numS bs)) :=
  foldK_in (fun p : Nat × Bd => fstS bs + ((p.1 : Nat) : Int)) (fun p : Nat × Bd => rowS p.2 (fstS bs + ((p.1 : Nat) : Int)) (numS bs)) _ [] (i, b) (idx_nodup bs _) (idx_in hb)
theorem tab0_keys (s : Int) : s ∈ (tab0 bs).map (·.1) ↔ ∃ i : Nat, i < bs.length ∧ s = fstS bs + (i : Int) := by
  have e := foldK_keys (fun p : Nat × Bd => fstS bs + ((p.1 : Nat) : Int)) (fun p : Nat × Bd => rowS p.2 (fstS bs + ((p.1 : Nat) : Int)) (numS bs)) (bs.mapIdx fun i b => (i, b)) [] (idx_nodup bs _) s
  refine e.trans ?_
  constructor
  · rintro (h | h)
    · obtain ⟨p, hp, rfl⟩ := List.mem_map.mp h
      have := idx_mem hp
      exact ⟨p.1, (List.getElem?_eq_some_iff.mp this).1, rfl⟩
    · cases h
  · rintro ⟨i, hi, rfl⟩
    exact .inl (List.mem_map.mpr ⟨(i, bs[i]), idx_in (List.getElem?_eq_getElem hi), rfl⟩)
theorem tab0_gr {i : Nat} (hi : i < bs.length) : gr (tab0 bs) (fstS bs + (i : Int)) = rwS bs i := by
  have e := List.getElem?_eq_getElem hi
  rw [gr_of (tab0_get e), rwS_at e]
theorem tab0_nodup : ((tab0 bs).map (·.1)).Nodup := foldK_nodup (fun p : Nat × Bd => fstS bs + ((p.1 : Nat) : Int)) (fun p : Nat × Bd => rowS p.2 (fstS bs + ((p.1 : Nat) : Int)) (numS bs)) _ [] (by simp)
theorem tab0_ok (h : OkB bs) : TabOk (sysOf bs h) (tab0 bs) where
  nd := tab0_nodup
  kr := fun s hs => by
    obtain ⟨i, hi, rfl⟩ := (tab0_keys s).mp hs
    have e : fstS bs = 1 + 1 + ((adsS bs).length : Int) := rfl
    have e2 : (sysOf bs h).M = 2 + (adsS bs).length + bs.length := rfl
    omega
  card := by
    have h1 := nodup_len (l := (tab0 bs).map (·.1)) (m := (List.range bs.length).map fun i : Nat => fstS bs + (i : Int)) tab0_nodup fun x hx => by
      obtain ⟨i, hi, rfl⟩ := (tab0_keys x).mp hx
      exact List.mem_map.mpr ⟨i, List.mem_range.mpr hi, rfl⟩
    have h2 := nodup_len (l := (List.range bs.length).map fun i : Nat => fstS bs + (i : Int)) (m := (tab0 bs).map (·.1)) (by
      rw [List.Nodup, List.pairwise_map]
      exact (List.nodup_range (n := bs.length)).imp fun {a b} n e => n (by omega)) fun x hx => by
      obtain ⟨i, hi, rfl⟩ := List.mem_map.mp hx
      exact (tab0_keys _).mpr ⟨i, List.mem_range.mp hi, rfl⟩
    rw [List.length_map, List.length_map, List.length_range] at h1 h2
    show (tab0 bs).length = bs.length
    omega
  rok := fun s hs => by
    obtain ⟨i, hi, rfl⟩ := (tab0_keys s).mp hs
    obtain ⟨b, _, _, h3, h4⟩ := h.at hi
    rw [tab0_gr hi, h4]
    have e : fstS bs = 1 + 1 + ((adsS bs).length : Int) := rfl
    have e2 : (sysOf bs h).M = 2 + (adsS bs).length + bs.length := rfl
    exact rowS_ok h3 (by omega) (by omega)
  own := fun s hs => by
    obtain ⟨i, hi, rfl⟩ := (tab0_keys s).mp hs
    obtain ⟨b, _, _, h3, h4⟩ := h.at hi
    rw [tab0_gr hi, h4, rowS_sl h3 (by omega) (by omega), if_pos rfl]
    decide
  oth := fun s s' hs hs' hne => by
    obtain ⟨i, hi, rfl⟩ := (tab0_keys s).mp hs
    obtain ⟨j, hj, rfl⟩ := (tab0_keys s').mp hs'
    obtain ⟨b, _, _, h3, h4⟩ := h.at hi
    rw [tab0_gr hi, h4, rowS_sl h3 (by omega) (by omega), if_neg fun z => hne z.symm]
  pri := fun s hs d hd => by
    obtain ⟨i, hi, rfl⟩ := (tab0_keys s).mp hs
    obtain ⟨b, _, _, h3, h4⟩ := h.at hi
    have := hd (fstS bs + (i : Int))
    rw [tab0_gr hi, h4, rowS_sl h3 (by omega) (by omega), if_pos rfl] at this
    exact (Int.dvd_neg.mp this)
  sol := fun x => by
    constructor
    · intro hx i hi
      have := hx _ ((tab0_keys _).mpr ⟨i, hi, rfl⟩)
      rw [tab0_gr hi] at this
      exact this
    · intro hx s hs
      obtain ⟨i, hi, rfl⟩ := (tab0_keys s).mp hs
      rw [tab0_gr hi]
      exact hx i hi
end
end Tf
/-! text TgO -/
/-! plain: the last table refutes, or gives a point -/
namespace Tf
theorem lsm_cast (g : Nat → Int) : ∀ l : List Nat, ((lsm l g : Int) : Rat) = rsum l fun i => (g i : Rat)
  | [] => rfl
  | i :: l => by rw [lsm, rsum, Rat.intCast_add, lsm_cast g l]
theorem rat0 : ((0 : Int) : Rat) = 0 := rfl
theorem rat1 : ((1 : Int) : Rat) = 1 := rfl
theorem ratn1 : ((-1 : Int) : Rat) = -1 := rfl
section
variable {S : Sys} {T : Tab}
/-- a row is a sum of the first rows, by its factors at the slacks -/
theorem span_row (h : TabOk S T) {s : Int} (hs : s ∈ T.map (·.1)) (k : Int) : gt (gr T s) k + lsm (List.range S.m) (fun i => gt (gr T s) (2 + S.n + i) * S.a i k) = 0 := by
  have hrg := (h.rok s hs).rg
  -- the slacks
  have sl : ∀ j : Nat, j < S.m → lsm (List.range S.m) (fun i => gt (gr T s) (2 + S.n + i) * S.a i (2 + S.n + j)) = -(gt (gr T s) (2 + S.n + j)) := fun j hj => by
    rw [lsm_erase (List.mem_range.mpr hj), S.own j hj, lsm_zero fun i hi => by
      obtain ⟨n1, n2⟩ := ((List.nodup_range (n := S.m)).mem_erase_iff).mp hi
      rw [S.oth i j (List.mem_range.mp n2) hj n1, Int.mul_zero]]
    omega
  by_cases g : 0 ≤ k ∧ k < S.M
  · by_cases c : k < 2 + S.n
    · -- one that is no slack: 1 there
      let V : Int → Int := fun k => gt (gr T s) k + lsm (List.range S.m) (fun i => gt (gr T s) (2 + S.n + i) * S.a i k)
      let x : Int → Rat := fun j => if j = k then 1 else if 2 + S.n ≤ j then (S.a (j - (2 + S.n)).toNat k : Rat) else 0
      have x1 : x k = 1 := if_pos rfl
      have x2 : ∀ i : Nat, x (2 + S.n + i) = (S.a i k : Rat) := fun i => by
        show (if (2 + S.n + i : Int) = k then (1 : Rat) else if (2 + S.n : Int) ≤ 2 + S.n + i then (S.a ((2 + S.n + i : Int) - (2 + S.n)).toNat k : Rat) else 0) = _
        rw [if_neg (by omega), if_pos (by omega), show ((2 + S.n + i : Int) - (2 + S.n)).toNat = i by omega]
      have x3 : ∀ j, j ≠ k → j < 2 + S.n → x j = 0 := fun j h1 h2 => by
        show (if j = k then (1 : Rat) else if (2 + S.n : Int) ≤ j then _ else 0) = 0
        rw [if_neg h1, if_neg (by omega)]
      have hx : ∀ i, i < S.m → dot S.M (S.a i) x = 0 := fun i hi => by
        unfold dot
        have hM : (2 + S.n + i : Int) < S.M := by show (2 + S.n + i : Int) < ((2 + S.n + S.m : Nat) : Int); omega
        rw [sumTo_out _ k g.1 g.2, sumTo_one (j := 2 + S.n + i) (by omega) hM]
        · rw [if_neg (by omega), x1, x2, S.own i hi, ratn1]; grind
        · intro j j0 jM jne
          by_cases e : j = k
          · rw [if_pos e]
          · rw [if_neg e]
            by_cases f : j < 2 + S.n
            · rw [x3 j e f]; grind
            · have jM : j < ((2 + S.n + S.m : Nat) : Int) := jM
              have e2 : j = 2 + S.n + ((j - (2 + S.n)).toNat : Nat) := by omega
              rw [e2, S.oth i _ hi (by omega) (by omega), rat0]; grind
      have d1 := (h.sol x).mpr hx s hs
      have d2 : dot S.M (fun k => lsm (List.range S.m) (fun i => gt (gr T s) (2 + S.n + i) * S.a i k)) x = 0 := dot_lsm S.M _ S.a x _ fun i hi => hx i (List.mem_range.mp hi)
      have d3 := dot_lin S.M (r := V) (a := gt (gr T s)) (b := fun k => lsm (List.range S.m) (fun i => gt (gr T s) (2 + S.n + i) * S.a i k)) (g := 1) (u := 1) (v := 1) (fun k => by
        show 1 * (gt (gr T s) k + _) = _
        omega) x
      rw [d1, d2, rat1] at d3
      have d4 : dot S.M V x = (V k : Rat) := by
        unfold dot
        rw [sumTo_one g.1 g.2, x1]
        · grind
        · intro j j0 jM jne
          by_cases f : j < 2 + S.n
          · rw [x3 j jne f]; grind
          · have jM : j < ((2 + S.n + S.m : Nat) : Int) := jM
            have e2 : j = 2 + S.n + ((j - (2 + S.n)).toNat : Nat) := by omega
            have : V j = 0 := by
              show gt (gr T s) j + lsm _ _ = 0
              rw [e2, sl _ (by omega)]; omega
            rw [this, rat0]; grind
      have d5 : (V k : Rat) = ((0 : Int) : Rat) := by rw [rat0]; grind
      exact Rat.intCast_inj.mp d5
    · have g2 : k < ((2 + S.n + S.m : Nat) : Int) := g.2
      have e2 : k = 2 + S.n + ((k - (2 + S.n)).toNat : Nat) := by omega
      rw [e2, sl _ (by omega)]; omega
  · have z2 : gt (gr T s) k = 0 := Classical.byContradiction fun z => g (hrg k z)
    rw [z2, lsm_zero fun i _ => ?_]
    · rfl
    · have : S.a i k = 0 := Classical.byContradiction fun y => g (by have := S.sup i k y; exact ⟨this.1, by show k < ((2 + S.n + S.m : Nat) : Int); omega⟩)
      rw [this, Int.mul_zero]
end
/-! ### refuted -/
theorem amt1 (n : Int) : amt n 1 = (n, 1) := by unfold amt; simp
section
variable {bs : List Bd} {T : Tab}
/-- sums over the bounds with their weights -/
theorem zip_wgt (row : Row) (bs : List Bd) (first : Int) : bs.zip (wgtS row bs first) = (bs.mapIdx fun i b => (i, b)).map fun p => (p.2, amt (-(gt row (first + (p.1 : Nat))) * scaS p.2.1) 1) := by
  apply List.ext_getElem?
  intro i
  unfold wgtS
  show (List.zipWith Prod.mk bs _)[i]? = _
  rw [List.getElem?_zipWith, List.getElem?_map, List.getElem?_mapIdx, List.getElem?_mapIdx]
  cases bs[i]? <;> rfl
theorem sumP (bs : List Bd) (g : Nat → Int) : rsum (bs.mapIdx fun i b => (i, b)) (fun p => (g p.1 : Rat)) = ((lsm (List.range bs.length) g : Int) : Rat) := by
  rw [lsm_cast, ← idx_fst bs, rsum_map]
theorem fst_eq (bs : List Bd) (i : Nat) : fstS bs + (i : Int) = 2 + (adsS bs).length + i := by
  have : fstS bs = 1 + 1 + ((adsS bs).length : Int) := rfl
  omega
theorem idx_at (hb : OkB bs) {p : Nat × Bd} (hp : p ∈ bs.mapIdx fun i b => (i, b)) : p.1 < bs.length ∧ p.2 ∈ bs ∧ InB bs p.2 ∧ rwS bs p.1 = rowS p.2 (fstS bs + (p.1 : Int)) (numS bs) := by
  have e := idx_mem hp
  exact ⟨(List.getElem?_eq_some_iff.mp e).1, List.mem_of_getElem? e, hb.inB (List.mem_of_getElem? e), rwS_at e⟩
theorem wgt_q (row : Row) (b : Bd) (k : Int) : vq (amt (-(gt row k) * scaS b.1) 1) = -((gt row k : Rat) * (scaS b.1 : Rat)) := by
  rw [amt1, vq_int, Rat.intCast_mul, Rat.intCast_neg]; grind
/-- no way on: the weights refute -/
theorem refuted (hb : OkB bs) (h : TabOk (sysOf bs hb) T) {s : Int} (hs : mendS T (fstS bs) = some s) (hc : chgS (gr T s) (fstS bs) = none) : RefP (bs.zip (wgtS (gr T s) bs (fstS bs))) (fun _ => 0) 0 false := by
  obtain ⟨s1, s2, _⟩ := find_min hs
  obtain ⟨s3, s4⟩ := mendP_iff.mp s2
  have hro := h.rok s s1
  have no : ∀ x, 1 < x → gt (gr T s) x ≠ 0 → fstS bs ≤ x ∧ gt (gr T s) x ≤ 0 := fun x h1 h2 => by
    have h3 := find_no hc x ((hro.mem x).mpr h2)
    have h4 : ¬ (1 < x ∧ (x < fstS bs ∨ 0 < gt (gr T s) x)) := fun z => by rw [chgP_iff.mpr z] at h3; cases h3
    constructor
    · refine Classical.byContradiction fun z => h4 ⟨h1, .inl (by omega)⟩
    · refine Classical.byContradiction fun z => h4 ⟨h1, .inr (by omega)⟩
  have f2 := fst_ge bs
  have span : ∀ k, gt (gr T s) k + lsm (List.range bs.length) (fun i => gt (gr T s) (fstS bs + i) * gt (rwS bs i) k) = 0 := fun k => by
    have := span_row h s1 k
    rw [← this]
    congr 1
  have span2 : ∀ k, rsum (bs.mapIdx fun i b => (i, b)) (fun p => ((gt (gr T s) (fstS bs + p.1) * gt (rwS bs p.1) k : Int) : Rat)) = -(gt (gr T s) k : Rat) := fun k => by
    have e := sumP bs (fun i => gt (gr T s) (fstS bs + i) * gt (rwS bs i) k)
    rw [e]
    have := congrArg (fun z : Int => (z : Rat)) (span k)
    rw [Rat.intCast_add, rat0] at this
    grind
  have np : ∀ i : Nat, gt (gr T s) (fstS bs + i) ≤ 0 := fun i => by
    by_cases z : gt (gr T s) (fstS bs + i) = 0
    · omega
    · exact (no _ (by omega) z).2
  rw [zip_wgt]
  refine ⟨fun p hp => ?_, fun a => ?_, ?_⟩
  · obtain ⟨q, hq, rfl⟩ := List.mem_map.mp hp
    obtain ⟨q1, q2, q3, q4⟩ := idx_at hb hq
    show 0 ≤ (amt _ 1).1
    rw [amt1]
    have h1 := np q.1
    have h2 := (scaS_pos q3.ok).1
    exact Int.mul_nonneg (by omega) (by omega)
  · rw [rsum_map]
    by_cases ha : a ∈ adsS bs
    · have e1 : rsum (bs.mapIdx fun i b => (i, b)) (fun p => vq (amt (-(gt (gr T s) (fstS bs + (p.1 : Nat))) * scaS p.2.1) 1) * cof p.2.1.1 a) = rsum (bs.mapIdx fun i b => (i, b)) (fun p => ((gt (gr T s) (fstS bs + p.1) * gt (rwS bs p.1) (nmS bs a) : Int) : Rat)) := rsum_congr fun p hp => by
        obtain ⟨q1, q2, q3, q4⟩ := idx_at hb hp
        rw [wgt_q, Rat.intCast_mul, q4, rowS_cof q3 (by omega) ha]
        grind
      have rg := nm_rg ha
      have z : gt (gr T s) (nmS bs a) = 0 := Classical.byContradiction fun z => by
        have := (no _ (by omega) z).1
        omega
      rw [e1, span2, z, rat0]; grind
    · rw [rsum_zero fun p hp => ?_]
      · grind
      · obtain ⟨q1, q2, q3, q4⟩ := idx_at hb hp
        have : aget p.2.1.1 a = none := aget_none fun hm => ha (by
          obtain ⟨t, ht, e⟩ := List.mem_map.mp hm
          rw [← e]; exact q3.mem t ht)
        rw [cof_none this]; grind
  · rw [rsum_map]
    have e1 : rsum (bs.mapIdx fun i b => (i, b)) (fun p => vq (amt (-(gt (gr T s) (fstS bs + (p.1 : Nat))) * scaS p.2.1) 1) * vq p.2.1.2) = -(gt (gr T s) 0 : Rat) := by
      rw [← span2 0]
      refine rsum_congr fun p hp => ?_
      obtain ⟨q1, q2, q3, q4⟩ := idx_at hb hp
      rw [wgt_q, Rat.intCast_mul, q4, rowS_con q3 (by omega)]
      grind
    rw [e1]
    rcases s4 with z | ⟨z1, z2⟩
    · left
      have := cast_lt0.mpr z
      grind
    · right
      refine ⟨by rw [z1, rat0]; grind, .inr ?_⟩
      refine Classical.byContradiction fun none_ => ?_
      have e2 := span2 1
      have l := rsum_le (l := bs.mapIdx fun i b => (i, b)) (f := fun p => ((gt (gr T s) (fstS bs + p.1) * gt (rwS bs p.1) 1 : Int) : Rat)) fun p hp => by
        obtain ⟨q1, q2, q3, q4⟩ := idx_at hb hp
        refine cast_le0.mpr ?_
        rw [q4, rowS_1 q3 (by omega)]
        by_cases st : p.2.2 = true
        · rw [if_pos st]
          by_cases w0 : gt (gr T s) (fstS bs + p.1) = 0
          · rw [w0]; omega
          · refine absurd ⟨_, List.mem_map.mpr ⟨p, hp, rfl⟩, st, ?_⟩ none_
            show 0 < (amt _ 1).1
            rw [amt1]
            have h1 := np p.1
            exact Int.mul_pos (by omega) (scaS_pos q3.ok).1
        · rw [if_neg st]; omega
      rw [e2] at l
      have := cast_lt0.mpr z2
      grind
end
end Tf
/-! text TgP -/
/-! plain: the last table's point keeps the bounds -/
namespace Tf
/-! ### the tiny amount -/
theorem cmpA_neg {a b : Am} (ha : 0 < a.2) (hb : 0 < b.2) : cmpA a b < 0 ↔ vq a < vq b := by
  have e : vq a < vq b ↔ a.1 * b.2 < b.1 * a.2 := by
    unfold vq
    have p1 := cast_pos ha
    have p2 := cast_pos hb
    rw [← Rat.intCast_lt_intCast, Rat.intCast_mul, Rat.intCast_mul, Rat.div_lt_iff p1]
    rw [show (b.1 : Rat) / b.2 * a.2 = (b.1 * a.2 : Rat) / b.2 by grind, Rat.lt_div_iff p2]
  rw [e]
  unfold cmpA
  split
  · next c => simp [c]
  · next c =>
    split
    · simp [c]
    · simp [c]
theorem rdiv_pos {a b : Rat} (ha : 0 < a) (hb : 0 < b) : 0 < a / b := by
  have n1 : ¬ a / b < 0 := fun z => by have := (rdiv_neg hb).mp z; grind
  have n2 : ¬ a / b = 0 := fun z => by have := (rdiv_zero hb).mp z; grind
  grind
section
variable {T : Tab} {first : Int} {R : Nat}
/-- what is asked of the rows for the tiny amount -/
structure TinOk (T : Tab) (first : Int) (R : Nat) : Prop where
  pos : ∀ q, q ∈ T.map (·.1) → first ≤ q → gt (gr T q) 1 < 0 → 0 < gt (gr T q) 0
  sz : ∀ q, q ∈ T.map (·.1) → ∀ k, Lt2 (gt (gr T q) k) R
theorem tin_fold (h : TinOk T first R) : ∀ (l : List Int) (f : Am), (∀ q ∈ l, q ∈ T.map (·.1)) → 0 < f.2 → 0 < vq f → Pn (R + 1) f →
    0 < (l.foldl (tinF T first) f).2 ∧ 0 < vq (l.foldl (tinF T first) f) ∧ Pn (R + 1) (l.foldl (tinF T first) f) ∧ vq (l.foldl (tinF T first) f) ≤ vq f ∧
      ∀ q ∈ l, first ≤ q → gt (gr T q) 1 < 0 → 0 ≤ (gt (gr T q) 0 : Rat) + (gt (gr T q) 1 : Rat) * vq (l.foldl (tinF T first) f)
  | [], f, _, h1, h2, h3 => ⟨h1, h2, h3, by show vq f ≤ vq f; grind, fun q hq => nomatch hq⟩
  | q :: l, f, hm, h1, h2, h3 => by
    have hq := hm q List.mem_cons_self
    have step : 0 < (tinF T first f q).2 ∧ 0 < vq (tinF T first f q) ∧ Pn (R + 1) (tinF T first f q) ∧ vq (tinF T first f q) ≤ vq f ∧ (first ≤ q → gt (gr T q) 1 < 0 → 0 ≤ (gt (gr T q) 0 : Rat) + (gt (gr T q) 1 : Rat) * vq (tinF T first f q)) := by
      unfold tinF
      by_cases c : first ≤ q ∧ gt (gr T q) 1 < 0
      · rw [if_pos c]
        have p0 := h.pos q hq c.1 c.2
        have d0 : 0 < -(gt (gr T q) 1) := by omega
        have am0 := amt_pos (t := gt (gr T q) 0) d0
        have v0 := vq_amt (t := gt (gr T q) 0) d0
        have c0 := cast_pos p0
        have c1 := cast_pos d0
        rw [Rat.intCast_neg] at c1 v0
        have pv : 0 < vq (amt (gt (gr T q) 0) (-(gt (gr T q) 1))) := by
          rw [v0]
          exact rdiv_pos c0 c1
        by_cases d : cmpA (amt (gt (gr T q) 0) (-(gt (gr T q) 1))) f < 0
        · rw [if_pos d]
          have := (cmpA_neg am0 h1).mp d
          refine ⟨am0, pv, pn_amt d0 ((h.sz q hq 0).mono (by omega)) ((h.sz q hq 1).neg.mono (by omega)), by grind, fun _ _ => ?_⟩
          rw [v0]
          have ne : (gt (gr T q) 1 : Rat) ≠ 0 := by grind
          have e : (gt (gr T q) 1 : Rat) * ((gt (gr T q) 0 : Rat) / -(gt (gr T q) 1 : Rat)) = -(gt (gr T q) 0 : Rat) := by grind
          rw [e]; grind
        · rw [if_neg d]
          refine ⟨h1, h2, h3, by grind, fun _ _ => ?_⟩
          have : ¬ vq (amt (gt (gr T q) 0) (-(gt (gr T q) 1))) < vq f := fun z => d ((cmpA_neg am0 h1).mpr z)
          rw [v0] at this
          have le : vq f ≤ (gt (gr T q) 0 : Rat) / -(gt (gr T q) 1 : Rat) := by grind
          have ne : (gt (gr T q) 1 : Rat) ≠ 0 := by grind
          have e : (gt (gr T q) 0 : Rat) / -(gt (gr T q) 1 : Rat) * -(gt (gr T q) 1 : Rat) = (gt (gr T q) 0 : Rat) := by grind
          have := Rat.mul_nonneg (a := (gt (gr T q) 0 : Rat) / -(gt (gr T q) 1 : Rat) - vq f) (b := -(gt (gr T q) 1 : Rat)) (by grind) (by grind)
          grind
      · rw [if_neg c]
        exact ⟨h1, h2, h3, by grind, fun a b => absurd ⟨a, b⟩ c⟩
    obtain ⟨g1, g2, g3, g4, g5⟩ := step
    obtain ⟨i1, i2, i3, i4, i5⟩ := tin_fold h l _ (fun q hq => hm q (List.mem_cons_of_mem _ hq)) g1 g2 g3
    refine ⟨i1, i2, i3, by rw [List.foldl_cons]; grind, fun x hx a b => ?_⟩
    rw [List.foldl_cons]
    rcases List.mem_cons.mp hx with e | e
    · subst e
      have := g5 a b
      have cb := cast_lt0.mpr b
      have le : (gt (gr T x) 1 : Rat) * vq (tinF T first f x) ≤ (gt (gr T x) 1 : Rat) * vq (l.foldl (tinF T first) (tinF T first f x)) := by
        have := rmul_nonpos (a := vq (tinF T first f x) - vq (l.foldl (tinF T first) (tinF T first f x))) (b := (gt (gr T x) 1 : Rat)) (by grind) (by grind)
        grind
      grind
    · exact i5 x e a b
theorem tin_all (h : TinOk T first R) : 0 < (tinS T first).2 ∧ 0 < vq (tinS T first) ∧ Pn (R + 1) (tinS T first) ∧ ∀ q, q ∈ T.map (·.1) → first ≤ q → gt (gr T q) 1 < 0 → 0 ≤ (gt (gr T q) 0 : Rat) + (gt (gr T q) 1 : Rat) * vq (tinS T first) := by
  obtain ⟨h1, h2, h3, _, h5⟩ := tin_fold h (T.map (·.1)) (1, 1) (fun q hq => hq) (by decide) ((vq_gt (a := (1, 1)) (by decide)).mpr (by decide)) (pn_one.mono (by omega))
  exact ⟨h1, h2, h3, h5⟩
end
/-! ### the values -/
theorem sumTo_add' (f : Int → Rat) (a : Nat) : ∀ b : Nat, sumTo (a + b) f = sumTo a f + rsum (List.range b) fun i : Nat => f ((a : Int) + (i : Int))
  | 0 => by show sumTo a f = sumTo a f + 0; grind
  | b + 1 => by
    rw [← Nat.add_assoc, sumTo, sumTo_add' f a b, List.range_succ, rsum_app]
    show _ + f ((a + b : Nat) : Int) = _ + (_ + (f ((a : Int) + (b : Int)) + 0))
    rw [Int.natCast_add]
    grind
theorem list_range {α : Type} (L : List α) (d : α) : L = (List.range L.length).map fun j => L[j]?.getD d := by
  apply List.ext_getElem?
  intro i
  rw [List.getElem?_map]
  by_cases c : i < L.length
  · rw [List.getElem?_range c, List.getElem?_eq_getElem c]; simp [List.getElem?_eq_getElem c]
  · rw [List.getElem?_eq_none (by omega), List.getElem?_eq_none (by rw [List.length_range]; omega)]; rfl
section
variable {bs : List Bd} {T : Tab}
/-- a first row at a solution -/
theorem row_at (hb : OkB bs) {i : Nat} {b : Bd} (hi : bs[i]? = some b) (x : Int → Rat) (hx : dot (sysOf bs hb).M (gt (rwS bs i)) x = 0) :
    -((scaS b.1 : Rat) * vq b.1.2) * x 0 + (if b.2 = true then -1 else 0) * x 1 - (scaS b.1 : Rat) * rsum b.1.1 (fun t => vq t.2 * x (nmS bs t.1)) - x (fstS bs + i) = 0 := by
  have hl := (List.getElem?_eq_some_iff.mp hi).1
  have hib := hb.inB (List.mem_of_getElem? hi)
  have hf : fstS bs = 1 + 1 + ((adsS bs).length : Int) := rfl
  rw [rwS_at hi] at hx
  unfold dot at hx
  have eM : (sysOf bs hb).M = 2 + (adsS bs).length + bs.length := rfl
  rw [eM, sumTo_add', sumTo_add'] at hx
  have e2 : sumTo 2 (fun k => (gt (rowS b (fstS bs + i) (numS bs)) k : Rat) * x k) = -((scaS b.1 : Rat) * vq b.1.2) * x 0 + (if b.2 = true then -1 else 0) * x 1 := by
    show 0 + (gt (rowS b (fstS bs + i) (numS bs)) 0 : Rat) * x 0 + (gt (rowS b (fstS bs + i) (numS bs)) 1 : Rat) * x 1 = _
    rw [rowS_con hib (by omega), rowS_1 hib (by omega)]
    split <;> simp only [ratn1, rat0] <;> grind
  have e3 : rsum (List.range (adsS bs).length) (fun j : Nat => (gt (rowS b (fstS bs + i) (numS bs)) (((2 : Nat) : Int) + j) : Rat) * x (((2 : Nat) : Int) + j)) = -((scaS b.1 : Rat) * rsum b.1.1 (fun t => vq t.2 * x (nmS bs t.1))) := by
    rw [rsum_cof (fun a => x (nmS bs a)) (adsS_nodup bs) hib.ok.nd hib.mem]
    have e4 : rsum (List.range (adsS bs).length) (fun j : Nat => (gt (rowS b (fstS bs + i) (numS bs)) (((2 : Nat) : Int) + j) : Rat) * x (((2 : Nat) : Int) + j)) = rsum (adsS bs) (fun a => (gt (rowS b (fstS bs + i) (numS bs)) (nmS bs a) : Rat) * x (nmS bs a)) := by
      conv => rhs; rw [list_range (adsS bs) []]
      rw [rsum_map]
      refine rsum_congr fun j hj => ?_
      have hj := List.mem_range.mp hj
      have := nmS_at (bs := bs) (i := j) (a := (adsS bs)[j]?.getD []) (by rw [List.getElem?_eq_getElem hj]; rfl)
      rw [this]
      rfl
    rw [e4]
    have e5 : -((scaS b.1 : Rat) * rsum (adsS bs) (fun a => cof b.1.1 a * x (nmS bs a))) = rsum (adsS bs) (fun a => (-(scaS b.1 : Rat)) * (cof b.1.1 a * x (nmS bs a))) := by
      rw [rsum_mul]; grind
    rw [e5]
    refine rsum_congr fun a ha => ?_
    rw [rowS_cof hib (by omega) ha]; grind
  have e6 : rsum (List.range bs.length) (fun j : Nat => (gt (rowS b (fstS bs + i) (numS bs)) (((2 + (adsS bs).length : Nat) : Int) + j) : Rat) * x (((2 + (adsS bs).length : Nat) : Int) + j)) = -x (fstS bs + i) := by
    rw [rsum_one (z := i) (List.nodup_range (n := bs.length)) (List.mem_range.mpr hl)]
    · rw [show (((2 + (adsS bs).length : Nat) : Int) + i) = fstS bs + i by omega, rowS_sl hib (by omega) (by omega), if_pos rfl, ratn1]; grind
    · intro j hj hne
      rw [rowS_sl hib (by omega) (by omega), if_neg (by omega), rat0]; grind
  rw [e2, e3, e6] at hx
  grind
/-- the value of an address -/
theorem ptv_q (hb : OkB bs) (h : TabOk (sysOf bs hb) T) {tiny : Am} (ht : 0 < tiny.2) {q : Int} (hq : 2 ≤ q) : 0 < (ptvS T tiny q).2 ∧ vq (ptvS T tiny q) = bas (sysOf bs hb).M T 1 (vq tiny) q ∧ amt (ptvS T tiny q).1 (ptvS T tiny q).2 = ptvS T tiny q := by
  unfold ptvS
  cases e : aget T q with
  | none =>
    have hn : q ∉ T.map (·.1) := fun z => by
      have := aget_isKey.mpr z
      rw [e] at this; cases this
    rw [bas_out h _ _ hn hq]
    exact ⟨Int.one_pos, vq01, by show amt 0 1 = (0, 1); rw [amt1]⟩
  | some r =>
    have hk : q ∈ T.map (·.1) := aget_isKey.mp (by rw [e]; rfl)
    have er := gr_of e
    have ow := h.own q hk
    rw [bas_key h _ _ hk]
    rw [er] at ow ⊢
    have p0 : (0 : Int) < 1 := by decide
    have d0 : 0 < (amt (-(gt r q)) 1).1 := by rw [amt1]; show 0 < -(gt r q); omega
    have a1 := amt_pos (t := gt r 1) p0
    have a0 := amt_pos (t := gt r 0) p0
    have tp := tms_pos a1 ht
    have pp := pls_pos a0 tp
    refine ⟨ovr_pos pp d0, ?_, amt_idem (mul_pos' pp d0)⟩
    rw [vq_ovr pp (amt_pos p0) d0, vq_pls a0 tp, vq_tms a1 ht, amt1, amt1, amt1, vq_int, vq_int, vq_int, Rat.intCast_neg]
    grind
end
end Tf
/-! text TgQ -/
/-! plain: the last table's point; sizes -/
namespace Tf
/-! ### the point as a dict -/
theorem pnt_get (T : Tab) (tiny : Am) (num : Num) : ∀ (l : List Ad) (acc : Pnt) (x : Ad), aget (l.foldl (pntF T tiny num) acc) x = if x ∈ l then some (ptvS T tiny ((aget num x).getD 0)) else aget acc x
  | [], acc, x => by simp
  | a :: l, acc, x => by
    rw [List.foldl_cons, pnt_get T tiny num l]
    by_cases c : x ∈ l
    · rw [if_pos c, if_pos (List.mem_cons_of_mem _ c)]
    · rw [if_neg c]
      unfold pntF
      rw [aget_aput, aget_aput]
      by_cases e : x = a
      · subst e; rw [if_pos rfl, if_pos List.mem_cons_self]
      · rw [if_neg e, if_neg e, if_neg fun z => (List.mem_cons.mp z).elim e c]
theorem pnt_nodup (T : Tab) (tiny : Am) (num : Num) (l : List Ad) (acc : Pnt) (h : (acc.map (·.1)).Nodup) : ((l.foldl (pntF T tiny num) acc).map (·.1)).Nodup :=
  fold_nodup _ (fun acc x h => aput_nodup (aput_nodup h)) l acc h
section
variable {bs : List Bd} {T : Tab}
theorem pntS_get (x : Ad) : aget (pntS T (numS bs) (fstS bs)) x = if x ∈ adsS bs then some (ptvS T (tinS T (fstS bs)) (nmS bs x)) else none := by
  unfold pntS
  rw [pnt_get, aget_nil]
  by_cases c : x ∈ adsS bs
  · rw [if_pos c, if_pos ((numS_keys bs x).mpr c)]; rfl
  · rw [if_neg c, if_neg fun z => c ((numS_keys bs x).mp z)]
theorem pntS_nodup : ((pntS T (numS bs) (fstS bs)).map (·.1)).Nodup := pnt_nodup _ _ _ _ _ (by simp)
theorem pntS_keys (x : Ad) : x ∈ (pntS T (numS bs) (fstS bs)).map (·.1) ↔ x ∈ adsS bs := by
  rw [← aget_isKey, pntS_get]
  split <;> simp_all
theorem pntS_len : (pntS T (numS bs) (fstS bs)).length = (adsS bs).length := by
  have h1 := nodup_len (m := adsS bs) (pntS_nodup (T := T) (bs := bs)) fun x hx => (pntS_keys x).mp hx
  have h2 := nodup_len (m := (pntS T (numS bs) (fstS bs)).map (·.1)) (adsS_nodup bs) fun x hx => (pntS_keys x).mpr hx
  rw [List.length_map] at h1 h2
  omega
/-- nothing to mend: the point keeps -/
theorem kept (hb : OkB bs) (h : TabOk (sysOf bs hb) T) {R : Nat} (hR : ∀ q, q ∈ T.map (·.1) → ∀ k, Lt2 (gt (gr T q) k) R) (hm : mendS T (fstS bs) = none) :
    TinOk T (fstS bs) R ∧ ∀ b ∈ bs, KeepsQ b (cof (pntS T (numS bs) (fstS bs))) := by
  have no := find_no hm
  have nl : ∀ q, q ∈ T.map (·.1) → fstS bs ≤ q → ¬ (gt (gr T q) 0 < 0 ∨ (gt (gr T q) 0 = 0 ∧ gt (gr T q) 1 < 0)) := fun q hq hf z => by
    have := no q hq
    rw [mendP_iff.mpr ⟨hf, z⟩] at this
    cases this
  have ht : TinOk T (fstS bs) R := ⟨fun q hq hf h1 => by
    have := nl q hq hf
    omega, hR⟩
  obtain ⟨t1, t2, t3, t4⟩ := tin_all ht
  refine ⟨ht, fun b hbm => ?_⟩
  generalize hty : tinS T (fstS bs) = tiny at t1 t2 t3 t4
  obtain ⟨i, hi⟩ := List.getElem?_of_mem hbm
  have hil := (List.getElem?_eq_some_iff.mp hi).1
  have hib := hb.inB hbm
  have sol := (h.sol (bas (sysOf bs hb).M T 1 (vq tiny))).mp fun o ho => bas_sol h _ _ ho
  have e := row_at hb hi _ (sol i hil)
  rw [bas_0 h, bas_1 h] at e
  have er : rsum b.1.1 (fun t => vq t.2 * bas (sysOf bs hb).M T 1 (vq tiny) (nmS bs t.1)) = rsum b.1.1 (fun t => vq t.2 * cof (pntS T (numS bs) (fstS bs)) t.1) := rsum_congr fun t htm => by
    have hk := hib.mem t htm
    have g : aget (pntS T (numS bs) (fstS bs)) t.1 = some (ptvS T tiny (nmS bs t.1)) := by rw [pntS_get, if_pos hk, hty]
    rw [cof_get g, (ptv_q hb h t1 (nm_rg hk).1).2.1]
  rw [er] at e
  unfold KeepsQ
  generalize rsum b.1.1 (fun t => vq t.2 * cof (pntS T (numS bs) (fstS bs)) t.1) = sm at *
  have sl : 0 ≤ bas (sysOf bs hb).M T 1 (vq tiny) (fstS bs + i) := by
    have f2 := fst_ge bs
    by_cases c : (fstS bs + (i : Int)) ∈ T.map (·.1)
    · rw [bas_key h _ _ c]
      have own := cast_lt0.mpr (h.own _ c)
      have nn : 0 ≤ (gt (gr T (fstS bs + i)) 0 : Rat) * 1 + (gt (gr T (fstS bs + i)) 1 : Rat) * vq tiny := by
        have n1 := nl _ c (by omega)
        by_cases d : gt (gr T (fstS bs + i)) 1 < 0
        · have := t4 _ c (by omega) d
          grind
        · have a1 : (0 : Rat) ≤ (gt (gr T (fstS bs + i)) 1 : Rat) := cast_ge0.mpr (by omega)
          have a0 : (0 : Rat) ≤ (gt (gr T (fstS bs + i)) 0 : Rat) := cast_ge0.mpr (by omega)
          have := Rat.mul_nonneg a1 (by grind : (0 : Rat) ≤ vq tiny)
          grind
      have pd : (0 : Rat) < -(gt (gr T (fstS bs + i)) (fstS bs + i) : Rat) := by grind
      have n1 : ¬ ((gt (gr T (fstS bs + i)) 0 : Rat) * 1 + (gt (gr T (fstS bs + i)) 1 : Rat) * vq tiny) / -(gt (gr T (fstS bs + i)) (fstS bs + i) : Rat) < 0 := fun z => by have := (rdiv_neg pd).mp z; grind
      grind
    · rw [bas_out h _ _ c (by omega)]; grind
  generalize bas (sysOf bs hb).M T 1 (vq tiny) (fstS bs + i) = slk at *
  have sp : (0 : Rat) < (scaS b.1 : Rat) := cast_pos (scaS_pos hib.ok).1
  have key : (scaS b.1 : Rat) * (vq b.1.2 + sm) = (if b.2 = true then -1 else 0) * vq tiny - slk := by grind
  have up : ∀ z : Rat, (scaS b.1 : Rat) * z ≤ 0 → z ≤ 0 := fun z hz => by
    refine Classical.byContradiction fun y => ?_
    have := Rat.mul_pos sp (by grind : (0 : Rat) < z)
    grind
  have up2 : ∀ z : Rat, (scaS b.1 : Rat) * z < 0 → z < 0 := fun z hz => by
    refine Classical.byContradiction fun y => ?_
    have := Rat.mul_nonneg (by grind : (0 : Rat) ≤ (scaS b.1 : Rat)) (by grind : (0 : Rat) ≤ z)
    grind
  refine ⟨up _ ?_, fun st => up2 _ ?_⟩
  · rw [key]
    split <;> grind
  · rw [key, if_pos st]; grind
/-! ### sizes -/
variable {ev : List Ad} {n k : Nat}
theorem ads_le (hs : ∀ b ∈ bs, SuG ev n k b.1) : (adsS bs).length ≤ ev.length := nodup_len (adsS_nodup bs) fun a ha => by
  obtain ⟨b, hb, t, ht, rfl⟩ := (adsS_mem bs a).mp ha
  exact (hs b hb).mem t ht
theorem okB_of (hs : ∀ b ∈ bs, SuG ev n k b.1) : OkB bs := fun b hb => (hs b hb).ok
theorem lt2_one {n : Nat} (h : 1 ≤ n) : Lt2 (-1) n := by
  unfold Lt2
  have : 2 ^ 1 ≤ 2 ^ n := Nat.pow_le_pow_right (by decide) h
  show 1 < 2 ^ n
  omega
theorem rwS_sz (hs : ∀ b ∈ bs, SuG ev n k b.1) (ev4 : ev.length ≤ 4) (hn : 1 ≤ n) (i : Nat) (j : Int) : Lt2 (gt (rwS bs i) j) (n + 5 * k) := by
  by_cases c : i < bs.length
  · obtain ⟨b, _, h2, h3, h4⟩ := (okB_of hs).at c
    have hb := hs b h2
    have hf : fstS bs = 1 + 1 + ((adsS bs).length : Int) := rfl
    have sl := scaS_le hb ev4 (List.prefix_refl _)
    rw [h4]
    by_cases d : j ∈ b.1.1.map fun t : Tm => nmS bs t.1
    · obtain ⟨t, ht, rfl⟩ := List.mem_map.mp d
      rw [rowS_in h3 ht]
      exact fac_sz (hb.tz t ht) sl
    · rw [rowS_out d, gt_rowI (by omega)]
      split
      · exact fac_sz hb.cz sl
      split
      · split
        · exact lt2_one (by omega)
        · exact lt2_zero
      split
      · exact lt2_one (by omega)
      · exact lt2_zero
  · rw [rwS_no (List.getElem?_eq_none (by omega))]
    exact lt2_zero
theorem rbd4 (B : Nat) : rbd 4 B ≤ 16 * B + 30 := by
  simp only [rbd, fbd]
  omega
theorem rows_sz (hs : ∀ b ∈ bs, SuG ev n k b.1) (ev4 : ev.length ≤ 4) (hn : 1 ≤ n) (h : TabOk (sysOf bs (okB_of hs)) T) : ∀ q, q ∈ T.map (·.1) → ∀ j, Lt2 (gt (gr T q) j) (16 * (n + 5 * k) + 30) := fun q hq j => by
  have := row_small h (B := n + 5 * k) (fun i _ k => rwS_sz hs ev4 hn i k) hq j
  refine this.mono (Nat.le_trans ?_ (rbd4 _))
  have hl := ads_le hs
  obtain ⟨d, hd⟩ := Nat.exists_eq_add_of_le (Nat.le_trans hl ev4)
  have := fbd_le (n + 5 * k) d (adsS bs).length
  rw [← hd] at this
  show rbd (adsS bs).length (n + 5 * k) ≤ _
  unfold rbd
  omega
theorem ptv_sz {tiny : Am} {R : Nat} (hR : ∀ q, q ∈ T.map (·.1) → ∀ j, Lt2 (gt (gr T q) j) R) (hneg : ∀ q, q ∈ T.map (·.1) → gt (gr T q) q < 0) (ht : Pn (R + 1) tiny) (q : Int) : Pz (2 * R + 3) (2 * R + 2) (ptvS T tiny q) := by
  unfold ptvS
  cases e : aget T q with
  | none => exact pz01.mono (by omega) (by omega)
  | some r =>
    have hk : q ∈ T.map (·.1) := aget_isKey.mp (by rw [e]; rfl)
    have er := gr_of e
    have hr := hR q hk
    have hn := hneg q hk
    rw [er] at hr hn
    have i1 : ∀ j, Pz R 0 (amt (gt r j) 1) := fun j => by rw [amt1]; exact ⟨by show (0 : Int) < 1; decide, hr j, by show 1 ≤ 2 ^ 0; decide⟩
    have tz : Pz (R + 1) (R + 1) tiny := ⟨ht.pos, ht.l1, Nat.le_of_lt ht.l2⟩
    have p1 := pz_tms (i1 1) tz (Nat.le_refl _) (Nat.le_refl _)
    have p2 := pz_pls (N := 2 * R + 3) (K := R + 1) (i1 0) p1 (by omega) (by omega) (by omega)
    show Pz _ _ (ovr (pls (amt (gt r 0) 1) (tms (amt (gt r 1) 1) tiny)) (amt (-(gt r q)) 1))
    rw [amt1 (-(gt r q))]
    unfold ovr
    refine pz_amt (mul_pos' p2.pos (by show 0 < -(gt r q); omega)) ?_ ?_
    · show Lt2 (_ * 1) _
      rw [Int.mul_one]
      exact p2.l1
    · have := le_mulz p2.l2 (Nat.le_of_lt (hr q).neg)
      exact Nat.le_trans this (Nat.pow_le_pow_right (by decide) (by omega))
end
end Tf
/-! text TgR -/
/-! plain: solve may be called, by good bounds -/
namespace Tf
/-- good bounds over few good addresses -/
structure GoodS (ev : List Ad) (bs : List Bd) : Prop where
  e0 : ∀ x ∈ ev, x ≠ []
  eok : ∀ x ∈ ev, AdOk x
  en : ev.Nodup
  e4 : ev.length ≤ 4
  sg : ∀ b ∈ bs, SuG ev 500 250 b.1
  len : bs.length ≤ 16
theorem cmulH {i j : Int} {a b : Nat} (h : Lt2 i a) (h' : Lt2 j b) (e : a + b ≤ 100000000) : CMulH i j := ⟨a, b, h, h', e⟩
theorem lt2_le {i : Int} {k n : Nat} (h : i.natAbs ≤ 2 ^ k) (e : k < n) : Lt2 i n := by
  unfold Lt2
  exact Nat.lt_of_le_of_lt h (Nat.pow_lt_pow_right (by decide) e)
section
variable {ev : List Ad} {bs : List Bd} {T : Tab}
theorem GoodS.ok (G : GoodS ev bs) : OkB bs := okB_of G.sg
theorem GoodS.rows (G : GoodS ev bs) (h : TabOk (sysOf bs G.ok) T) : ∀ q, q ∈ T.map (·.1) → ∀ j, Lt2 (gt (gr T q) j) 28030 := fun q hq j => (rows_sz G.sg G.e4 (by decide) h q hq j).mono (by decide)
theorem GoodS.dim (G : GoodS ev bs) : (sysOf bs G.ok).M ≤ 22 := by
  have h1 := ads_le G.sg
  have h2 := G.e4
  have h3 := G.len
  show 2 + (adsS bs).length + bs.length ≤ 22
  omega
theorem GoodS.rlen (G : GoodS ev bs) (h : TabOk (sysOf bs G.ok) T) {q : Int} (hq : q ∈ T.map (·.1)) : (gr T q).length ≤ 22 := by
  have h1 := (h.rok q hq).len
  have h2 := G.dim
  omega
theorem GoodS.tlen (G : GoodS ev bs) (h : TabOk (sysOf bs G.ok) T) : T.length ≤ 16 := by
  have h1 := h.card
  have h2 := G.len
  have h3 : (sysOf bs G.ok).m = bs.length := rfl
  omega
theorem GoodS.tin (G : GoodS ev bs) (h : TabOk (sysOf bs G.ok) T) (hm : mendS T (fstS bs) = none) : TinOk T (fstS bs) 28030 := (kept G.ok h (G.rows h) hm).1
theorem piv_sz (hR : ∀ q, q ∈ T.map (·.1) → ∀ j, Lt2 (gt (gr T q) j) 28030) {s q : Int} (hs : s ∈ T.map (·.1)) (k : Int) : Lt2 (gt (pivS T s q) k) 28030 := by
  obtain ⟨e, he, hp⟩ := piv_sign T s q
  rw [hp]
  rcases he with e1 | e1
  · rw [e1, Int.one_mul]; exact hR s hs k
  · rw [e1]
    have := (hR s hs k).neg
    rwa [show -1 * gt (gr T s) k = -(gt (gr T s) k) by omega]
theorem GoodS.pnt (G : GoodS ev bs) (h : TabOk (sysOf bs G.ok) T) (hm : mendS T (fstS bs) = none) : PrePnt (T, numS bs, fstS bs) := by
  have hR := G.rows h
  have ht := G.tin h hm
  obtain ⟨t1, t2, t3, t4⟩ := tin_all ht
  have i1 : ∀ q, q ∈ T.map (·.1) → ∀ j, Pz 28030 0 (amt (gt (gr T q) j) 1) := fun q hq j => by rw [amt1]; exact ⟨by show (0 : Int) < 1; decide, hR q hq j, by show 1 ≤ 2 ^ 0; decide⟩
  refine ⟨⟨fun q hq hf h1 => ?_⟩, t3.pm (by decide), fun a ha q hq r hr => ?_, ?_⟩
  · have h1 : gt (gr T q) 1 < 0 := h1
    have p0 := ht.pos q hq hf h1
    have ro := h.rok q hq
    refine ⟨(ro.mem 0).mpr (by omega), (ro.mem 1).mpr (by omega), ?_⟩
    exact (pn_amt (n := 28030) (by omega) (hR q hq 0) (hR q hq 1).neg).pm (by decide)
  · have hk : q ∈ T.map (·.1) := aget_isKey.mp (by
      have hr : aget T q = some r := hr
      rw [hr]; rfl)
    have er := gr_of hr
    have ow := h.own q hk
    have ro := h.rok q hk
    have j1 := i1 q hk
    have tz : Pz 28031 28031 (tinS T (fstS bs)) := ⟨t3.pos, t3.l1, Nat.le_of_lt t3.l2⟩
    have hq' := hR q hk q
    show PrePtv T (tinS T (fstS bs)) q r
    rw [er] at ow ro j1 hq'
    have p1 := pz_tms (j1 1) tz (Nat.le_refl _) (Nat.le_refl _)
    refine ⟨(ro.mem q).mpr (by omega), ow, (j1 0).pm (by decide), (j1 1).pm (by decide), p1.pm (by decide), (pz_pls (N := 100000) (K := 100000) (j1 0) p1 (by decide) (by decide) (by decide)).pm (by decide), ?_⟩
    have : Pz 28030 0 (amt (-(gt r q)) 1) := by rw [amt1]; exact ⟨by show (0 : Int) < 1; decide, hq'.neg, by show 1 ≤ 2 ^ 0; decide⟩
    exact this.pm (by decide)
  · have h1 := nodup_len (m := adsS bs) (numS_nodup bs) fun x hx => (numS_keys bs x).mp hx
    rw [List.length_map] at h1
    have h2 := ads_le G.sg
    have h3 := G.e4
    show (numS bs).length ≤ 1000
    omega
theorem GoodS.tab (G : GoodS ev bs) (h : TabOk (sysOf bs G.ok) T) {d : Dat} (hd : BsX d bs) : GoodT d bs T where
  len := by have := G.tlen h; omega
  row := fun s hs => by have := G.rlen h (find_min hs).1; omega
  exc := fun s q hs hq => by
    have hR := G.rows h
    have st := step_ok (S := sysOf bs G.ok) h hs hq
    refine ⟨st.s1, (find_min hq).1, fun o ho hne hso => ?_, ?_, ?_⟩
    · refine ⟨?_, ?_, fun k _ => ?_, fun k _ => ?_, ?_, ?_⟩
      · exact aget_isKey.mp hso
      · have po := piv_ok (q := q) (h.rok s st.s1)
        have pn := piv_neg (T := T) (s := s) st.q1
        exact (po.mem q).mpr (by omega)
      · exact cmulH (piv_sz hR st.s1 q).neg (hR o ho k) (by decide)
      · exact cmulH (hR o ho q) (piv_sz hR st.s1 k) (by decide)
      · have := G.rlen h ho
        show (gr T o).length ≤ 1000
        omega
      · have := (piv_ok (q := q) (h.rok s st.s1)).len
        have := G.dim
        show (pivS T s q).length ≤ 1000
        omega
    · have := G.tlen h
      show T.length ≤ 1000
      omega
    · have := G.rlen h st.s1
      show (gr T s).length ≤ 1000
      omega
  wgt := fun s hs hc => by
    have hR := G.rows h
    refine ⟨hd, fun b hb => scaS_sz (G.sg b hb) G.e4 (by decide), fun k b hb => ?_, ?_⟩
    · exact cmulH (hR s (find_min hs).1 k).neg (lt2_le (n := 1251) (scaS_le (G.sg b hb) G.e4 (List.prefix_refl _)) (by decide)) (by decide)
    · have := G.len
      show bs.length ≤ 1000
      omega
  pnt := G.pnt h
theorem GoodS.row (G : GoodS ev bs) {i : Nat} {b : Bd} (hi : bs[i]? = some b) {dd : Dat} (hd : BdX dd b) : PreRow (dd, b, fstS bs + (i : Nat), numS bs) := by
  have hb := List.mem_of_getElem? hi
  have g := G.sg b hb
  have hib := G.ok.inB hb
  have sl := scaS_le g G.e4 (List.prefix_refl _)
  refine ⟨hd, scaS_sz g G.e4 (by decide), g.ok.cp, ?_, fun t ht => ⟨g.ok.pos t ht, ?_, ?_⟩, ?_⟩
  · exact cmulH g.cz.l1.neg (lt2_le (n := 1251) (Nat.le_trans (Int.natAbs_ediv_le_natAbs _ _) sl) (by decide)) (by decide)
  · exact cmulH (g.tz t ht).l1.neg (lt2_le (n := 1251) (Nat.le_trans (Int.natAbs_ediv_le_natAbs _ _) sl) (by decide)) (by decide)
  · obtain ⟨j, _, _, _, hj⟩ := nmS_of (hib.mem t ht)
    exact ⟨_, hj⟩
  · have h1 := g.len
    have h2 := G.e4
    show b.1.1.length ≤ 1000
    omega
/-- after so many exchanges it ends; every table on the way is well -/
theorem GoodS.ends (G : GoodS ev bs) : ∃ N, (∀ d, BsX d bs → PreSol (d, bs, N)) ∧ TabOk (sysOf bs G.ok) (itT (fstS bs) (tab0 bs) N) ∧ stepT (fstS bs) (itT (fstS bs) (tab0 bs) N) = none := by
  obtain ⟨N, h1, h2, h3⟩ := bland (sysOf bs G.ok) (tab0 bs) (tab0_ok G.ok)
  have h1 : stepT (fstS bs) (itT (fstS bs) (tab0 bs) N) = none := h1
  have h2 : ∀ k, k < N → stepT (fstS bs) (itT (fstS bs) (tab0 bs) k) ≠ none := h2
  have h3 : ∀ k, k ≤ N → TabOk (sysOf bs G.ok) (itT (fstS bs) (tab0 bs) k) := h3
  refine ⟨N, fun d hd => ⟨hd, fun b hb t ht => G.e0 _ ((G.sg b hb).mem t ht), ?_, fun i b hi dd hdd => G.row hi hdd, ?_, fun k hk => G.tab (h3 k hk) hd, h1, h2⟩, h3 N (Nat.le_refl _), h1⟩
  · have h4 := ads_le G.sg
    have h5 := G.e4
    unfold adsS at h4
    rw [(sortA_perm _).length_eq] at h4
    show (nubA (adsA bs)).length ≤ 4
    omega
  · have := G.len
    show bs.length ≤ 1000
    omega
end
end Tf
/-! text TgS -/
/-! plain: what solve answers for good bounds -/
namespace Tf
section
variable {ev : List Ad} {n k nw kw : Nat}
/-- the law's sum of a refutation may be reckoned -/
theorem lrf_ok (ev0 : ∀ x ∈ ev, x ≠ []) (ev4 : ev.length ≤ 4) : ∀ (l : List (Bd × Am)) (t : Su) (A Kt : Nat), SuG ev A Kt t → 1 ≤ A → nw + n + Kt + 1 ≤ A → (∀ p ∈ l, SuG ev n k p.1.1 ∧ Pz nw kw p.2) →
    (A + l.length * (k + kw + 1)) + n + nw + (Kt + l.length * (k + kw)) + k + kw ≤ 498800 → LrfOk l t
  | [], _, _, _, _, _, _, _, _ => trivial
  | (b, w) :: l, t, A, Kt, ht, e1, e2, h, e => by
    obtain ⟨h1, h2⟩ := h (b, w) List.mem_cons_self
    have h1 : SuG ev n k b.1 := h1
    have h2 : Pz nw kw w := h2
    rw [List.length_cons, Nat.succ_mul, Nat.succ_mul] at e
    refine .inr ⟨lawAdd_pre ev0 ev4 ht h1 h2 (by omega), ?_⟩
    exact lrf_ok ev0 ev4 l _ (A + k + kw + 1) (Kt + k + kw) (lawAdd_g ht h1 h2 e1 (by omega) (by omega) (by omega)) (by omega) (by omega) (fun p hp => h p (List.mem_cons_of_mem _ hp)) (by omega)
/-- so may the text's -/
theorem ref_ok (ev0 : ∀ x ∈ ev, x ≠ []) (ev4 : ev.length ≤ 4) (KM : Nat) : ∀ (l : List (Bd × Am)) (t : Su) (A Kt : Nat), SuG ev A Kt t → 1 ≤ n → nw + n + KM + 3 ≤ A → (∀ p ∈ l, SuG ev n k p.1.1 ∧ Pz nw kw p.2) →
    Kt + l.length * (k + kw) ≤ KM → A + l.length * (KM + 3) + n + nw + KM + k + kw ≤ 10000000 → RefOk l t
  | [], _, _, _, _, _, _, _, _, _ => trivial
  | (b, w) :: l, t, A, Kt, ht, e1, e2, h, e3, e => by
    obtain ⟨h1, h2⟩ := h (b, w) List.mem_cons_self
    have h1 : SuG ev n k b.1 := h1
    have h2 : Pz nw kw w := h2
    rw [List.length_cons, Nat.succ_mul] at e e3
    have hl := h1.len
    have ts := timS_g h1 h2 e1
    refine .inr ⟨⟨h2.pm (by omega), fun t ht => (h1.tz t ht).pm (by omega), h1.cz.pm (by omega), by show b.1.1.length ≤ 1000; omega⟩, addS_pre ev0 ev4 ht ts (by omega), ?_⟩
    exact ref_ok ev0 ev4 KM l _ (A + KM + 3) (Kt + (k + kw)) (addS_g ht ts (by omega) (by omega) (by omega)) e1 (by omega) (fun p hp => h p (List.mem_cons_of_mem _ hp)) (by omega) (by omega)
end
theorem sug_nil (ev : List Ad) : SuG ev 1 0 ([], (0, 1)) := ⟨⟨List.nodup_nil, fun t h => (nomatch h), fun t h => (nomatch h), by decide⟩, fun t h => (nomatch h), fun t h => (nomatch h), pz01⟩
theorem keepsQ_congr {b : Bd} {y y' : Ad → Rat} (h : ∀ t ∈ b.1.1, y t.1 = y' t.1) (hk : KeepsQ b y) : KeepsQ b y' := by
  have e : rsum b.1.1 (fun t => vq t.2 * y t.1) = rsum b.1.1 (fun t => vq t.2 * y' t.1) := rsum_congr fun t ht => by rw [h t ht]
  unfold KeepsQ at *
  rw [← e]
  exact hk
/-- what solve answers, and what the law finds of it -/
structure EndS (ev : List Ad) (bs : List Bd) (N : Nat) : Prop where
  sol : ∀ d, BsX d bs → PreSol (d, bs, N)
  right : PreRight bs (endX bs N)
  yes : rightS bs (endX bs N) = true
  pt : PtOk (endX bs N)
  conf : PreConf bs (toldR (endX bs N))
  cyes : confS bs (toldR (endX bs N)) = true
  nokeep : ∀ ws, endX bs N = .inl ws → ∀ np kp p, PtG ev np kp p → kepS bs p = false
  noref : ∀ p, endX bs N = .inr p → ∀ l : List (Bd × Am), l.map (·.1) = bs → (∀ q ∈ l, 0 < q.2.2) → lrfG l ([], (0, 1)) false = false
section
variable {ev : List Ad} {bs : List Bd} {T : Tab}
theorem zip_fst {ws : List Am} {p : Bd × Am} (h : p ∈ bs.zip ws) : p.1 ∈ bs ∧ p.2 ∈ ws := List.of_mem_zip h
theorem wgt_mem {row : Row} {first : Int} {w : Am} (h : w ∈ wgtS row bs first) : ∃ j : Int, ∃ b ∈ bs, w = (-(gt row j) * scaS b.1, 1) := by
  obtain ⟨i, hi⟩ := List.getElem?_of_mem h
  unfold wgtS at hi
  rw [List.getElem?_mapIdx] at hi
  cases e : bs[i]? with
  | none => rw [e] at hi; cases hi
  | some b =>
    rw [e] at hi
    exact ⟨first + (i : Int), b, List.mem_of_getElem? e, by rw [← Option.some.inj hi]; exact amt1 _⟩
theorem GoodS.own (G : GoodS ev bs) : ∀ b ∈ bs, SuG (adsS bs) 500 250 b.1 := fun b hb => ⟨(G.sg b hb).ok, (G.ok.inB hb).mem, (G.sg b hb).tz, (G.sg b hb).cz⟩
theorem GoodS.ads0 (G : GoodS ev bs) : ∀ x ∈ adsS bs, x ∈ ev := fun a ha => by
  obtain ⟨b, hb, t, ht, rfl⟩ := (adsS_mem bs a).mp ha
  exact (G.sg b hb).mem t ht
theorem GoodS.ads4 (G : GoodS ev bs) : (adsS bs).length ≤ 4 := Nat.le_trans (ads_le G.sg) G.e4
theorem adsA_mem (a : Ad) : a ∈ adsA bs ↔ a ∈ adsS bs := by
  unfold adsS
  rw [(sortA_perm _).mem_iff, nub_mem]
theorem ads_len : (adsS bs).length = (nubA (adsA bs)).length := by unfold adsS; exact (sortA_perm _).length_eq
theorem wz {row : Row} (hb : ∀ b ∈ bs, SuG ev 500 250 b.1) (e4 : ev.length ≤ 4) (hR : ∀ j, Lt2 (gt row j) 28030) {first : Int} : ∀ w ∈ wgtS row bs first, Pz 29280 0 w ∧ amt w.1 w.2 = w := fun w hw => by
  obtain ⟨j, b, hbm, rfl⟩ := wgt_mem hw
  exact ⟨⟨by show (0 : Int) < 1; decide, lt2_mulz (hR j).neg (scaS_le (k := 250) (hb b hbm) e4 (List.prefix_refl _)), by show 1 ≤ 2 ^ 0; decide⟩, amt1 _⟩
/-- the end of the way: weights -/
theorem GoodS.inl (G : GoodS ev bs) (h : TabOk (sysOf bs G.ok) T) {s : Int} (hs : mendS T (fstS bs) = some s) (hc : chgS (gr T s) (fstS bs) = none) :
    PreRight bs (.inl (wgtS (gr T s) bs (fstS bs))) ∧ rightS bs (.inl (wgtS (gr T s) bs (fstS bs))) = true ∧ PreConf bs (.inl (wgtS (gr T s) bs (fstS bs))) ∧ confS bs (.inl (wgtS (gr T s) bs (fstS bs))) = true ∧
      ∀ np kp p, PtG ev np kp p → kepS bs p = false := by
  have hr := refuted G.ok h hs hc
  have hR := G.rows h s (find_min hs).1
  have hw := wz (first := fstS bs) G.sg G.e4 hR
  have hl : (wgtS (gr T s) bs (fstS bs)).length = bs.length := by unfold wgtS; rw [List.length_mapIdx]
  generalize wgtS (gr T s) bs (fstS bs) = ws at hr hw hl
  have hz : ∀ p ∈ bs.zip ws, SuG ev 500 250 p.1.1 ∧ Pz 29280 0 p.2 := fun p hp => ⟨G.sg _ (zip_fst hp).1, (hw _ (zip_fst hp).2).1⟩
  have hzl : (bs.zip ws).length ≤ 16 := by
    rw [List.length_zip]
    have := G.len
    omega
  have ok2 : ∀ p ∈ bs.zip ws, SuOk p.1.1 ∧ 0 < p.2.2 := fun p hp => ⟨(hz p hp).1.ok, (hz p hp).2.pos⟩
  have m1 := Nat.mul_le_mul_right (250 + 0 + 1) hzl
  have m2 := Nat.mul_le_mul_right (250 + 0) hzl
  have m3 := Nat.mul_le_mul_right (4000 + 3) hzl
  have z := sug_nil ev
  have zc : cof (([], (0, 1)) : Su).1 = fun _ => 0 := rfl
  have zq : vq (([], (0, 1)) : Su).2 = 0 := vq01
  refine ⟨⟨hl, by have := G.len; omega, fun w hw' => ?_, ?_⟩, ?_, ⟨hl, ?_⟩, ?_, fun np kp p hp => ?_⟩
  · obtain ⟨g1, g2⟩ := hw w hw'
    exact ⟨g1.pos, lt2_le g1.l2 (by decide), g2⟩
  · exact lrf_ok (n := 500) (k := 250) (nw := 29280) (kw := 0) G.e0 G.e4 _ _ 30000 0 (z.mono (by decide) (by decide)) (by decide) (by decide) hz (by omega)
  · exact (lrf_iff _ _ _ z.ok ok2).mpr (by rw [zc, zq]; exact hr)
  · exact ref_ok (n := 500) (k := 250) (nw := 29280) (kw := 0) G.e0 G.e4 4000 _ _ 40000 0 (z.mono (by decide) (by decide)) (by decide) (by decide) hz (by omega) (by omega)
  · exact (ref_iff _ _ _ z.ok ok2).mpr (by rw [zc, zq]; exact hr)
  · cases c : kepS bs p with
    | false => rfl
    | true =>
      have hk := (kep_iff G.sg hp).mp c
      exact (no_both G.en (fun q hq => ⟨(ok2 q hq).1, (hz q hq).1.mem, (ok2 q hq).2⟩) hr fun q hq => hk _ (zip_fst hq).1).elim
/-- the end of the way: a point -/
theorem GoodS.inr (G : GoodS ev bs) (h : TabOk (sysOf bs G.ok) T) (hm : mendS T (fstS bs) = none) :
    PreRight bs (.inr (pntS T (numS bs) (fstS bs))) ∧ rightS bs (.inr (pntS T (numS bs) (fstS bs))) = true ∧ PtOk (.inr (pntS T (numS bs) (fstS bs))) ∧ PreConf bs (toldR (.inr (pntS T (numS bs) (fstS bs)))) ∧ confS bs (toldR (.inr (pntS T (numS bs) (fstS bs)))) = true ∧
      ∀ l : List (Bd × Am), l.map (·.1) = bs → (∀ q ∈ l, 0 < q.2.2) → lrfG l ([], (0, 1)) false = false := by
  obtain ⟨ht, hk⟩ := kept G.ok h (G.rows h) hm
  obtain ⟨t1, t2, t3, t4⟩ := tin_all ht
  have sg := G.own
  have a4 := G.ads4
  have pv : ∀ a, a ∈ adsS bs → ∃ v, aget (pntS T (numS bs) (fstS bs)) a = some v ∧ Pz 56063 56062 v ∧ amt v.1 v.2 = v := fun a ha => by
    refine ⟨_, by rw [pntS_get, if_pos ha], ptv_sz (G.rows h) h.own t3 _, (ptv_q G.ok h t1 (nm_rg ha).1).2.2⟩
  have hl := pntS_len (T := T) (bs := bs)
  have hn := pntS_nodup (T := T) (bs := bs)
  have hkey := pntS_keys (T := T) (bs := bs)
  generalize pntS T (numS bs) (fstS bs) = p at *
  have pg : PtG (adsS bs) 56063 56062 p := ⟨fun a ha => by obtain ⟨v, h1, h2, _⟩ := pv a ha; exact ⟨v, h1, h2⟩⟩
  -- the point told and read again
  have tget : ∀ a, aget (lfd0 ((sortA (p.map (·.1))).map fun k => (k, (aget p k).getD (0, 1)))) a = aget p a := fun a => by
    rw [aget_lfd0, aget_mapK]
    · by_cases c : a ∈ p.map (·.1)
      · obtain ⟨v, hv⟩ := aget_key c
        rw [if_pos ((sortA_perm _).mem_iff.mpr c), hv]; rfl
      · rw [if_neg fun z => c ((sortA_perm _).mem_iff.mp z), aget_none c]
    · rw [List.map_map]
      show (List.map (fun k => k) _).Nodup
      rw [List.map_id']
      exact (sortA_perm _).nodup_iff.mpr hn
  have pg2 : PtG (adsS bs) 56063 56062 (lfd0 ((sortA (p.map (·.1))).map fun k => (k, (aget p k).getD (0, 1)))) := ⟨fun a ha => by rw [tget]; exact pg.get a ha⟩
  have cc : ∀ a, cof (lfd0 ((sortA (p.map (·.1))).map fun k => (k, (aget p k).getD (0, 1)))) a = cof p a := fun a => by unfold cof; rw [tget]
  refine ⟨⟨fun a ha => G.eok _ (G.ads0 _ ((adsA_mem a).mp ha)), by rw [← ads_len]; omega, by rw [← ads_len]; exact hl, fun a ha => ?_, fun b hb => ?_⟩, ?_, ⟨by omega, fun t ht => ?_⟩, ⟨?_, ?_, fun b hb => ?_⟩, ?_, fun l hm hq => ?_⟩
  · obtain ⟨v, h1, h2, h3⟩ := pv a ((adsA_mem a).mp ha)
    exact ⟨v, h1, h2.pos, lt2_le h2.l2 (by decide), h3⟩
  · exact pre_vaL (N := 60000) (sg b hb) pg a4 (by decide) (by decide) (by decide)
  · exact (kep_iff sg pg).mpr hk
  · exact G.e0 _ (G.ads0 _ ((hkey _).mp (List.mem_map.mpr ⟨t, ht, rfl⟩)))
  · show ((sortA (p.map (·.1))).map _).length ≤ 1000
    rw [List.length_map, (sortA_perm _).length_eq, List.length_map]
    omega
  · have := G.len
    omega
  · exact pre_val (sg b hb) pg2 a4 (by decide)
  · show (bs.all fun b => hldS b (lfd0 _)) = true
    rw [List.all_eq_true]
    intro b hb
    rw [hld_brk, (brk_iff (sg b hb) pg2).mpr (keepsQ_congr (fun t _ => (cc t.1).symm) (hk b hb))]
    rfl
  · cases c : lrfG l ([], (0, 1)) false with
    | false => rfl
    | true =>
      have z := sug_nil ev
      have mb : ∀ q ∈ l, q.1 ∈ bs := fun q hql => by rw [← hm]; exact List.mem_map.mpr ⟨q, hql, rfl⟩
      have r := (lrf_iff l _ _ z.ok fun q hql => ⟨(G.sg _ (mb q hql)).ok, hq q hql⟩).mp c
      have zc : cof (([], (0, 1)) : Su).1 = fun _ => 0 := rfl
      have zq : vq (([], (0, 1)) : Su).2 = 0 := vq01
      rw [zc, zq] at r
      exact (no_both (adsS_nodup bs) (fun q hql => ⟨(sg _ (mb q hql)).ok, (sg _ (mb q hql)).mem, hq q hql⟩) r fun q hql => hk _ (mb q hql)).elim
theorem GoodS.end (G : GoodS ev bs) : ∃ N, EndS ev bs N := by
  obtain ⟨N, h1, h2, h3⟩ := G.ends
  refine ⟨N, ?_⟩
  have eX : endX bs N = resXT bs (itT (fstS bs) (tab0 bs) N) := rfl
  generalize itT (fstS bs) (tab0 bs) N = T at h2 h3 eX
  unfold resXT at eX
  unfold stepT at h3
  cases e : mendS T (fstS bs) with
  | none =>
    rw [e] at eX
    obtain ⟨g1, g2, g3, g4, g5, g6⟩ := G.inr h2 e
    exact ⟨h1, by rw [eX]; exact g1, by rw [eX]; exact g2, by rw [eX]; exact g3, by rw [eX]; exact g4, by rw [eX]; exact g5, fun ws z => (by rw [eX] at z; cases z), fun p _ => g6⟩
  | some s =>
    rw [e] at eX h3
    have hc : chgS (gr T s) (fstS bs) = none := by
      cases e2 : chgS (gr T s) (fstS bs) with
      | none => rfl
      | some q => simp only [e2] at h3; cases h3
    obtain ⟨g1, g2, g3, g4, g5⟩ := G.inl h2 e hc
    exact ⟨h1, by rw [eX]; exact g1, by rw [eX]; exact g2, by rw [eX]; trivial, by rw [eX]; exact g3, by rw [eX]; exact g4, fun ws _ => g5, fun p z => (by rw [eX] at z; cases z)⟩
end
end Tf
/-! text TfAF -/
/-! the builders of the systems, walked: cells, rows, numbers, words -/
namespace Tf
open PySem PySem.Spec PyProof.Rows L2
local macro_rules | `(tactic| walk_at "ev1") => `(tactic| first
  | with_reducible exact evp_int | with_reducible exact evp_bl | with_reducible exact evp_str | with_reducible exact evp_non | with_reducible exact evp_gamA | with_reducible exact evp_gam | (with_reducible apply evp_var; (with_unfolding_all exact rfl))
  | with_reducible exact eva_nil | with_reducible apply eva_cons
  | with_reducible apply evp_op | (with_reducible apply evp_un (hr := ru_int)) | with_reducible apply evp_cb
  | with_reducible apply evp_tup' | (with_reducible show List.length _ ≤ 100000; simp; done)
  | with_reducible exact rv_int | with_reducible exact rv_bl | with_reducible apply rv_intC | with_reducible exact rv_eq (.int _ _) | with_reducible exact rv_ne (.int _ _)
  | (with_reducible apply rv_ix; (first | (with_unfolding_all exact Sq.tup _) | (with_unfolding_all exact Sq.lst _) | (with_reducible apply Sqx.sq; with_reducible assumption)); (with_unfolding_all exact rfl))
  | with_reducible exact rc_gcd
  | with_reducible exact rc_tupA | with_reducible exact rc_tupM
  | (with_reducible apply rc_tup; (first | (with_unfolding_all exact Sq.tup _) | (with_unfolding_all exact Sq.lst _) | (with_reducible apply Sqx.sq; with_reducible assumption)))
  | (with_reducible apply rc_lst; (first | (with_unfolding_all exact Sq.tup _) | (with_unfolding_all exact Sq.lst _) | (with_reducible apply Sqx.sq; with_reducible assumption)))
  | (with_reducible apply rc_len; (first | (with_unfolding_all exact Sq.tup _) | (with_unfolding_all exact Sq.lst _) | (with_reducible apply Sqx.sq; with_reducible assumption)))
  | with_reducible apply rv_cat
  | with_reducible exact evb_yes
  | with_reducible apply evb_test | with_reducible apply evb_B | with_reducible apply evb_not | with_reducible apply evb_and | with_reducible apply evb_or | with_reducible apply evp_and | with_reducible apply evp_or | with_reducible apply evp_not
  | (with_reducible refine fun _ => ?_))
local macro_rules | `(tactic| walk_at "ev") => `(tactic| repeat' walk_at "ev1")
section
variable {K : PySem.W.Frag} {m : Option LkM} {δ δ' : De} {te ta tb tc : TE} {tt tu : TT} {ts t1 t2 t3 : TS} {A R : Dat → Prop} {P : Pt} {x y z d : Dat} {ds : List Dat} {i j : Nat}
/-! ### rules -/
theorem ev_ix {α : Type} {l : List α} {f : α → Dat} {n : Nat} {x : α} (h : l[n]? = some x) (e1 : EvP K m ta δ (Eq (.lst (l.map f)))) (e2 : EvP K m tb δ (Eq (.int (n : Int)))) : EvP K m (tOp (rIx K) ta tb) δ (Eq (f x)) := evp_op e1 e2 (rv_ix (.lst _) (len_ix h))
/-- a row of the law: whole numbers -/
def roI (r : List Int) : Dat := .lst (r.map .int)
structure RowR (r : List Int) (n : Nat) : Prop where
  len : n ≤ r.length
  rg : ∀ i ∈ r, 0 ≤ i ∧ i < 60
def rget (r : List Int) (k : Nat) : Int := r.getD k 0
theorem RowR.at {r : List Int} {n k : Nat} (h : RowR r n) (hk : k < n) : r[k]? = some (rget r k) ∧ 0 ≤ rget r k ∧ rget r k < 60 := by
  have hl : k < r.length := Nat.lt_of_lt_of_le hk h.len
  have e : r[k]? = some (rget r k) := by
    unfold rget
    rw [List.getD_eq_getElem?_getD, List.getElem?_eq_getElem hl]; rfl
  exact ⟨e, h.rg _ (List.mem_of_getElem? e)⟩
theorem ev_row {r : List Int} {n k : Nat} (h : RowR r n) (hk : k < n) (e1 : EvP K m ta δ (Eq (roI r))) (e2 : EvP K m tb δ (Eq (.int (k : Int)))) : EvP K m (tOp (rIx K) ta tb) δ (Eq (.int (rget r k))) := ev_ix (f := Dat.int) (h.at hk).1 e1 e2
/-- row[c] -/
theorem ev_rowC {r : List Int} {n : Nat} (c : Nat) (h : RowR r n) (hk : c < n) (e1 : EvP K m ta δ (Eq (roI r))) : EvP K m (tOp (rIx K) ta (tC (.int (c : Int)))) δ (Eq (.int (rget r c))) := ev_row h hk e1 evp_int
theorem ev_mod {a b : Int} (hb : 0 < b) (e1 : EvP K m ta δ (Eq (.int a))) (e2 : EvP K m tb δ (Eq (.int b))) : EvP K m (tOp (rI (fun _ j => 0 < j) fun i j => .int (i % j)) ta tb) δ (Eq (.int (a % b))) := evp_op e1 e2 (rv_intC hb)
theorem ev_div {a b : Int} (hb : 0 < b) (e1 : EvP K m ta δ (Eq (.int a))) (e2 : EvP K m tb δ (Eq (.int b))) : EvP K m (tOp (rI (fun _ j => 0 < j) fun i j => .int (i / j)) ta tb) δ (Eq (.int (a / b))) := evp_op e1 e2 (rv_intC hb)
theorem ev_mul {a b : Int} (h : CMulH a b) (e1 : EvP K m ta δ (Eq (.int a))) (e2 : EvP K m tb δ (Eq (.int b))) : EvP K m (tOp (rI CMulH fun i j => .int (i * j)) ta tb) δ (Eq (.int (a * b))) := evp_op e1 e2 (rv_intC h)
theorem ev_add {a b : Int} (e1 : EvP K m ta δ (Eq (.int a))) (e2 : EvP K m tb δ (Eq (.int b))) : EvP K m (tOp (rI0 fun i j => .int (i + j)) ta tb) δ (Eq (.int (a + b))) := evp_op e1 e2 rv_int
theorem ev_sub {a b : Int} (e1 : EvP K m ta δ (Eq (.int a))) (e2 : EvP K m tb δ (Eq (.int b))) : EvP K m (tOp (rI0 fun i j => .int (i - j)) ta tb) δ (Eq (.int (a - b))) := evp_op e1 e2 rv_int
theorem ev_eqI {a b : Int} (e1 : EvP K m ta δ (Eq (.int a))) (e2 : EvP K m tb δ (Eq (.int b))) : EvP K m (tOp rEq ta tb) δ (Eq (.bl (a == b))) := evp_op e1 e2 (rv_eq (.int _ _))
theorem ev_neI {a b : Int} (e1 : EvP K m ta δ (Eq (.int a))) (e2 : EvP K m tb δ (Eq (.int b))) : EvP K m (tOp rNe ta tb) δ (Eq (.bl !(a == b))) := evp_op e1 e2 (rv_ne (.int _ _))
theorem ev_lt {a b : Int} (e1 : EvP K m ta δ (Eq (.int a))) (e2 : EvP K m tb δ (Eq (.int b))) : EvP K m (tOp (rI0 fun i j => .bl (decide (i < j))) ta tb) δ (Eq (.bl (decide (a < b)))) := evp_op e1 e2 rv_bl
theorem ev_ge {a b : Int} (e1 : EvP K m ta δ (Eq (.int a))) (e2 : EvP K m tb δ (Eq (.int b))) : EvP K m (tOp (rI0 fun i j => .bl (decide (j ≤ i))) ta tb) δ (Eq (.bl (decide (b ≤ a)))) := evp_op e1 e2 rv_bl
theorem ev_gt {a b : Int} (e1 : EvP K m ta δ (Eq (.int a))) (e2 : EvP K m tb δ (Eq (.int b))) : EvP K m (tOp (rI0 fun i j => .bl (decide (j < i))) ta tb) δ (Eq (.bl (decide (b < a)))) := evp_op e1 e2 rv_bl
theorem ev_int {a : Int} (e1 : EvP K m ta δ (Eq (.int a))) : EvP K m (tCB rInt (tCons ta tNil)) δ (Eq (.int a)) := evp_cb (eva_cons e1 eva_nil) rc_int
theorem ev_intB {a : Bool} (e1 : EvP K m ta δ (Eq (.bl a))) : EvP K m (tCB rInt (tCons ta tNil)) δ (Eq (.int (if a then 1 else 0))) := evp_cb (eva_cons e1 eva_nil) rc_intB
theorem ev_len {α : Type} {l : List α} {f : α → Dat} (e1 : EvP K m ta δ (Eq (.lst (l.map f)))) : EvP K m (tCB (rLen K) (tCons ta tNil)) δ (Eq (.int (l.length : Int))) := (evp_cb (eva_cons e1 eva_nil) (rc_len (.lst _))).to (by rw [List.length_map])
theorem cm {a b : Int} {n k : Nat} (h1 : -(2 ^ n) < a ∧ a < 2 ^ n) (h2 : -(2 ^ k) < b ∧ b < 2 ^ k) (e : n + k ≤ 100000000) : CMulH a b := by
  have up : ∀ {x : Int} {n : Nat}, -(2 ^ n) < x ∧ x < 2 ^ n → Lt2 x n := fun {x n} h => by
    unfold Lt2
    have e : ((2 ^ n : Nat) : Int) = (2 : Int) ^ n := by simp
    omega
  exact ⟨n, k, up h1, up h2, e⟩
/-- small factors -/
theorem cm40 {a b : Int} (h1 : -1099511627776 < a ∧ a < 1099511627776) (h2 : -1099511627776 < b ∧ b < 1099511627776) : CMulH a b := cm (n := 40) (k := 40) h1 h2 (by decide)
theorem ev_pow {a b : Int} (hb : 0 ≤ b ∧ b ≤ 1000000) (ha : a.natAbs < 2 ^ 64) (e1 : EvP K m ta δ (Eq (.int a))) (e2 : EvP K m tb δ (Eq (.int b))) : EvP K m (tOp (rI CPow fun i j => .int (i ^ j.toNat)) ta tb) δ (Eq (.int (a ^ b.toNat))) := evp_op e1 e2 (rv_intC ⟨hb.1, hb.2, ha⟩)
theorem ev_neg {a : Int} (e1 : EvP K m ta δ (Eq (.int a))) : EvP K m (tUn (rU fun i => .int (-i)) ta) δ (Eq (.int (-a))) := evp_un e1 ru_int
theorem ev_am {a b : Int} (e1 : EvP K m ta δ (Eq (.int a))) (e2 : EvP K m tb δ (Eq (.int b))) : EvP K m (tTup (tCons ta (tCons tb tNil))) δ (Eq (am (a, b))) := evp_tup' (eva_cons e1 (eva_cons e2 eva_nil)) (by show 2 ≤ 100000; decide)
theorem ev_two {x y : Dat} (e1 : EvP K m ta δ (Eq x)) (e2 : EvP K m tb δ (Eq y)) : EvP K m (tTup (tCons ta (tCons tb tNil))) δ (Eq (.tup [x, y])) := evp_tup' (eva_cons e1 (eva_cons e2 eva_nil)) (by show 2 ≤ 100000; decide)
theorem ev_nil : EvP K m (tTup tNil) δ (Eq (.tup [])) := evp_tup' eva_nil (by show 0 ≤ 100000; decide)
theorem ev_a0 {a : Am} (e1 : EvP K m ta δ (Eq (am a))) : EvP K m (tOp (rIx K) ta (tC (.int 0))) δ (Eq (.int a.1)) := evp_op e1 evp_int (rv_ix (.tup _) rfl)
theorem ev_a1 {a : Am} (e1 : EvP K m ta δ (Eq (am a))) : EvP K m (tOp (rIx K) ta (tC (.int 1))) δ (Eq (.int a.2)) := evp_op e1 evp_int (rv_ix (.tup _) rfl)
/-- one of a list of data -/
theorem ev_pick {l : List Dat} {k : Nat} {v : Int} {Q : Dat → Prop} (e1 : EvP K m ta δ (Eq (.lst l))) (e2 : EvP K m tb δ (Eq (.int v))) (hk : v = (k : Int)) (hl : k < l.length) (h : ∀ d ∈ l, Q d) : EvP K m (tOp (rIx K) ta tb) δ Q := by
  subst hk
  have e : l[k]? = some l[k] := List.getElem?_eq_getElem hl
  have := ev_ix (f := id) e (e1.to (by rw [List.map_id])) e2
  exact this.imp fun d hd => hd ▸ h _ (List.getElem_mem hl)
/-- a slice of a list -/
theorem TrL.cut {Hs : Hp} {vs : List V} {ds : List Dat} (t : TrL K Hs vs ds) (lo hi : Option Int) : TrL K Hs (cutV vs lo hi) ((ds.drop (HT.sIx ds.length 0 lo)).take (HT.sIx ds.length ds.length hi - HT.sIx ds.length 0 lo)) := by
  unfold cutV
  rw [t.length]
  exact TrL.take _ (TrL.drop _ t)
theorem ev_from {α : Type} {l : List α} {f : α → Dat} {n : Nat} (e1 : EvP K m te δ (Eq (.lst (l.map f)))) (e2 : EvP K m ta δ (Eq (.int (n : Int)))) : EvP K m (tSl (rSlL K) te (tPart ta) tNoPart) δ (Eq (.lst ((l.drop n).map f))) := fun Hs0 H0 Hs H σ s Q k =>
  e1 _ _ _ _ _ s _ fun v H1 Hs1 d1 x1 t1 p1 => e2 _ _ _ _ _ (s.grow x1) _ fun u H2 Hs2 d2 x2 t2 p2 => by
    cases p1; cases p2; cases t2
    refine ⟨(n : Int), rfl, ?_⟩
    obtain ⟨a, xs, rfl, h1, h2⟩ := (t1.mono x2.le).lst_inv
    refine ⟨a, xs, rfl, ((s.grow x1).grow x2).sub.sqL h1, fun p np => ?_⟩
    have x := Ext.new (o := .lst (cutV xs (some (n : Int)) none)) ((s.grow x1).grow x2).sub np
    refine k (.ref p) _ _ _ ((x1.trans x2).trans x) (.lst upd_same ((h2.mono x.le).cut _ _)) ?_
    rw [HT.sIx_nat, HT.sIx_none, List.length_map]
    congr 1
    rw [← List.map_drop, ← List.map_take]
    congr 1
    by_cases c : n ≤ l.length
    · rw [Nat.min_eq_left c, List.take_of_length_le (by rw [List.length_drop]; exact Nat.le_refl _)]
    · rw [Nat.min_eq_right (by omega), List.drop_eq_nil_of_le (by omega), List.drop_eq_nil_of_le (Nat.le_refl _), List.take_nil]
theorem ev_upto {α : Type} {l : List α} {f : α → Dat} {n : Nat} (e1 : EvP K m te δ (Eq (.lst (l.map f)))) (e2 : EvP K m ta δ (Eq (.int (n : Int)))) : EvP K m (tSl (rSlL K) te tNoPart (tPart ta)) δ (Eq (.lst ((l.take n).map f))) := fun Hs0 H0 Hs H σ s Q k =>
  e1 _ _ _ _ _ s _ fun v H1 Hs1 d1 x1 t1 p1 => e2 _ _ _ _ _ (s.grow x1) _ fun u H2 Hs2 d2 x2 t2 p2 => by
    cases p1; cases p2; cases t2
    refine ⟨(n : Int), rfl, ?_⟩
    obtain ⟨a, xs, rfl, h1, h2⟩ := (t1.mono x2.le).lst_inv
    refine ⟨a, xs, rfl, ((s.grow x1).grow x2).sub.sqL h1, fun p np => ?_⟩
    have x := Ext.new (o := .lst (cutV xs none (some (n : Int)))) ((s.grow x1).grow x2).sub np
    refine k (.ref p) _ _ _ ((x1.trans x2).trans x) (.lst upd_same ((h2.mono x.le).cut _ _)) ?_
    rw [HT.sIx_nat, HT.sIx_none, List.length_map, List.drop_zero, Nat.sub_zero]
    congr 1
    rw [← List.map_take]
    congr 1
    by_cases c : n ≤ l.length
    · rw [Nat.min_eq_left c]
    · rw [Nat.min_eq_right (by omega), List.take_of_length_le (by omega), List.take_of_length_le (Nat.le_refl _)]
end
section
variable {P : Program} {w : World} {K : PySem.W.Frag} {mg : Str → Option Value} {base : Heap}
abbrev SpCel (K : PySem.W.Frag) : Sp := SpD K (fun a : List Int × Nat => [.scr a.1, .int (a.2 : Int)]) (fun a => a.2 < 64) fun a d => ∃ i, d = .int i
theorem ok_law_cell (T : Tx P K mg base) : Cal P w K mg base 36 "_law_cell" ["_law_script", "_law_k"] [] (SpCel K) := by
  refine cal_of (k := 35) T.d_law_cell scLawCell (fun _ => rfl) (fun _ _ _ _ _ _ us hl => match us, hl with | [_, _], _ => rfl) fun cdv f A outer s H Q E hr => ?_
  have hu := hu_of hr
  refine ⟨_, (pss_cons (ps_if (pt_cmpR op_lt (pv 1) (pe_callB (cr_len (K := K)) (by rfl) T.n_len (by decide +kernel) (pa_cons (pv 0) pa_nil)) (nomark _)) (pss_one (ps_ret (pe_ix (ixK (K := K)) (pv 0) (pv 1) (fun _ _ => rfl)))) pss_nil)
  (pss_cons (ps_set (i := 2) scLawCell.nd rfl (Or.inl rfl) pe_int)
  (pss_cons (ps_for PassesOwn.never rfl (pi_seq (K := K) (pv 0)) (pg_name (i := 3) scLawCell.nd rfl (Or.inl rfl)) (pss_one (ps_set (i := 2) scLawCell.nd rfl (Or.inl rfl) (pe_op op_mod (pe_callTy cr_int (by rfl) T.n_int (by decide +kernel) (pa_cons (pe_op op_add (pe_op op_mulH (pv 2) pe_int) (pe_op op_mod (pe_callTy cr_int (by rfl) T.n_int (by decide +kernel) (pa_cons (pv 3) pa_nil)) pe_int)) pa_nil)) pe_int))))
  (pss_one (ps_ret (pe_op op_mod (pe_callTy cr_int (by rfl) T.n_int (by decide +kernel) (pa_cons (pe_op op_mulH (pe_op op_mulH (pe_op op_add (pv 2) pe_int) (pe_op op_add (pv 1) pe_int)) pe_int) pa_nil)) pe_int)))))), fun a ha => ?_⟩
  obtain ⟨ns, k⟩ := a
  have ha : k < 64 := ha
  try dsimp only [cxK]
  refine q_when (b := decide ((k : Int) < ns.length)) ?_ (fun c => ?_) fun c => ?_
  · refine evb_test (ev_lt (evp_var rfl) ((evp_cb (eva_cons (evp_var rfl) eva_nil) (rc_len (.scr _))).to (by rw [List.length_map])))
  · have c : (k : Int) < ns.length := of_decide_eq_true c
    have hk : k < ns.length := by omega
    exact t_ret (evp_op (evp_var rfl) (evp_var rfl) (rv_ix (.scr _) (len_ix (List.getElem?_eq_getElem hk)))) fun d e => ⟨_, e.symm⟩
  refine q_asg evp_int ?_
  refine q_forM (l := ns) (enc := .int) (fun pre δ' => ∃ (v : Int) (x : Option Sl), 0 ≤ v ∧ v < 1000003 ∧ δ' = [some (.imm (.scr ns)), some (.imm (.int (k : Int))), some (.imm (.int v)), x]) (evi_sq (evp_var rfl) (.scr _)) ⟨17, _, by decide, by decide, rfl⟩ ?_ ?_
  · rintro pre c _ hp ⟨v, x, h1, h2, rfl⟩
    refine ⟨_, _, evg_name, ?_⟩
    refine t_asg (A := Eq _) (ev_mod (by decide) (ev_int (ev_add (ev_mul (cm40 (by omega) (by omega)) (evp_var rfl) evp_int) (ev_mod (by decide) (ev_int (evp_var rfl)) evp_int))) evp_int) fun d e => ?_
    subst e
    exact ⟨_, _, Int.emod_nonneg _ (by decide), Int.emod_lt_of_pos _ (by decide), rfl⟩
  · rintro _ ⟨v, x, h1, h2, rfl⟩
    refine t_ret (A := Eq _) (ev_mod (by decide) (ev_int (ev_mul (cm40 ?_ (by omega)) (ev_mul (cm40 (by omega) (by omega)) (ev_add (evp_var rfl) evp_int) (ev_add (evp_var rfl) evp_int)) evp_int)) evp_int) fun d e => ⟨_, e.symm⟩
    have a0 : 0 ≤ (v + 7) * ((k : Int) + 3) := Int.mul_nonneg (by omega) (by omega)
    have a1 : (v + 7) * ((k : Int) + 3) ≤ 1000010 * 67 := Int.mul_le_mul (by omega) (by omega) (by omega) (by omega)
    omega
abbrev SpRoI (K : PySem.W.Frag) : Sp := SpD K (fun a : Int × Nat => [.int a.1, .int (a.2 : Int)]) (fun a => a.2 ≤ 1000) fun a d => ∃ r, RowR r a.2 ∧ r.length = a.2 ∧ d = roI r
/-- after j entries of a row -/
def RowInv (c : Int) (n j : Nat) (δ' : De) : Prop := ∃ (r : List Int) (v w : Int) (x y : Option Sl), 0 ≤ v ∧ v < 2147483647 ∧ r.length = j ∧ (∀ i ∈ r, 0 ≤ i ∧ i < 60) ∧ δ' = [some (.imm (.int c)), some (.imm (.int (n : Int))), some (.ol (r.map .int)), some (.imm (.int w)), some (.imm (.int v)), x, y]
theorem ok_law_row (T : Tx P K mg base) : Cal P w K mg base 36 "_law_row" ["_law_cell_here", "_law_many_here"] [] (SpRoI K) := by
  refine cal_of (k := 35) T.d_law_row scLawRow (fun _ => rfl) (fun _ _ _ _ _ _ us hl => match us, hl with | [_, _], _ => rfl) fun cdv f A outer s H Q E hr => ?_
  have hu := hu_of hr
  have hB := big_of (f := f) (cd := cdv) (A := A) (outer := outer) (s := s) (H := H) (E := E) (w := w) (mg := mg) T scLawRow hr
  refine ⟨_, (pss_cons (ps_set (i := 2) scLawRow.nd rfl (Or.inl rfl) (pe_lst pa_nil))
  (pss_cons (ps_set (i := 3) scLawRow.nd rfl (Or.inl rfl) (pe_op op_sub (pe_callTy cr_int (by rfl) T.n_int (by decide +kernel) (pa_cons (pv 0) pa_nil)) (pe_op op_pow pe_int pe_int)))
  (pss_cons (ps_set (i := 4) scLawRow.nd rfl (Or.inl rfl) (pe_op op_mod (pe_callTy cr_int (by rfl) T.n_int (by decide +kernel) (pa_cons (pv 0) pa_nil)) pe_int))
  (pss_cons (ps_for PassesOwn.never rfl (pi_range1 rfl T.n_range (pa_cons (pv 1) pa_nil)) (pg_name (i := 5) scLawRow.nd rfl (Or.inl rfl)) (pss_cons (ps_set (i := 4) scLawRow.nd rfl (Or.inl rfl) (pe_op op_mod (pe_callTy cr_int (by rfl) T.n_int (by decide +kernel) (pa_cons (pe_op op_add (pe_op op_add (pe_op op_mulH (pv 4) pe_int) (pe_op op_mulH pe_int (pv 5))) pe_int) pa_nil)) pe_int))
  (pss_cons (ps_set (i := 6) scLawRow.nd rfl (Or.inl rfl) (pe_op (op_fdivB hB) (pe_op op_mod (pe_callTy cr_int (by rfl) T.n_int (by decide +kernel) (pa_cons (pe_op op_mulH (pv 4) (pe_op op_add (pe_op (op_fdivB hB) (pv 4) pe_int) pe_int)) pa_nil)) pe_int) pe_int))
  (pss_cons (ps_if (pt_cmpR op_ge (pv 0) (pe_op op_pow pe_int pe_int) (nomark _)) (pss_cons (ps_set (i := 6) scLawRow.nd rfl (Or.inl rfl) (pv 3))
  (pss_one (ps_set (i := 3) scLawRow.nd rfl (Or.inl rfl) (pe_op (op_fdivB hB) (pv 3) pe_int)))) pss_nil)
  (pss_one (ps_expr (pe_bm PySem.F.plainAttrs_list PySem.F.slot_list_append PySem.F.type_list_append mt_append (pv 2) (pa_cons (pe_op op_mod (pe_callTy cr_int (by rfl) T.n_int (by decide +kernel) (pa_cons (pv 6) pa_nil)) pe_int) pa_nil))))))))
  (pss_one (ps_ret (pv 2))))))), fun a ha => ?_⟩
  obtain ⟨c, n⟩ := a
  have ha : n ≤ 1000 := ha
  try dsimp only [cxK]
  refine q_asgOL eo_nil ?_
  refine q_asg (ev_sub (ev_int (evp_var rfl)) (ev_pow (by decide) (by decide) evp_int evp_int)) ?_
  refine q_asg (ev_mod (by decide) (ev_int (evp_var rfl)) evp_int) ?_
  refine q_forM (l := List.range n) (enc := fun k : Nat => .int (k : Int)) (fun pre δ' => RowInv c n pre.length δ')
    (evi_rangeN (eva_cons (evp_var rfl) eva_nil) (by omega)) ⟨[], c % 2147483629, _, _, _, Int.emod_nonneg _ (by decide), by have := Int.emod_lt_of_pos c (b := 2147483629) (by decide); omega, rfl, (fun i h => nomatch h), rfl⟩ ?_ ?_
  · rintro pre k _ hp ⟨r, v, w, x, y, h1, h2, h3, h4, rfl⟩
    have hk : k < n := List.mem_range.mp (pre_mem hp)
    have hpl : pre.length < n := by
      have := hp.length_le
      rw [List.length_append, List.length_singleton, List.length_range] at this
      omega
    refine ⟨_, _, evg_name, ?_⟩
    refine q_asg (ev_mod (by decide) (ev_int (ev_add (ev_add (ev_mul (cm40 (by omega) (by omega)) (evp_var rfl) evp_int) (ev_mul (cm40 (by omega) (by omega)) evp_int (evp_var rfl))) evp_int)) evp_int) ?_
    generalize hv : (v * 48271 + 974711 * (k : Int) + 12345) % 2147483647 = v2
    have g1 : 0 ≤ v2 := by rw [← hv]; exact Int.emod_nonneg _ (by decide)
    have g2 : v2 < 2147483647 := by rw [← hv]; exact Int.emod_lt_of_pos _ (by decide)
    refine q_asg (ev_div (by decide) (ev_mod (by decide) (ev_int (ev_mul (cm40 (by omega) (by omega)) (evp_var rfl) (ev_add (ev_div (by decide) (evp_var rfl) evp_int) evp_int))) evp_int) evp_int) ?_
    have fin : ∀ (dg w2 : Int) (x : Option Sl) (Pq : Pt), (∀ δ', RowInv c n (pre ++ [k]).length δ' → Pq.nx δ') → Tf.T K none (tDrop (tBM K "list" rAppend (tVar 2) (tCons (tOp (rI (fun x j => 0 < j) fun i j => V.int (i % j)) (tCB rInt (tCons (tVar 6) tNil)) (tC (V.int 60))) tNil))) [some (.imm (.int c)), some (.imm (.int (n : Int))), some (.ol (r.map .int)), some (.imm (.int w2)), some (.imm (.int v2)), x, some (.imm (.int dg))] Pq := fun dg w2 x Pq hq => by
      refine t_app (i := 2) (ds := r.map .int) rfl (A := Eq _) (ev_mod (by decide) (ev_int (evp_var rfl)) evp_int) (by rw [List.length_map]; omega) fun d e => ?_
      subst e
      refine hq _ ⟨r ++ [dg % 60], v2, w2, _, _, g1, g2, by rw [List.length_append, List.length_append, h3]; rfl, fun i hi => ?_, by rw [List.map_append]; rfl⟩
      rcases List.mem_append.mp hi with h | h
      · exact h4 i h
      · rw [List.mem_singleton.mp h]
        exact ⟨Int.emod_nonneg _ (by decide), Int.emod_lt_of_pos _ (by decide)⟩
    refine q_when (b := decide ((10 : Int) ^ (18 : Int).toNat ≤ c)) (evb_test (ev_ge (evp_var rfl) (ev_pow (by decide) (by decide) evp_int evp_int))) (fun _ => ?_) fun _ => fin _ _ _ _ fun _ h => h
    refine q_asg (evp_var rfl) ?_
    refine t_asg (A := Eq _) (ev_div (by decide) (evp_var rfl) evp_int) fun d e => ?_
    subst e
    exact fin _ _ _ _ fun _ h => h
  · rintro _ ⟨r, v, w, x, y, h1, h2, h3, h4, rfl⟩
    rw [List.length_range] at h3
    exact t_freeze 2 rfl rfl (t_ret (A := Eq _) (evp_var rfl) fun d e => ⟨r, ⟨by omega, h4⟩, h3, e.symm⟩)
abbrev SpNum (K : PySem.W.Frag) : Sp := SpD K (fun a : List Int × Nat × Nat => [roI a.1, .int (a.2.1 : Int), .int (a.2.2 : Int)]) (fun a => RowR a.1 (a.2.1 + a.2.2) ∧ a.2.2 ≤ 20) fun a d => ∃ i, d = .int i ∧ 0 ≤ i ∧ i < 60 ^ a.2.2
theorem ok_law_number (T : Tx P K mg base) : Cal P w K mg base 36 "_law_number" ["_law_row_here", "_law_at", "_law_many_here"] [] (SpNum K) := by
  refine cal_of (k := 35) T.d_law_number scLawNumber (fun _ => rfl) (fun _ _ _ _ _ _ us hl => match us, hl with | [_, _, _], _ => rfl) fun cdv f A outer s H Q E hr => ?_
  have hu := hu_of hr
  refine ⟨_, (pss_cons (ps_set (i := 3) scLawNumber.nd rfl (Or.inl rfl) pe_int)
  (pss_cons (ps_for PassesOwn.never rfl (pi_range1 rfl T.n_range (pa_cons (pv 2) pa_nil)) (pg_name (i := 4) scLawNumber.nd rfl (Or.inl rfl)) (pss_one (ps_set (i := 3) scLawNumber.nd rfl (Or.inl rfl) (pe_op op_add (pe_op op_mulH (pv 3) pe_int) (pe_ix (ixK (K := K)) (pv 0) (pe_op op_sub (pe_op op_sub (pe_op op_add (pv 1) (pv 2)) pe_int) (pv 4)) (fun _ _ => rfl))))))
  (pss_one (ps_ret (pv 3))))), fun a ha => ?_⟩
  obtain ⟨r, p, n⟩ := a
  obtain ⟨h1, h2⟩ := ha
  have h1 : RowR r (p + n) := h1
  have h2 : n ≤ 20 := h2
  try dsimp only [cxK]
  refine q_asg evp_int ?_
  refine q_forM (l := List.range n) (enc := fun k : Nat => .int (k : Int)) (fun pre δ' => ∃ (v : Int) (x : Option Sl), 0 ≤ v ∧ v < 60 ^ pre.length ∧ δ' = [some (.imm (roI r)), some (.imm (.int (p : Int))), some (.imm (.int (n : Int))), some (.imm (.int v)), x])
    (evi_rangeN (eva_cons (evp_var rfl) eva_nil) (by omega)) ⟨0, _, by decide, by decide, rfl⟩ ?_ ?_
  · rintro pre k _ hp ⟨v, x, g1, g2, rfl⟩
    have hk : k < n := List.mem_range.mp (pre_mem hp)
    have hpl : pre.length < n := by
      have := hp.length_le
      rw [List.length_append, List.length_singleton, List.length_range] at this
      omega
    have hv : (60 : Int) ^ pre.length ≤ 60 ^ 20 := by
      have h := Nat.pow_le_pow_right (n := 60) (by decide) (show pre.length ≤ 20 by omega)
      have e : ((60 ^ pre.length : Nat) : Int) = (60 : Int) ^ pre.length := by simp
      omega
    obtain ⟨_, r1, r2⟩ := h1.at (k := p + n - 1 - k) (by omega)
    refine ⟨_, _, evg_name, ?_⟩
    refine t_asg (A := Eq _) (ev_add (ev_mul (cm (n := 200) (k := 10) ⟨by omega, by omega⟩ (by decide) (by decide)) (evp_var rfl) evp_int) (ev_row (k := p + n - 1 - k) h1 (by omega) (evp_var rfl) ((ev_sub (ev_sub (ev_add (evp_var rfl) (evp_var rfl)) evp_int) (evp_var rfl)).to (by congr 1; omega)))) fun d e => ?_
    subst e
    refine ⟨_, _, by omega, ?_, rfl⟩
    rw [List.length_append, List.length_singleton, Int.pow_succ]
    omega
  · rintro _ ⟨v, x, g1, g2, rfl⟩
    rw [List.length_range] at g2
    exact t_ret (A := Eq _) (evp_var rfl) fun d e => ⟨v, e.symm, g1, g2⟩
end
end Tf
/-! text TfAG -/
/-! the builders of the systems, walked: words, addresses -/
namespace Tf
open PySem PySem.Spec PyProof.Rows L2
local macro_rules | `(tactic| walk_at "ev1") => `(tactic| first
  | with_reducible exact evp_int | with_reducible exact evp_bl | with_reducible exact evp_str | with_reducible exact evp_non | with_reducible exact evp_gamA | with_reducible exact evp_gam | (with_reducible apply evp_var; (with_unfolding_all exact rfl))
  | with_reducible exact eva_nil | with_reducible apply eva_cons
  | with_reducible apply evp_op | (with_reducible apply evp_un (hr := ru_int)) | with_reducible apply evp_cb
  | with_reducible apply evp_tup' | (with_reducible show List.length _ ≤ 100000; simp; done)
  | with_reducible exact rv_int | with_reducible exact rv_bl | with_reducible apply rv_intC | with_reducible exact rv_eq (.int _ _) | with_reducible exact rv_ne (.int _ _)
  | (with_reducible apply rv_ix; (first | (with_unfolding_all exact Sq.tup _) | (with_unfolding_all exact Sq.lst _) | (with_reducible apply Sqx.sq; with_reducible assumption)); (with_unfolding_all exact rfl))
  | with_reducible exact rc_gcd
  | with_reducible exact rc_tupA | with_reducible exact rc_tupM
  | (with_reducible apply rc_tup; (first | (with_unfolding_all exact Sq.tup _) | (with_unfolding_all exact Sq.lst _) | (with_reducible apply Sqx.sq; with_reducible assumption)))
  | (with_reducible apply rc_lst; (first | (with_unfolding_all exact Sq.tup _) | (with_unfolding_all exact Sq.lst _) | (with_reducible apply Sqx.sq; with_reducible assumption)))
  | (with_reducible apply rc_len; (first | (with_unfolding_all exact Sq.tup _) | (with_unfolding_all exact Sq.lst _) | (with_reducible apply Sqx.sq; with_reducible assumption)))
  | with_reducible apply rv_cat
  | with_reducible exact evb_yes
  | with_reducible apply evb_test | with_reducible apply evb_B | with_reducible apply evb_not | with_reducible apply evb_and | with_reducible apply evb_or | with_reducible apply evp_and | with_reducible apply evp_or | with_reducible apply evp_not
  | (with_reducible refine fun _ => ?_))
local macro_rules | `(tactic| walk_at "ev") => `(tactic| repeat' walk_at "ev1")
theorem getD_some {α : Type} {l : List α} {n : Nat} (h : n < l.length) (d : α) : l[n]? = some (l.getD n d) := by
  rw [List.getD_eq_getElem?_getD, List.getElem?_eq_getElem h]; rfl
theorem getD_mem {α : Type} {l : List α} {n : Nat} (h : n < l.length) (d : α) : l.getD n d ∈ l := List.mem_of_getElem? (getD_some h d)
/-! ### words -/
def sgn : Str := Str.ofString "abcdefghijklmnopqrstuvwxyz0123456789"
theorem sgn_len : sgn.cps.toList.length = 36 := by decide +kernel
theorem sgn_ok : ∀ c ∈ sgn.cps.toList, c < 0x110000 := by
  have h : (sgn.cps.toList.all fun c => decide (c < 0x110000)) = true := by decide +kernel
  intro c hc
  exact of_decide_eq_true (List.all_eq_true.mp h c hc)
theorem sgn_at {k : Nat} (h : k < 36) : ∃ c, L2.atI sgn.cps.toList (k : Int) = some c ∧ c < 0x110000 := by
  have hl : k < sgn.cps.toList.length := by rw [sgn_len]; exact h
  have e := List.getElem?_eq_getElem hl
  refine ⟨_, ?_, sgn_ok _ (List.getElem_mem hl)⟩
  unfold L2.atI ixN
  rw [if_pos (by omega), if_pos (by omega)]
  show sgn.cps.toList[(k : Int).toNat]? = _
  rw [Int.toNat_natCast]
  exact e
structure WordOk (w : Str) (n : Nat) : Prop where
  ok : PyData.strOk w = true
  lo : 1 ≤ w.length
  hi : w.length ≤ n
theorem str_len (a b : Str) : (a ++ b).length = a.length + b.length := by
  show (a.cps ++ b.cps).size = _
  rw [Array.size_append]; rfl
theorem str_ok {a b : Str} (ha : PyData.strOk a = true) (hb : PyData.strOk b = true) : PyData.strOk (a ++ b) = true := by
  unfold PyData.strOk at *
  show (a.cps ++ b.cps).all _ = true
  rw [Array.all_append, ha, hb]
  rfl
theorem WordOk.app {a b : Str} {n k : Nat} (ha : WordOk a n) (hb : WordOk b k) : WordOk (a ++ b) (n + k) := ⟨str_ok ha.ok hb.ok, by have := ha.lo; rw [str_len]; omega, by have := ha.hi; have := hb.hi; rw [str_len]; omega⟩
theorem word_one {c : Nat} (h : c < 0x110000) : WordOk ⟨#[c]⟩ 1 := ⟨by unfold PyData.strOk; simp [h], Nat.le_refl _, Nat.le_refl _⟩
section
variable {P : Program} {w : World} {K : PySem.W.Frag} {mg : Str → Option Value} {base : Heap}
/-- a letter out of the signs -/
theorem ev_sgn {m : Option LkM} {δ : De} {ta tb : TE} {v : Int} (e1 : EvP K m ta δ (Eq (.str sgn))) (e2 : EvP K m tb δ (Eq (.int v))) (h : 0 ≤ v ∧ v < 36) : EvP K m (tOp (rIx K) ta tb) δ (fun d => ∃ u, d = .str u ∧ WordOk u 1) := by
  obtain ⟨c, h1, h2⟩ := sgn_at (k := v.toNat) (by omega)
  have ev : ((v.toNat : Nat) : Int) = v := by omega
  rw [ev] at h1
  have hl : sgn.length ≤ 100000 := by
    show sgn.cps.size ≤ 100000
    have := sgn_len
    rw [Array.length_toList] at this
    omega
  exact (evp_op e1 e2 (rv_ixS hl h1)).imp fun d e => ⟨_, e.symm, word_one h2⟩
abbrev SpWrd (K : PySem.W.Frag) : Sp := SpD K (fun a : List Int × Nat × Nat × Nat => [roI a.1, .int (a.2.1 : Int), .int (a.2.2.1 : Int), .int (a.2.2.2 : Int)]) (fun a => RowR a.1 (a.2.1 + a.2.2.1) ∧ 1 ≤ a.2.2.1 ∧ a.2.2.1 ≤ 20 ∧ 1 ≤ a.2.2.2 ∧ a.2.2.2 ≤ 36) fun a d => ∃ u, d = .str u ∧ WordOk u 20
theorem ok_law_word (T : Tx P K mg base) : Cal P w K mg base 36 "_law_word" ["_law_row_here", "_law_at", "_law_size", "_law_few"] [] (SpWrd K) := by
  refine cal_of (k := 35) T.d_law_word scLawWord (fun _ => rfl) (fun _ _ _ _ _ _ us hl => match us, hl with | [_, _, _, _], _ => rfl) fun cdv f A outer s H Q E hr => ?_
  have hu := hu_of hr
  refine ⟨_, (pss_cons (ps_set (i := 4) scLawWord.nd rfl (Or.inl rfl) pe_str)
  (pss_cons (ps_set (i := 5) scLawWord.nd rfl (Or.inl rfl) (pe_ix (ixK (K := K)) (pv 4) (pe_op op_mod (pe_ix (ixK (K := K)) (pv 0) (pv 1) (fun _ _ => rfl)) (pv 3)) (fun _ _ => rfl)))
  (pss_cons (ps_for PassesOwn.never rfl (pi_range1 rfl T.n_range (pa_cons (pe_op op_sub (pv 2) pe_int) pa_nil)) (pg_name (i := 6) scLawWord.nd rfl (Or.inl rfl)) (pss_one (ps_set (i := 5) scLawWord.nd rfl (Or.inl rfl) (pe_op op_catS (pv 5) (pe_ix (ixK (K := K)) (pv 4) (pe_op op_mod (pe_ix (ixK (K := K)) (pv 0) (pe_op op_add (pe_op op_add (pv 1) pe_int) (pv 6)) (fun _ _ => rfl)) pe_int) (fun _ _ => rfl))))))
  (pss_one (ps_ret (pv 5)))))), fun a ha => ?_⟩
  obtain ⟨r, p, n, q⟩ := a
  obtain ⟨h1, h2, h3, h4, h5⟩ := ha
  have h1 : RowR r (p + n) := h1
  have h2 : 1 ≤ n := h2
  have h3 : n ≤ 20 := h3
  have h4 : 1 ≤ q := h4
  have h5 : q ≤ 36 := h5
  try dsimp only [cxK]
  refine q_asg (d := .str sgn) evp_str ?_
  obtain ⟨_, r1, r2⟩ := h1.at (k := p) (by omega)
  have m1 := Int.emod_nonneg (rget r p) (b := (q : Int)) (by omega)
  have m2 := Int.emod_lt_of_pos (rget r p) (b := (q : Int)) (by omega)
  refine q_asgP (ev_sgn (evp_var rfl) (ev_mod (by omega) (ev_row h1 (by omega) (evp_var rfl) (evp_var rfl)) (evp_var rfl)) ⟨m1, by omega⟩) fun d hd => ?_
  obtain ⟨u, rfl, hu1⟩ := hd
  refine q_forM (l := List.range (n - 1)) (enc := fun k : Nat => .int (k : Int)) (fun pre δ' => ∃ (u : Str) (x : Option Sl), WordOk u (1 + pre.length) ∧ δ' = [some (.imm (roI r)), some (.imm (.int (p : Int))), some (.imm (.int (n : Int))), some (.imm (.int (q : Int))), some (.imm (.str sgn)), some (.imm (.str u)), x])
    (evi_rangeN (eva_cons ((ev_sub (evp_var rfl) evp_int).to (by congr 1; omega)) eva_nil) (by omega)) ⟨u, _, hu1, rfl⟩ ?_ ?_
  · rintro pre k _ hp ⟨u, x, g1, rfl⟩
    have hk := List.mem_range.mp (pre_mem hp)
    have hpl : pre.length < n - 1 := by
      have := hp.length_le
      rw [List.length_append, List.length_singleton, List.length_range] at this
      omega
    obtain ⟨_, r1, r2⟩ := h1.at (k := p + 1 + k) (by omega)
    refine ⟨_, _, evg_name, ?_⟩
    refine t_asg (A := fun d => ∃ u, d = .str u ∧ WordOk u (1 + (pre ++ [k]).length)) ?_ fun d hd => ?_
    · refine evp_opP (evp_var (d := .str u) rfl) (ev_sgn (v := rget r (p + 1 + k) % 36) (evp_var rfl) (ev_mod (by decide) (ev_row (k := p + 1 + k) h1 (by omega) (evp_var rfl) ((ev_add (ev_add (evp_var rfl) evp_int) (evp_var rfl)).to (by congr 1))) evp_int) ⟨Int.emod_nonneg _ (by decide), Int.emod_lt_of_pos _ (by decide)⟩) fun a b ea eb => ?_
      subst ea
      obtain ⟨v, rfl, hv⟩ := eb
      have e : RV K rCatS (.str u) (.str v) (Eq (.str (u ++ v))) := rv_catS (by have := g1.hi; have := hv.hi; omega)
      intro Hs H v1 v2 s1 t1 t2 Q k1
      refine e Hs H v1 v2 s1 t1 t2 Q fun z H' Hs' d x t p => k1 z H' Hs' d x t ?_
      refine ⟨_, p.symm, ?_⟩
      have := g1.app hv
      rwa [List.length_append, List.length_singleton, ← Nat.add_assoc]
    · obtain ⟨v, rfl, hv⟩ := hd
      exact ⟨v, _, hv, rfl⟩
  · rintro _ ⟨u, x, g1, rfl⟩
    rw [List.length_range] at g1
    exact t_ret (A := Eq _) (evp_var rfl) fun d e => ⟨u, e.symm, g1.ok, g1.lo, Nat.le_trans g1.hi (by omega)⟩
/-! ### addresses -/
def menuA (a o n f : Str) : List Ad := [[a], [a, n], [a ++ n], [a, n, f], [a, n ++ f], [o], [o, f], [a, f], [a ++ n, f]]
theorem steps9 : ∀ s ∈ [1, 2, 4, 5, 7, 8], ∀ b, b < 9 → ∀ c, c < 9 → ∃ k, k < 9 ∧ (b + k * s) % 9 = c := by decide
structure AdsOk (l : List Ad) : Prop where
  nd : l.Nodup
  ne : ∀ a ∈ l, a ≠ []
  ok : ∀ a ∈ l, AdOk a
  ln : ∀ a ∈ l, a.length ≤ 1000
theorem adOk1 {a : Str} {n : Nat} (h : WordOk a n) {l : Ad} (hl : AdOk l) : AdOk (a :: l) := fun s hs => by
  rcases List.mem_cons.mp hs with e | e
  · rw [e]; exact h.ok
  · exact hl s e
theorem adOk0 : AdOk [] := fun s hs => nomatch hs
theorem menu_ok {a o n f : Str} {k : Nat} (ha : WordOk a k) (ho : WordOk o k) (hn : WordOk n k) (hf : WordOk f k) : ∀ x ∈ menuA a o n f, AdOk x ∧ x ≠ [] ∧ x.length ≤ 1000 := by
  intro x hx
  unfold menuA at hx
  simp only [List.mem_cons, List.not_mem_nil, or_false] at hx
  rcases hx with h | h | h | h | h | h | h | h | h <;> subst h
  · exact ⟨adOk1 ha adOk0, by simp, by show _ + 1 ≤ 1000; simp⟩
  · exact ⟨adOk1 ha (adOk1 hn adOk0), by simp, by show _ + 1 ≤ 1000; simp⟩
  · exact ⟨adOk1 (ha.app hn) adOk0, by simp, by show _ + 1 ≤ 1000; simp⟩
  · exact ⟨adOk1 ha (adOk1 hn (adOk1 hf adOk0)), by simp, by show _ + 1 ≤ 1000; simp⟩
  · exact ⟨adOk1 ha (adOk1 (hn.app hf) adOk0), by simp, by show _ + 1 ≤ 1000; simp⟩
  · exact ⟨adOk1 ho adOk0, by simp, by show _ + 1 ≤ 1000; simp⟩
  · exact ⟨adOk1 ho (adOk1 hf adOk0), by simp, by show _ + 1 ≤ 1000; simp⟩
  · exact ⟨adOk1 ha (adOk1 hf adOk0), by simp, by show _ + 1 ≤ 1000; simp⟩
  · exact ⟨adOk1 (ha.app hn) (adOk1 hf adOk0), by simp, by show _ + 1 ≤ 1000; simp⟩
theorem menu_four {a o n f : Str} {k : Nat} (hn : WordOk n k) : [[a], [a ++ n], [a, n], [a, n, f]].Nodup := by
  have : a ≠ a ++ n := fun e => by
    have h1 := congrArg Str.length e
    have h2 := hn.lo
    rw [str_len] at h1
    omega
  simp [this]
abbrev SpAds (K : PySem.W.Frag) : Sp := SpD K (fun a : List Int => [roI a]) (fun a => RowR a 30) fun a d => ∃ l : List Ad, d = .lst (l.map adr) ∧ AdsOk l ∧ 4 ≤ l.length ∧ l.length ≤ 9
theorem ok_law_addresses (T : Tx P K mg base) (C_law_word : Cal P w K mg base 36 "_law_word" ["_law_row_here", "_law_at", "_law_size", "_law_few"] [] (SpWrd K)) : Cal P w K mg base 37 "_law_addresses" ["_law_row_here"] [] (SpAds K) := by
  refine cal_of (k := 36) T.d_law_addresses scLawAddresses (fun _ => rfl) (fun _ _ _ _ _ _ us hl => match us, hl with | [_], _ => rfl) fun cdv f A outer s H Q E hr => ?_
  have hu := hu_of hr
  refine ⟨_, (pss_cons (ps_set (i := 1) scLawAddresses.nd rfl (Or.inl rfl) (pe_cal C_law_word hr (by rfl) (pa_cons (pv 0) (pa_cons pe_int (pa_cons (pe_op op_add pe_int (pe_op op_mod (pe_ix (ixK (K := K)) (pv 0) pe_int (fun _ _ => rfl)) pe_int)) (pa_cons pe_int pa_nil))))))
  (pss_cons (ps_set (i := 2) scLawAddresses.nd rfl (Or.inl rfl) (pe_cal C_law_word hr (by rfl) (pa_cons (pv 0) (pa_cons pe_int (pa_cons (pe_op op_add pe_int (pe_op op_mod (pe_ix (ixK (K := K)) (pv 0) pe_int (fun _ _ => rfl)) pe_int)) (pa_cons pe_int pa_nil))))))
  (pss_cons (ps_set (i := 3) scLawAddresses.nd rfl (Or.inl rfl) (pe_cal C_law_word hr (by rfl) (pa_cons (pv 0) (pa_cons pe_int (pa_cons (pe_op op_add pe_int (pe_op op_mod (pe_ix (ixK (K := K)) (pv 0) pe_int (fun _ _ => rfl)) pe_int)) (pa_cons pe_int pa_nil))))))
  (pss_cons (ps_set (i := 4) scLawAddresses.nd rfl (Or.inl rfl) (pe_cal C_law_word hr (by rfl) (pa_cons (pv 0) (pa_cons pe_int (pa_cons (pe_op op_add pe_int (pe_op op_mod (pe_ix (ixK (K := K)) (pv 0) pe_int (fun _ _ => rfl)) pe_int)) (pa_cons pe_int pa_nil))))))
  (pss_cons (ps_set (i := 5) scLawAddresses.nd rfl (Or.inl rfl) (pe_lst (pa_cons (pe_tup (pa_cons (pv 1) pa_nil)) (pa_cons (pe_tup (pa_cons (pv 1) (pa_cons (pv 3) pa_nil))) (pa_cons (pe_tup (pa_cons (pe_op op_catS (pv 1) (pv 3)) pa_nil)) (pa_cons (pe_tup (pa_cons (pv 1) (pa_cons (pv 3) (pa_cons (pv 4) pa_nil)))) (pa_cons (pe_tup (pa_cons (pv 1) (pa_cons (pe_op op_catS (pv 3) (pv 4)) pa_nil))) (pa_cons (pe_tup (pa_cons (pv 2) pa_nil)) (pa_cons (pe_tup (pa_cons (pv 2) (pa_cons (pv 4) pa_nil))) pa_nil)))))))))
  (pss_cons (ps_set (i := 5) scLawAddresses.nd rfl (Or.inl rfl) (pe_op op_cat (pv 5) (pe_lst (pa_cons (pe_tup (pa_cons (pv 1) (pa_cons (pv 4) pa_nil))) (pa_cons (pe_tup (pa_cons (pe_op op_catS (pv 1) (pv 3)) (pa_cons (pv 4) pa_nil))) pa_nil)))))
  (pss_cons (ps_set (i := 6) scLawAddresses.nd rfl (Or.inl rfl) (pe_lst pa_nil))
  (pss_cons (ps_for PassesOwn.never rfl (pi_range1 rfl T.n_range (pa_cons pe_int pa_nil)) (pg_name (i := 7) scLawAddresses.nd rfl (Or.inl rfl)) (pss_cons (ps_set (i := 8) scLawAddresses.nd rfl (Or.inl rfl) (pe_ix (ixK (K := K)) (pv 5) (pe_op op_mod (pe_op op_add (pe_ix (ixK (K := K)) (pv 0) pe_int (fun _ _ => rfl)) (pe_op op_mulH (pv 7) (pe_ix (ixK (K := K)) (pe_lst (pa_cons pe_int (pa_cons pe_int (pa_cons pe_int (pa_cons pe_int (pa_cons pe_int (pa_cons pe_int pa_nil))))))) (pe_op op_mod (pe_ix (ixK (K := K)) (pv 0) pe_int (fun _ _ => rfl)) pe_int) (fun _ _ => rfl)))) pe_int) (fun _ _ => rfl)))
  (pss_one (ps_if (pt_cmpR (op_notInX (K := K) hr) (pv 8) (pv 6) (by rfl)) (pss_one (ps_expr (pe_bm PySem.F.plainAttrs_list PySem.F.slot_list_append PySem.F.type_list_append mt_append (pv 6) (pa_cons (pv 8) pa_nil)))) pss_nil))))
  (pss_one (ps_ret (pv 6))))))))))), fun r ha => ?_⟩
  have ha : RowR r 30 := ha
  try dsimp only [cxK]
  have word : ∀ {δ : De} (p c q z : Nat), δ[0]? = some (some (.imm (roI r))) → p + z ≤ 30 → c < 30 → 1 ≤ z → z ≤ 10 → 1 ≤ q → q ≤ 36 → EvP K none (tCall (SpWrd K) [] E0 (tCons (tVar 0) (tCons (tC (.int (p : Int))) (tCons (tOp (rI0 fun i j => .int (i + j)) (tC (.int 1)) (tOp (rI (fun _ j => 0 < j) fun i j => .int (i % j)) (tOp (rIx K) (tVar 0) (tC (.int (c : Int)))) (tC (.int (z : Int))))) (tCons (tC (.int (q : Int))) tNil))))) δ (fun d => ∃ u, d = .str u ∧ WordOk u 20) := fun {δ} p c q z e0 hp hc hz1 hz2 hq1 hq2 => by
    obtain ⟨_, r1, r2⟩ := ha.at hc
    have m1 := Int.emod_nonneg (rget r c) (b := (z : Int)) (by omega)
    have m2 := Int.emod_lt_of_pos (rget r c) (b := (z : Int)) (by omega)
    refine evp_call (r, p, 1 + (rget r c % (z : Int)).toNat, q) (eva_cons (evp_var e0) (eva_cons evp_int (eva_cons ((ev_add evp_int (ev_mod (by omega) (ev_rowC c ha hc (evp_var e0)) evp_int)).to (by show Dat.int _ = Dat.int ((1 + (rget r c % (z : Int)).toNat : Nat) : Int); congr 1; omega)) (eva_cons evp_int eva_nil)))) ⟨⟨?_, ha.rg⟩, ?_, ?_, hq1, hq2⟩
    · have := ha.len
      show p + (1 + (rget r c % (z : Int)).toNat) ≤ r.length
      omega
    · show 1 ≤ 1 + (rget r c % (z : Int)).toNat
      omega
    · show 1 + (rget r c % (z : Int)).toNat ≤ 20
      omega
  refine q_asgP (word 0 10 26 10 rfl (by decide) (by decide) (by decide) (by decide) (by decide) (by decide)) fun d hd => ?_
  obtain ⟨wa, rfl, ha1⟩ := hd
  refine q_asgP (word 11 21 26 10 rfl (by decide) (by decide) (by decide) (by decide) (by decide) (by decide)) fun d hd => ?_
  obtain ⟨wo, rfl, ho1⟩ := hd
  refine q_asgP (word 22 24 36 2 rfl (by decide) (by decide) (by decide) (by decide) (by decide) (by decide)) fun d hd => ?_
  obtain ⟨wn, rfl, hn1⟩ := hd
  refine q_asgP (word 25 27 36 2 rfl (by decide) (by decide) (by decide) (by decide) (by decide) (by decide)) fun d hd => ?_
  obtain ⟨wf, rfl, hf1⟩ := hd
  have cat : ∀ {δ : De} {i j : Nat} {x y : Str}, δ[i]? = some (some (.imm (.str x))) → δ[j]? = some (some (.imm (.str y))) → WordOk x 20 → WordOk y 20 → EvP K none (tOp rCatS (tVar i) (tVar j)) δ (Eq (.str (x ++ y))) := fun e1 e2 h1 h2 => evp_op (evp_var e1) (evp_var e2) (rv_catS (by have := h1.hi; have := h2.hi; omega))
  have t1 : ∀ {δ : De} {ta : TE} {x : Str}, EvP K none ta δ (Eq (.str x)) → EvP K none (tTup (tCons ta tNil)) δ (Eq (adr [x])) := fun e1 => evp_tup' (eva_cons e1 eva_nil) (by show 1 ≤ 100000; decide)
  have t2 : ∀ {δ : De} {ta tb : TE} {x y : Str}, EvP K none ta δ (Eq (.str x)) → EvP K none tb δ (Eq (.str y)) → EvP K none (tTup (tCons ta (tCons tb tNil))) δ (Eq (adr [x, y])) := fun e1 e2 => evp_tup' (eva_cons e1 (eva_cons e2 eva_nil)) (by show 2 ≤ 100000; decide)
  have t3 : ∀ {δ : De} {ta tb tc : TE} {x y z : Str}, EvP K none ta δ (Eq (.str x)) → EvP K none tb δ (Eq (.str y)) → EvP K none tc δ (Eq (.str z)) → EvP K none (tTup (tCons ta (tCons tb (tCons tc tNil)))) δ (Eq (adr [x, y, z])) := fun e1 e2 e3 => evp_tup' (eva_cons e1 (eva_cons e2 (eva_cons e3 eva_nil))) (by show 3 ≤ 100000; decide)
  refine q_asg (evp_lst (eva_cons (t1 (evp_var rfl)) (eva_cons (t2 (evp_var rfl) (evp_var rfl)) (eva_cons (t1 (cat rfl rfl ha1 hn1)) (eva_cons (t3 (evp_var rfl) (evp_var rfl) (evp_var rfl)) (eva_cons (t2 (evp_var rfl) (cat rfl rfl hn1 hf1)) (eva_cons (t1 (evp_var rfl)) (eva_cons (t2 (evp_var rfl) (evp_var rfl)) eva_nil))))))) (by show 7 ≤ 100000; decide)) ?_
  refine q_asg (d := .lst ((menuA wa wo wn wf).map adr)) ((evp_op (evp_var rfl) (evp_lst (eva_cons (t2 (evp_var rfl) (evp_var rfl)) (eva_cons (t2 (cat rfl rfl ha1 hn1) (evp_var rfl)) eva_nil)) (by show 2 ≤ 100000; decide)) (rv_cat (by show 9 ≤ 100000; decide))).to rfl) ?_
  refine q_asgOL eo_nil ?_
  obtain ⟨_, r1, r2⟩ := ha.at (k := 28) (by decide)
  obtain ⟨_, r3, r4⟩ := ha.at (k := 29) (by decide)
  have q1 := Int.emod_nonneg (rget r 29) (b := 6) (by decide)
  have q2 := Int.emod_lt_of_pos (rget r 29) (b := 6) (by decide)
  obtain ⟨b, hb⟩ : ∃ b : Nat, rget r 28 = (b : Int) := ⟨(rget r 28).toNat, by omega⟩
  obtain ⟨g, hg⟩ : ∃ g : Nat, rget r 29 % 6 = (g : Int) := ⟨(rget r 29 % 6).toNat, by omega⟩
  have hg6 : g < [1, 2, 4, 5, 7, 8].length := by show g < 6; omega
  have hst : [1, 2, 4, 5, 7, 8].getD g 0 ∈ [1, 2, 4, 5, 7, 8] := getD_mem hg6 0
  have es : [(1 : Int), 2, 4, 5, 7, 8].getD g 0 = (([1, 2, 4, 5, 7, 8].getD g 0 : Nat) : Int) := by
    match g, hg6 with
    | 0, _ => rfl
    | 1, _ => rfl
    | 2, _ => rfl
    | 3, _ => rfl
    | 4, _ => rfl
    | 5, _ => rfl
  generalize hS : [1, 2, 4, 5, 7, 8].getD g 0 = st at hst es
  have est : ([1, 2, 4, 5, 7, 8] : List Int)[g]? = some (st : Int) := by
    rw [← es]
    exact getD_some (show g < ([1, 2, 4, 5, 7, 8] : List Int).length from hg6) 0
  have hst8 : st ≤ 8 := by
    simp only [List.mem_cons, List.not_mem_nil, or_false] at hst
    omega
  let ix : Nat → Ad := fun k => (menuA wa wo wn wf).getD ((b + k * st) % 9) []
  have ixm : ∀ k, (menuA wa wo wn wf)[(b + k * st) % 9]? = some (ix k) := fun k => getD_some (show (b + k * st) % 9 < 9 from Nat.mod_lt _ (by decide)) []
  have mok := menu_ok ha1 ho1 hn1 hf1
  have ixo : ∀ k, AdOk (ix k) ∧ ix k ≠ [] ∧ (ix k).length ≤ 1000 := fun k => mok _ (List.mem_of_getElem? (ixm k))
  refine q_forM (l := List.range 9) (enc := fun k : Nat => .int (k : Int)) (fun pre δ' => ∃ (x y : Option Sl), δ' = [some (.imm (roI r)), some (.imm (.str wa)), some (.imm (.str wo)), some (.imm (.str wn)), some (.imm (.str wf)), some (.imm (.lst ((menuA wa wo wn wf).map adr))), some (.ol ((nubA (pre.map ix)).map adr)), x, y])
    (evi_rangeN (eva_cons evp_int eva_nil) (by decide)) ⟨_, _, rfl⟩ ?_ ?_
  · rintro pre k _ hp ⟨x, y, rfl⟩
    have hk := List.mem_range.mp (pre_mem hp)
    refine ⟨_, _, evg_name, ?_⟩
    refine q_asg (d := adr (ix k)) (ev_ix (f := adr) (ixm k) (evp_var rfl) ((ev_mod (b := 9) (by decide) (ev_add (ev_rowC 28 ha (by decide) (evp_var rfl)) (ev_mul (a := (k : Int)) (b := (st : Int)) (cm40 (by omega) (by omega)) (evp_var rfl) (ev_ix (f := Dat.int) est (evp_lst (eva_cons evp_int (eva_cons evp_int (eva_cons evp_int (eva_cons evp_int (eva_cons evp_int (eva_cons evp_int eva_nil))))))) ((ev_mod (by decide) (ev_rowC 29 ha (by decide) (evp_var rfl)) evp_int).to (by rw [hg]))))) evp_int).to (by
      rw [hb]
      congr 1))) ?_
    have okl : ∀ z ∈ nubA (pre.map ix), AdOk z := fun z hz => by
      obtain ⟨j, _, rfl⟩ := List.mem_map.mp ((nub_mem _ _).mp hz)
      exact (ixo j).1
    have en : nubA ((pre ++ [k]).map ix) = if ix k ∈ nubA (pre.map ix) then nubA (pre.map ix) else nubA (pre.map ix) ++ [ix k] := by
      rw [List.map_append]
      exact nub_app _ _
    rw [en]
    refine t_when (b := !decide (ix k ∈ nubA (pre.map ix))) (evb_test (evp_notInA (ixo k).1 okl (evp_var rfl) (.inl rfl))) (fun c => ?_) fun c => ?_
    · have c : ¬ ix k ∈ nubA (pre.map ix) := by simpa using c
      rw [if_neg c]
      refine t_app (i := 6) rfl (A := Eq (adr (ix k))) (evp_var rfl) ?_ fun d e => ?_
      · rw [List.length_map]
        have h1 := nodup_len (m := pre.map ix) (nub_nodup (pre.map ix)) fun z hz => (nub_mem _ _).mp hz
        have h2 := hp.length_le
        rw [List.length_append, List.length_range] at h2
        rw [List.length_map] at h1
        omega
      · subst e
        rw [List.map_append]
        exact ⟨_, _, rfl⟩
    · have c : ix k ∈ nubA (pre.map ix) := by simpa using c
      rw [if_pos c]
      exact ⟨_, _, rfl⟩
  · rintro _ ⟨x, y, rfl⟩
    refine t_freeze 6 rfl rfl (t_ret (A := Eq _) (evp_var rfl) fun d e => ⟨_, e.symm, ⟨nub_nodup _, fun a h => ?_, fun a h => ?_, fun a h => ?_⟩, ?_, ?_⟩)
    · obtain ⟨j, _, rfl⟩ := List.mem_map.mp ((nub_mem _ _).mp h)
      exact (ixo j).2.1
    · obtain ⟨j, _, rfl⟩ := List.mem_map.mp ((nub_mem _ _).mp h)
      exact (ixo j).1
    · obtain ⟨j, _, rfl⟩ := List.mem_map.mp ((nub_mem _ _).mp h)
      exact (ixo j).2.2
    · have h4 := nodup_len (m := nubA ((List.range 9).map ix)) (menu_four (a := wa) (o := wo) (f := wf) hn1) fun z hz => by
        rw [nub_mem]
        have pick : ∀ c, c < 9 → (menuA wa wo wn wf).getD c [] ∈ (List.range 9).map ix := fun c hc => by
          obtain ⟨k, hk, e⟩ := steps9 st hst (b % 9) (Nat.mod_lt _ (by decide)) c hc
          refine List.mem_map.mpr ⟨k, List.mem_range.mpr hk, ?_⟩
          show (menuA wa wo wn wf).getD ((b + k * st) % 9) [] = _
          rw [← e, Nat.mod_add_mod]
        simp only [List.mem_cons, List.not_mem_nil, or_false] at hz
        rcases hz with h | h | h | h <;> subst h
        · exact pick 0 (by decide)
        · exact pick 2 (by decide)
        · exact pick 1 (by decide)
        · exact pick 3 (by decide)
      exact h4
    · have h1 := nodup_len (m := (List.range 9).map ix) (nub_nodup _) fun z hz => (nub_mem _ _).mp hz
      rwa [List.length_map, List.length_range] at h1
end
end Tf
/-! text TfAH -/
/-! the builders of the systems, walked: amounts, sums -/
namespace Tf
open PySem PySem.Spec PyProof.Rows L2
local macro_rules | `(tactic| walk_at "ev1") => `(tactic| first
  | with_reducible exact evp_int | with_reducible exact evp_bl | with_reducible exact evp_str | with_reducible exact evp_non | with_reducible exact evp_gamA | with_reducible exact evp_gam | (with_reducible apply evp_var; (with_unfolding_all exact rfl))
  | with_reducible exact eva_nil | with_reducible apply eva_cons
  | with_reducible apply evp_op | (with_reducible apply evp_un (hr := ru_int)) | with_reducible apply evp_cb
  | with_reducible apply evp_tup' | (with_reducible show List.length _ ≤ 100000; simp; done)
  | with_reducible exact rv_int | with_reducible exact rv_bl | with_reducible apply rv_intC | with_reducible exact rv_eq (.int _ _) | with_reducible exact rv_ne (.int _ _)
  | (with_reducible apply rv_ix; (first | (with_unfolding_all exact Sq.tup _) | (with_unfolding_all exact Sq.lst _) | (with_reducible apply Sqx.sq; with_reducible assumption)); (with_unfolding_all exact rfl))
  | with_reducible exact rc_gcd
  | with_reducible exact rc_tupA | with_reducible exact rc_tupM
  | (with_reducible apply rc_tup; (first | (with_unfolding_all exact Sq.tup _) | (with_unfolding_all exact Sq.lst _) | (with_reducible apply Sqx.sq; with_reducible assumption)))
  | (with_reducible apply rc_lst; (first | (with_unfolding_all exact Sq.tup _) | (with_unfolding_all exact Sq.lst _) | (with_reducible apply Sqx.sq; with_reducible assumption)))
  | (with_reducible apply rc_len; (first | (with_unfolding_all exact Sq.tup _) | (with_unfolding_all exact Sq.lst _) | (with_reducible apply Sqx.sq; with_reducible assumption)))
  | with_reducible apply rv_cat
  | with_reducible exact evb_yes
  | with_reducible apply evb_test | with_reducible apply evb_B | with_reducible apply evb_not | with_reducible apply evb_and | with_reducible apply evb_or | with_reducible apply evp_and | with_reducible apply evp_or | with_reducible apply evp_not
  | (with_reducible refine fun _ => ?_))
local macro_rules | `(tactic| walk_at "ev") => `(tactic| repeat' walk_at "ev1")
theorem mod_nat (a b : Int) (hb : 0 < b) : ∃ n : Nat, (n : Int) < b ∧ a % b = (n : Int) := by
  have h1 := Int.emod_nonneg a (b := b) (by omega)
  have h2 := Int.emod_lt_of_pos a hb
  exact ⟨(a % b).toNat, by omega, by omega⟩
theorem lt2_of {i : Int} {n : Nat} (h : -(2 ^ n) < i ∧ i < 2 ^ n) : Lt2 i n := by
  unfold Lt2
  have e : ((2 ^ n : Nat) : Int) = (2 : Int) ^ n := by simp
  omega
theorem le2_of {i : Int} {n : Nat} (h : 0 < i ∧ i ≤ 2 ^ n) : i.natAbs ≤ 2 ^ n := by
  have e : ((2 ^ n : Nat) : Int) = (2 : Int) ^ n := by simp
  omega
theorem pz_of {a : Am} {n k : Nat} (h1 : -(2 ^ n) < a.1 ∧ a.1 < 2 ^ n) (h2 : 0 < a.2 ∧ a.2 ≤ 2 ^ k) : Pz n k a := ⟨h2.1, lt2_of h1, le2_of h2⟩
theorem pzA {n k : Nat} {t b : Int} (h1 : -(2 ^ n) < t ∧ t < 2 ^ n) (h2 : 0 < b ∧ b ≤ 2 ^ k) : Pz n k (amt t b) := pz_amt h2.1 (lt2_of h1) (le2_of h2)
section
variable {P : Program} {w : World} {K : PySem.W.Frag} {mg : Str → Option Value} {base : Heap}
abbrev SpGap (K : PySem.W.Frag) : Sp := SpD K (fun a : List Int × Bool => [roI a.1, .bl a.2]) (fun a => RowR a.1 8) fun _ d => ∃ x, d = am x ∧ Pz 6 6 x
theorem ok_law_gap (T : Tx P K mg base) : Cal P w K mg base 36 "_law_gap" ["_law_row_here", "_law_strict"] [] (SpGap K) := by
  refine cal_of (k := 35) T.d_law_gap scLawGap (fun _ => rfl) (fun _ _ _ _ _ _ us hl => match us, hl with | [_, _], _ => rfl) fun cdv f A outer s H Q E hr => ?_
  have hu := hu_of hr
  refine ⟨_, (pss_cons (ps_set (i := 2) scLawGap.nd rfl (Or.inl rfl) (pe_ix (ixK (K := K)) (pe_lst (pa_cons (pe_tup (pa_cons pe_int (pa_cons pe_int pa_nil))) (pa_cons (pe_tup (pa_cons pe_int (pa_cons pe_int pa_nil))) (pa_cons (pe_tup (pa_cons pe_int (pa_cons (pe_op op_add pe_int (pe_op op_mod (pe_ix (ixK (K := K)) (pv 0) pe_int (fun _ _ => rfl)) pe_int)) pa_nil))) (pa_cons (pe_tup (pa_cons (pe_ix (ixK (K := K)) (pv 0) pe_int (fun _ _ => rfl)) (pa_cons pe_int pa_nil))) pa_nil))))) (pe_op op_mod (pe_ix (ixK (K := K)) (pv 0) pe_int (fun _ _ => rfl)) pe_int) (fun _ _ => rfl)))
  (pss_cons (ps_if (PW.pt (pw_and (pt_val (pv 1)) (pw_and1 (pt_cmpR op_eq (pe_ix (ixK (K := K)) (pv 2) pe_int (fun _ _ => rfl)) pe_int (nomark _))))) (pss_one (ps_ret (pe_tup (pa_cons pe_int (pa_cons (pe_op op_add pe_int (pe_ix (ixK (K := K)) (pv 0) pe_int (fun _ _ => rfl))) pa_nil))))) pss_nil)
  (pss_one (ps_ret (pv 2))))), fun a ha => ?_⟩
  obtain ⟨r, st⟩ := a
  have ha : RowR r 8 := ha
  try dsimp only [cxK]
  obtain ⟨_, r1, r2⟩ := ha.at (k := 6) (by decide)
  obtain ⟨_, r3, r4⟩ := ha.at (k := 7) (by decide)
  have m1 := Int.emod_nonneg (rget r 6) (b := 9) (by decide)
  have m2 := Int.emod_lt_of_pos (rget r 6) (b := 9) (by decide)
  obtain ⟨n, n1, n2⟩ := mod_nat (rget r 5) 4 (by decide)
  have hn : n < [((0 : Int), (1 : Int)), (0, 1), (1, 1 + rget r 6 % 9), (rget r 6, 1)].length := by show n < 4; omega
  have hx : Pz 6 6 ([((0 : Int), (1 : Int)), (0, 1), (1, 1 + rget r 6 % 9), (rget r 6, 1)].getD n (0, 1)) := by
    have := getD_mem hn (0, 1)
    simp only [List.mem_cons, List.not_mem_nil, or_false] at this
    rcases this with h | h | h | h <;> rw [h] <;> refine pz_of ⟨?_, ?_⟩ ⟨?_, ?_⟩ <;> simp only [] <;> omega
  refine q_asg (ev_ix (f := am) (getD_some hn (0, 1)) (evp_lst (eva_cons (ev_am evp_int evp_int) (eva_cons (ev_am evp_int evp_int) (eva_cons (ev_am evp_int (ev_add evp_int (ev_mod (by decide) (ev_rowC 6 ha (by decide) (evp_var rfl)) evp_int))) (eva_cons (ev_am (ev_rowC 6 ha (by decide) (evp_var rfl)) evp_int) eva_nil)))) (by show 4 ≤ 100000; decide)) ((ev_mod (by decide) (ev_rowC 5 ha (by decide) (evp_var rfl)) evp_int).to (by rw [n2]))) ?_
  refine q_when (evb_and (evb_B (evp_var rfl)) fun _ => evb_test (ev_eqI (ev_a0 (evp_var rfl)) evp_int)) (fun _ => ?_) fun _ => ?_
  · exact t_ret (A := Eq _) (ev_am evp_int (ev_add evp_int (ev_rowC 7 ha (by decide) (evp_var rfl)))) fun d e => ⟨_, e.symm, pz_of ⟨by show -(2 ^ 6) < (1 : Int); decide, by show (1 : Int) < 2 ^ 6; decide⟩ ⟨by show 0 < 1 + rget r 7; omega, by show 1 + rget r 7 ≤ 2 ^ 6; omega⟩⟩
  · exact t_ret (A := Eq _) (evp_var rfl) fun d e => ⟨_, e.symm, hx⟩
abbrev SpShi (K : PySem.W.Frag) : Sp := SpD K (fun a : List Int => [roI a]) (fun a => RowR a 8) fun _ d => ∃ x, d = am x ∧ Pz 4 4 x
theorem ok_law_shift (T : Tx P K mg base) : Cal P w K mg base 36 "_law_shift" ["_law_row_here"] [] (SpShi K) := by
  refine cal_of (k := 35) T.d_law_shift scLawShift (fun _ => rfl) (fun _ _ _ _ _ _ us hl => match us, hl with | [_], _ => rfl) fun cdv f A outer s H Q E hr => ?_
  have hu := hu_of hr
  refine ⟨_, (pss_one (ps_ret (pe_ix (ixK (K := K)) (pe_lst (pa_cons (pe_tup (pa_cons pe_int (pa_cons pe_int pa_nil))) (pa_cons (pe_tup (pa_cons pe_int (pa_cons (pe_op op_add pe_int (pe_op op_mod (pe_ix (ixK (K := K)) (pv 0) pe_int (fun _ _ => rfl)) pe_int)) pa_nil))) (pa_cons (pe_tup (pa_cons pe_int (pa_cons pe_int pa_nil))) (pa_cons (pe_tup (pa_cons (pe_un un_neg pe_int) (pa_cons (pe_op op_add pe_int (pe_op op_mod (pe_ix (ixK (K := K)) (pv 0) pe_int (fun _ _ => rfl)) pe_int)) pa_nil))) (pa_cons (pe_tup (pa_cons pe_int (pa_cons pe_int pa_nil))) (pa_cons (pe_tup (pa_cons (pe_op op_add pe_int (pe_op op_mod (pe_ix (ixK (K := K)) (pv 0) pe_int (fun _ _ => rfl)) pe_int)) (pa_cons pe_int pa_nil))) pa_nil))))))) (pe_op op_mod (pe_ix (ixK (K := K)) (pv 0) pe_int (fun _ _ => rfl)) pe_int) (fun _ _ => rfl)))), fun r ha => ?_⟩
  have ha : RowR r 8 := ha
  try dsimp only [cxK]
  have m1 := Int.emod_nonneg (rget r 6) (b := 9) (by decide)
  have m2 := Int.emod_lt_of_pos (rget r 6) (b := 9) (by decide)
  have m3 := Int.emod_nonneg (rget r 7) (b := 9) (by decide)
  have m4 := Int.emod_lt_of_pos (rget r 7) (b := 9) (by decide)
  obtain ⟨n, n1, n2⟩ := mod_nat (rget r 5) 6 (by decide)
  have hn : n < [((0 : Int), (1 : Int)), (1, 1 + rget r 6 % 9), (0, 1), (-1, 1 + rget r 7 % 9), (0, 1), (1 + rget r 7 % 9, 1)].length := by show n < 6; omega
  have hx : Pz 4 4 ([((0 : Int), (1 : Int)), (1, 1 + rget r 6 % 9), (0, 1), (-1, 1 + rget r 7 % 9), (0, 1), (1 + rget r 7 % 9, 1)].getD n (0, 1)) := by
    have := getD_mem hn (0, 1)
    simp only [List.mem_cons, List.not_mem_nil, or_false] at this
    rcases this with h | h | h | h | h | h <;> rw [h] <;> refine pz_of ⟨?_, ?_⟩ ⟨?_, ?_⟩ <;> simp only [] <;> omega
  refine t_ret (A := Eq _) (ev_ix (f := am) (getD_some hn (0, 1)) (evp_lst (eva_cons (ev_am evp_int evp_int) (eva_cons (ev_am evp_int (ev_add evp_int (ev_mod (by decide) (ev_rowC 6 ha (by decide) (evp_var rfl)) evp_int))) (eva_cons (ev_am evp_int evp_int) (eva_cons (ev_am (ev_neg evp_int) (ev_add evp_int (ev_mod (by decide) (ev_rowC 7 ha (by decide) (evp_var rfl)) evp_int))) (eva_cons (ev_am evp_int evp_int) (eva_cons (ev_am (ev_add evp_int (ev_mod (by decide) (ev_rowC 7 ha (by decide) (evp_var rfl)) evp_int)) evp_int) eva_nil)))))) (by show 6 ≤ 100000; decide)) ((ev_mod (by decide) (ev_rowC 5 ha (by decide) (evp_var rfl)) evp_int).to (by rw [n2]))) fun d e => ⟨_, e.symm, hx⟩
def shR : Nat → Nat
  | 0 => 20
  | 1 => 20
  | 2 => 190
  | _ => 85
def shN : Nat → Nat
  | 2 => 100
  | _ => 90
def shK : Nat → Nat
  | 2 => 100
  | _ => 4
abbrev SpSha (K : PySem.W.Frag) : Sp := SpD K (fun a : List Int × Nat × Nat => [roI a.1, .int (a.2.1 : Int), .int (a.2.2 : Int)]) (fun a => RowR a.1 (shR a.2.2) ∧ a.2.1 ≤ 4 ∧ a.2.2 ≤ 3) fun a d => ∃ x, d = am x ∧ Pz (shN a.2.2) (shK a.2.2) x
theorem ok_law_share (T : Tx P K mg base) (C_law_amount : Cal P w K mg base 36 "_law_amount" ["_law_top", "_law_low"] [] (SpLam K)) (C_law_number : Cal P w K mg base 36 "_law_number" ["_law_row_here", "_law_at", "_law_many_here"] [] (SpNum K)) :
    Cal P w K mg base 37 "_law_share" ["_law_row_here", "_law_k", "_law_size"] [] (SpSha K) := by
  refine cal_of (k := 36) T.d_law_share scLawShare (fun _ => rfl) (fun _ _ _ _ _ _ us hl => match us, hl with | [_, _, _], _ => rfl) fun cdv f A outer s H Q E hr => ?_
  have hu := hu_of hr
  have hB := big_of (f := f) (cd := cdv) (A := A) (outer := outer) (s := s) (H := H) (E := E) (w := w) (mg := mg) T scLawShare hr
  refine ⟨_, (pss_cons (ps_if (pt_cmpR op_eq (pv 2) pe_int (nomark _)) (pss_one (ps_ret (pe_tup (pa_cons (pe_op op_sub (pe_op op_mod (pe_ix (ixK (K := K)) (pv 0) (pe_op op_add pe_int (pv 1)) (fun _ _ => rfl)) pe_int) pe_int) (pa_cons pe_int pa_nil))))) pss_nil)
  (pss_cons (ps_if (pt_cmpR op_eq (pv 2) pe_int (nomark _)) (pss_cons (ps_set (i := 3) scLawShare.nd rfl (Or.inl rfl) (pe_lst (pa_cons pe_int (pa_cons pe_int (pa_cons pe_int (pa_cons pe_int (pa_cons pe_int (pa_cons pe_int (pa_cons pe_int (pa_cons pe_int (pa_cons pe_int (pa_cons pe_int (pa_cons pe_int (pa_cons pe_int (pa_cons pe_int (pa_cons pe_int (pa_cons pe_int (pa_cons pe_int pa_nil))))))))))))))))))
  (pss_one (ps_ret (pe_cal C_law_amount hr (by rfl) (pa_cons (pe_op op_sub (pe_ix (ixK (K := K)) (pv 0) (pe_op op_add pe_int (pe_op op_mulH pe_int (pv 1))) (fun _ _ => rfl)) pe_int) (pa_cons (pe_ix (ixK (K := K)) (pv 3) (pe_op op_mod (pe_ix (ixK (K := K)) (pv 0) (pe_op op_add pe_int (pe_op op_mulH pe_int (pv 1))) (fun _ _ => rfl)) pe_int) (fun _ _ => rfl)) pa_nil)))))) pss_nil)
  (pss_cons (ps_if (pt_cmpR op_eq (pv 2) pe_int (nomark _)) (pss_cons (ps_set (i := 4) scLawShare.nd rfl (Or.inl rfl) (pe_op op_sub (pe_op op_mod (pe_callTy cr_int (by rfl) T.n_int (by decide +kernel) (pa_cons (pe_cal C_law_number hr (by rfl) (pa_cons (pv 0) (pa_cons (pe_op op_add pe_int (pe_op op_mulH pe_int (pv 1))) (pa_cons pe_int pa_nil)))) pa_nil)) (pe_op op_sub (pe_op op_mulH pe_int (pe_op op_pow pe_int pe_int)) pe_int)) (pe_op op_sub (pe_op op_pow pe_int pe_int) pe_int)))
  (pss_one (ps_ret (pe_cal C_law_amount hr (by rfl) (pa_cons (pv 4) (pa_cons (pe_op op_add (pe_op op_mod (pe_callTy cr_int (by rfl) T.n_int (by decide +kernel) (pa_cons (pe_cal C_law_number hr (by rfl) (pa_cons (pv 0) (pa_cons (pe_op op_add pe_int (pe_op op_mulH pe_int (pv 1))) (pa_cons pe_int pa_nil)))) pa_nil)) (pe_op op_sub (pe_op op_pow pe_int pe_int) pe_int)) pe_int) pa_nil)))))) pss_nil)
  (pss_one (ps_ret (pe_tup (pa_cons (pe_op op_sub (pe_cal C_law_number hr (by rfl) (pa_cons (pv 0) (pa_cons (pe_op op_add pe_int (pe_op op_mulH pe_int (pv 1))) (pa_cons pe_int pa_nil)))) (pe_op (op_fdivB hB) (pe_op op_pow pe_int pe_int) pe_int)) (pa_cons pe_int pa_nil)))))))), fun a ha => ?_⟩
  obtain ⟨r, k, z⟩ := a
  obtain ⟨h1, h2, h3⟩ := ha
  have h1 : RowR r (shR z) := h1
  have h2 : k ≤ 4 := h2
  have h3 : z ≤ 3 := h3
  try dsimp only [cxK]
  have num : ∀ {δ : De} (p c n : Nat), δ[0]? = some (some (.imm (roI r))) → δ[1]? = some (some (.imm (.int (k : Int)))) → RowR r (p + c * 4 + n) → n ≤ 20 → c ≤ 40 → EvP K none (tCall (SpNum K) [] E0 (tCons (tVar 0) (tCons (tOp (rI0 fun i j => .int (i + j)) (tC (.int (p : Int))) (tOp (rI CMulH fun i j => .int (i * j)) (tC (.int (c : Int))) (tVar 1))) (tCons (tC (.int (n : Int))) tNil)))) δ (fun d => ∃ i, d = .int i ∧ 0 ≤ i ∧ i < 60 ^ n) := fun {δ} p c n e0 e1 hr hn hc => by
    have hck : c * k ≤ c * 4 := Nat.mul_le_mul_left _ h2
    refine evp_call (r, p + c * k, n) (eva_cons (evp_var e0) (eva_cons ((ev_add evp_int (ev_mul (cm40 (by omega) (by omega)) evp_int (evp_var e1))).to (by show Dat.int _ = Dat.int ((p + c * k : Nat) : Int); congr 1)) (eva_cons evp_int eva_nil))) ⟨⟨?_, hr.rg⟩, hn⟩
    have := hr.len
    show p + c * k + n ≤ r.length
    omega
  match z, h1, h3 with
  | 0, h1, _ =>
    have h1 : RowR r 20 := h1
    have m1 := Int.emod_nonneg (rget r (10 + k)) (b := 5) (by decide)
    have m2 := Int.emod_lt_of_pos (rget r (10 + k)) (b := 5) (by decide)
    refine q_when (b := true) (EvB.to (evb_test (ev_eqI (evp_var rfl) evp_int)) rfl) (fun _ => ?_) (fun c => nomatch c)
    exact t_ret (A := Eq _) (ev_am (ev_sub (ev_mod (by decide) (ev_row (k := 10 + k) h1 (by omega) (evp_var rfl) ((ev_add evp_int (evp_var rfl)).to (by congr 1))) evp_int) evp_int) evp_int) fun d e => ⟨_, e.symm, pz_of ⟨by show -(2 ^ 90) < rget r (10 + k) % 5 - 2; omega, by show rget r (10 + k) % 5 - 2 < 2 ^ 90; omega⟩ ⟨by show (0 : Int) < 1; decide, by show (1 : Int) ≤ 2 ^ 4; decide⟩⟩
  | 1, h1, _ =>
    have h1 : RowR r 20 := h1
    refine q_skip (EvB.to (evb_test (ev_eqI (evp_var rfl) evp_int)) rfl) ?_
    refine q_when (b := true) (EvB.to (evb_test (ev_eqI (evp_var rfl) evp_int)) rfl) (fun _ => ?_) (fun c => nomatch c)
    obtain ⟨_, r1, r2⟩ := h1.at (k := 10 + 2 * k) (by omega)
    obtain ⟨n, n1, n2⟩ := mod_nat (rget r (11 + 2 * k)) 16 (by decide)
    have hn : n < ([1, 1, 2, 3, 1, 1, 4, 5, 1, 1, 6, 7, 1, 1, 12, 1] : List Int).length := by show n < 16; omega
    have hx := getD_mem hn 0
    have hx2 : 0 < ([1, 1, 2, 3, 1, 1, 4, 5, 1, 1, 6, 7, 1, 1, 12, 1] : List Int).getD n 0 ∧ ([1, 1, 2, 3, 1, 1, 4, 5, 1, 1, 6, 7, 1, 1, 12, 1] : List Int).getD n 0 ≤ 12 := by
      generalize ([1, 1, 2, 3, 1, 1, 4, 5, 1, 1, 6, 7, 1, 1, 12, 1] : List Int).getD n 0 = x at hx
      simp only [List.mem_cons, List.not_mem_nil, or_false] at hx
      omega
    refine q_asg (d := .lst (([1, 1, 2, 3, 1, 1, 4, 5, 1, 1, 6, 7, 1, 1, 12, 1] : List Int).map .int)) (EvP.to (evp_lst (by walk_at "ev") (by show 16 ≤ 100000; decide)) (by rfl)) ?_
    refine t_ret (A := fun d => d = am (amt (rget r (10 + 2 * k) - 30) (([1, 1, 2, 3, 1, 1, 4, 5, 1, 1, 6, 7, 1, 1, 12, 1] : List Int).getD n 0))) (evp_call (rget r (10 + 2 * k) - 30, ([1, 1, 2, 3, 1, 1, 4, 5, 1, 1, 6, 7, 1, 1, 12, 1] : List Int).getD n 0) (eva_cons (ev_sub (ev_row (k := 10 + 2 * k) h1 (by omega) (evp_var rfl) ((ev_add evp_int (ev_mul (cm40 (by omega) (by omega)) evp_int (evp_var rfl))).to (by congr 1))) evp_int) (eva_cons (ev_ix (f := Dat.int) (getD_some hn 0) (evp_var rfl) ((ev_mod (by decide) (ev_row (k := 11 + 2 * k) h1 (by omega) (evp_var rfl) ((ev_add evp_int (ev_mul (cm40 (by omega) (by omega)) evp_int (evp_var rfl))).to (by congr 1))) evp_int).to (by rw [n2]))) eva_nil)) ⟨hx2.1, lt2_le (le2_of (n := 4) ⟨hx2.1, by omega⟩) (by decide)⟩) fun d e => ⟨_, e, ?_⟩
    exact (pzA (n := 5) (k := 4) ⟨by omega, by omega⟩ ⟨hx2.1, by omega⟩).mono (by decide) (by decide)
  | 2, h1, _ =>
    have h1 : RowR r 190 := h1
    refine q_skip (EvB.to (evb_test (ev_eqI (evp_var rfl) evp_int)) rfl) ?_
    refine q_skip (EvB.to (evb_test (ev_eqI (evp_var rfl) evp_int)) rfl) ?_
    refine q_when (b := true) (EvB.to (evb_test (ev_eqI (evp_var rfl) evp_int)) rfl) (fun _ => ?_) (fun c => nomatch c)
    have p30 : ∀ {δ : De}, EvP K none (tOp (rI CPow fun i j => .int (i ^ j.toNat)) (tC (.int 10)) (tC (.int 30))) δ (Eq (.int 1000000000000000000000000000000)) := (ev_pow (by decide) (by decide) evp_int evp_int).to (by rw [show ((10 : Int) ^ (30 : Int).toNat) = 1000000000000000000000000000000 from by decide])
    have md : ∀ {δ : De} {ta tb : TE} {b : Int}, 0 < b → EvP K none ta δ (fun d => ∃ i, d = .int i ∧ 0 ≤ i ∧ i < 60 ^ 18) → EvP K none tb δ (Eq (.int b)) → EvP K none (tOp (rI (fun _ j => 0 < j) fun i j => .int (i % j)) (tCB rInt (tCons ta tNil)) tb) δ (fun d => ∃ i, d = .int i ∧ 0 ≤ i ∧ i < b) := fun {δ ta tb b} hb e1 e2 => by
      refine evp_opP (P := fun d => ∃ i, d = .int i) (evp_cbP (A := fun l => ∃ i : Int, l = [.int i]) (eva_consP e1 eva_nil fun x xs hx hxs => by obtain ⟨i, rfl, _⟩ := hx; subst hxs; exact ⟨i, rfl⟩) fun ds hds => by
        obtain ⟨i, rfl⟩ := hds
        intro Hs H vs s1 t1 Q k1
        exact rc_int Hs H vs s1 t1 Q fun z H' Hs' d x t p => k1 z H' Hs' d x t ⟨i, p.symm⟩) e2 fun x y hx hy => ?_
      obtain ⟨i, rfl⟩ := hx
      subst hy
      intro Hs H v1 v2 s1 t1 t2 Q k1
      exact (rv_intC (C := fun _ j => 0 < j) (f := fun i j => i % j) (a := i) (b := b) hb) Hs H v1 v2 s1 t1 t2 Q fun z H' Hs' d x t p => k1 z H' Hs' d x t ⟨_, p.symm, Int.emod_nonneg _ (by omega), Int.emod_lt_of_pos _ hb⟩
    refine q_asgP (A := fun d => ∃ i, d = .int i ∧ -1000000000000000000000000000000 < i ∧ i < 1000000000000000000000000000000) (evp_opP (md (by decide) (num 10 36 18 rfl rfl ⟨Nat.le_trans (by decide) h1.len, h1.rg⟩ (by decide) (by decide)) (ev_sub (ev_mul (cm (n := 10) (k := 110) (by decide) (by decide) (by decide)) evp_int p30) evp_int)) (ev_sub p30 evp_int) fun x y hx hy => ?_) fun d hd => ?_
    · obtain ⟨i, rfl, g1, g2⟩ := hx
      subst hy
      intro Hs H v1 v2 s1 t1 t2 Q k1
      exact rv_int Hs H v1 v2 s1 t1 t2 Q fun z H' Hs' d x t p => k1 z H' Hs' d x t ⟨_, p.symm, by omega, by omega⟩
    · obtain ⟨tp, rfl, g1, g2⟩ := hd
      refine t_ret (A := fun d => ∃ lo : Int, 0 < lo ∧ lo ≤ 1000000000000000000000000000000 ∧ d = am (amt tp lo)) (evp_callA (xs := []) (A := fun l => ∃ lo : Int, 0 < lo ∧ lo ≤ 1000000000000000000000000000000 ∧ l = [.int tp, .int lo]) (eva_consP (A := fun l => ∃ lo : Int, 0 < lo ∧ lo ≤ 1000000000000000000000000000000 ∧ l = [.int lo]) (P := Eq (.int tp)) (evp_var rfl) (eva_consP (P := fun d => ∃ lo : Int, 0 < lo ∧ lo ≤ 1000000000000000000000000000000 ∧ d = .int lo) (evp_opP (md (b := 1000000000000000000000000000000 - 1) (by decide) (num 28 36 18 rfl rfl ⟨Nat.le_trans (by decide) h1.len, h1.rg⟩ (by decide) (by decide)) (ev_sub p30 evp_int)) evp_int fun x y hx hy => ?_) eva_nil fun x xs hx hxs => ?_) fun x xs hx hxs => ?_) (fun _ => .nil) fun ds hds => ?_) fun d hd => ?_
      · obtain ⟨i, rfl, l1, l2⟩ := hx
        subst hy
        intro Hs H v1 v2 s1 t1 t2 Q k1
        exact rv_int Hs H v1 v2 s1 t1 t2 Q fun z H' Hs' d x t p => k1 z H' Hs' d x t ⟨_, by omega, by omega, p.symm⟩
      · obtain ⟨lo, l1, l2, rfl⟩ := hx
        subst hxs
        exact ⟨lo, l1, l2, rfl⟩
      · obtain ⟨lo, l1, l2, rfl⟩ := hxs
        subst hx
        exact ⟨lo, l1, l2, rfl⟩
      · obtain ⟨lo, l1, l2, rfl⟩ := hds
        refine ⟨(tp, lo), rfl, ⟨l1, lt2_le (le2_of (n := 100) ⟨l1, by omega⟩) (by decide)⟩, fun d e => ⟨lo, l1, l2, e⟩⟩
      · obtain ⟨lo, l1, l2, rfl⟩ := hd
        exact ⟨_, rfl, pzA (n := 100) (k := 100) ⟨by omega, by omega⟩ ⟨l1, by omega⟩⟩
  | 3, h1, _ =>
    have h1 : RowR r 85 := h1
    refine q_skip (EvB.to (evb_test (ev_eqI (evp_var rfl) evp_int)) rfl) ?_
    refine q_skip (EvB.to (evb_test (ev_eqI (evp_var rfl) evp_int)) rfl) ?_
    refine q_skip (EvB.to (evb_test (ev_eqI (evp_var rfl) evp_int)) rfl) ?_
    have p15 : ∀ {δ : De}, EvP K none (tOp (rI (fun _ j => 0 < j) fun i j => .int (i / j)) (tOp (rI CPow fun i j => .int (i ^ j.toNat)) (tC (.int 60)) (tC (.int 15))) (tC (.int 2))) δ (Eq (.int (60 ^ 15 / 2))) := (ev_div (by decide) (ev_pow (by decide) (by decide) evp_int evp_int) evp_int).to (by congr 1)
    refine t_ret (A := fun d => ∃ x, d = am x ∧ Pz 90 4 x) (evp_tupA (A := fun l => ∃ i : Int, -(2 ^ 90) < i ∧ i < 2 ^ 90 ∧ l = [.int i, .int 1]) (eva_consP (P := fun d => ∃ i : Int, -(2 ^ 90) < i ∧ i < 2 ^ 90 ∧ d = .int i) (evp_opP (num 10 15 15 rfl rfl ⟨Nat.le_trans (by decide) h1.len, h1.rg⟩ (by decide) (by decide)) p15 fun x y hx hy => ?_) (eva_cons evp_int eva_nil) fun x xs hx hxs => ?_) fun ds hds => ?_) fun d e => e
    · obtain ⟨i, rfl, l1, l2⟩ := hx
      subst hy
      intro Hs H v1 v2 s1 t1 t2 Q k1
      exact rv_int Hs H v1 v2 s1 t1 t2 Q fun z H' Hs' d x t p => k1 z H' Hs' d x t ⟨_, by omega, by omega, p.symm⟩
    · obtain ⟨i, l1, l2, rfl⟩ := hx
      subst hxs
      exact ⟨i, l1, l2, rfl⟩
    · obtain ⟨i, l1, l2, rfl⟩ := hds
      exact ⟨by show 2 ≤ 100000; decide, (i, 1), rfl, pz_of ⟨l1, l2⟩ ⟨by show (0 : Int) < 1; decide, by show (1 : Int) ≤ 2 ^ 4; decide⟩⟩
end
end Tf
/-! text TfAI -/
/-! the builders of the systems, walked: drawn sums, fitted sums, the plain lots -/
namespace Tf
open PySem PySem.Spec PyProof.Rows L2
local macro_rules | `(tactic| walk_at "ev1") => `(tactic| first
  | with_reducible exact evp_int | with_reducible exact evp_bl | with_reducible exact evp_str | with_reducible exact evp_non | with_reducible exact evp_gamA | with_reducible exact evp_gam | (with_reducible apply evp_var; (with_unfolding_all exact rfl))
  | with_reducible exact eva_nil | with_reducible apply eva_cons
  | with_reducible apply evp_op | (with_reducible apply evp_un (hr := ru_int)) | with_reducible apply evp_cb
  | with_reducible apply evp_tup' | (with_reducible show List.length _ ≤ 100000; simp; done)
  | with_reducible exact rv_int | with_reducible exact rv_bl | with_reducible apply rv_intC | with_reducible exact rv_eq (.int _ _) | with_reducible exact rv_ne (.int _ _)
  | (with_reducible apply rv_ix; (first | (with_unfolding_all exact Sq.tup _) | (with_unfolding_all exact Sq.lst _) | (with_reducible apply Sqx.sq; with_reducible assumption)); (with_unfolding_all exact rfl))
  | with_reducible exact rc_gcd
  | with_reducible exact rc_tupA | with_reducible exact rc_tupM
  | (with_reducible apply rc_tup; (first | (with_unfolding_all exact Sq.tup _) | (with_unfolding_all exact Sq.lst _) | (with_reducible apply Sqx.sq; with_reducible assumption)))
  | (with_reducible apply rc_lst; (first | (with_unfolding_all exact Sq.tup _) | (with_unfolding_all exact Sq.lst _) | (with_reducible apply Sqx.sq; with_reducible assumption)))
  | (with_reducible apply rc_len; (first | (with_unfolding_all exact Sq.tup _) | (with_unfolding_all exact Sq.lst _) | (with_reducible apply Sqx.sq; with_reducible assumption)))
  | with_reducible apply rv_cat
  | with_reducible exact evb_yes
  | with_reducible apply evb_test | with_reducible apply evb_B | with_reducible apply evb_not | with_reducible apply evb_and | with_reducible apply evb_or | with_reducible apply evp_and | with_reducible apply evp_or | with_reducible apply evp_not
  | (with_reducible refine fun _ => ?_))
local macro_rules | `(tactic| walk_at "ev") => `(tactic| repeat' walk_at "ev1")
/-- an entry of a lot: a sum, is it strict, a weight -/
abbrev En := Su × Bool × Am
def enD (e : En) : Dat := .lst [smD e.1, .bl e.2.1, am e.2.2]
structure EnG (ev : List Ad) (e : En) : Prop where
  s : SuG ev 400 220 e.1
  w : Pz 4 4 e.2.2
section
variable {K : PySem.W.Frag} {m : Option LkM} {δ δ' : De} {te ta tb tc : TE} {tt tu : TT} {ts t1 t2 t3 : TS} {A R : Dat → Prop} {P : Pt} {x y z d : Dat} {ds : List Dat} {i j : Nat}
theorem evp_lstA {t : TA} {A : List Dat → Prop} (h : EvA K m t δ A) (hl : ∀ ds, A ds → ds.length ≤ 100000 ∧ R (.lst ds)) : EvP K m (tLst t) δ R := fun Hs0 H0 Hs H σ s Q k =>
  h _ _ _ _ _ s _ fun vs H1 Hs1 ds e1 t1 p1 => ⟨by rw [t1.length]; exact Nat.le_trans (hl ds p1).1 (by decide), fun p np => by
    have x := Ext.new (o := .lst vs) (s.grow e1).sub np
    exact k (.ref p) _ _ _ (e1.trans x) (.lst upd_same (t1.mono x.le)) (hl ds p1).2⟩
theorem eva_1 {Q1 : Dat → Prop} (e1 : EvP K m ta δ Q1) : EvA K m (tCons ta tNil) δ (fun l => ∃ x, l = [x] ∧ Q1 x) := eva_consP (A := Eq []) e1 eva_nil fun x xs hx hxs => by subst hxs; exact ⟨x, rfl, hx⟩
theorem eva_2 {Q1 Q2 : Dat → Prop} (e1 : EvP K m ta δ Q1) (e2 : EvP K m tb δ Q2) : EvA K m (tCons ta (tCons tb tNil)) δ (fun l => ∃ x y, l = [x, y] ∧ Q1 x ∧ Q2 y) := eva_consP e1 (eva_1 e2) fun x xs hx hxs => by
  obtain ⟨y, rfl, hy⟩ := hxs; exact ⟨x, y, rfl, hx, hy⟩
theorem eva_3 {Q1 Q2 Q3 : Dat → Prop} (e1 : EvP K m ta δ Q1) (e2 : EvP K m tb δ Q2) (e3 : EvP K m tc δ Q3) : EvA K m (tCons ta (tCons tb (tCons tc tNil))) δ (fun l => ∃ x y z, l = [x, y, z] ∧ Q1 x ∧ Q2 y ∧ Q3 z) := eva_consP e1 (eva_2 e2 e3) fun x xs hx hxs => by
  obtain ⟨y, z, rfl, hy, hz⟩ := hxs; exact ⟨x, y, z, rfl, hx, hy, hz⟩
theorem ev_twoP {Q1 Q2 : Dat → Prop} (e1 : EvP K m ta δ Q1) (e2 : EvP K m tb δ Q2) (h : ∀ x y, Q1 x → Q2 y → R (.tup [x, y])) : EvP K m (tTup (tCons ta (tCons tb tNil))) δ R := evp_tupA (eva_2 e1 e2) fun ds hds => by
  obtain ⟨x, y, rfl, hx, hy⟩ := hds; exact ⟨by show 2 ≤ 100000; decide, h x y hx hy⟩
theorem ev_lstP2 {Q1 Q2 : Dat → Prop} (e1 : EvP K m ta δ Q1) (e2 : EvP K m tb δ Q2) (h : ∀ x y, Q1 x → Q2 y → R (.lst [x, y])) : EvP K m (tLst (tCons ta (tCons tb tNil))) δ R := evp_lstA (eva_2 e1 e2) fun ds hds => by
  obtain ⟨x, y, rfl, hx, hy⟩ := hds; exact ⟨by show 2 ≤ 100000; decide, h x y hx hy⟩
theorem ev_callP {α : Type} {enc : α → List Dat} {pre : α → Prop} {post : α → Dat → Prop} {t : TA} {E : XK} {A : List Dat → Prop} (h : EvA K none t δ A) (hA : ∀ ds, A ds → ∃ a, ds = enc a ∧ pre a ∧ ∀ d, post a d → R d) : EvP K none (tCall (SpD K enc pre post) [] E t) δ R :=
  evp_callA (xs := []) h (fun _ => .nil) fun ds hds => by
    obtain ⟨a, h1, h2, h3⟩ := hA ds hds
    exact ⟨a, by rw [List.append_nil]; exact h1, h2, h3⟩
theorem ev_ex {α : Type} {f : α → Dat} {Q : α → Prop} {a : α} (h : EvP K m te δ (Eq (f a))) (q : Q a) : EvP K m te δ (fun d => ∃ x, d = f x ∧ Q x) := h.imp fun d e => ⟨a, e.symm, q⟩
theorem ev_bex {b : Bool} (h : EvP K m te δ (Eq (.bl b))) : EvP K m te δ (fun d => ∃ b, d = .bl b) := h.imp fun d e => ⟨b, e.symm⟩
theorem ev_entry {Qs : Su → Prop} {Qa : Am → Prop} (ea : EvP K m ta δ (fun d => ∃ s, d = smD s ∧ Qs s)) (eb : EvP K m tb δ (fun d => ∃ b, d = .bl b)) (ec : EvP K m tc δ (fun d => ∃ a, d = am a ∧ Qa a)) :
    EvP K m (tLst (tCons ta (tCons tb (tCons tc tNil)))) δ (fun d => ∃ e : En, d = enD e ∧ Qs e.1 ∧ Qa e.2.2) :=
  evp_lstA (A := fun l => ∃ e : En, l = [smD e.1, .bl e.2.1, am e.2.2] ∧ Qs e.1 ∧ Qa e.2.2) (eva_consP (A := fun l => ∃ (b : Bool) (a : Am), l = [.bl b, am a] ∧ Qa a) ea (eva_consP (A := fun l => ∃ a, l = [am a] ∧ Qa a) eb (eva_consP (A := Eq []) ec eva_nil fun x xs hx hxs => by
      obtain ⟨a, rfl, q⟩ := hx; subst hxs; exact ⟨a, rfl, q⟩) fun x xs hx hxs => by
      obtain ⟨b, rfl⟩ := hx; obtain ⟨a, rfl, q⟩ := hxs; exact ⟨b, a, rfl, q⟩) fun x xs hx hxs => by
      obtain ⟨s, rfl, q⟩ := hx; obtain ⟨b, a, rfl, q2⟩ := hxs; exact ⟨(s, b, a), rfl, q, q2⟩) fun ds hds => by
      obtain ⟨e, rfl, q⟩ := hds
      exact ⟨by show 3 ≤ 100000; decide, e, rfl, q⟩
/-- one is appended to a lot -/
theorem t_appE {l : List En} {Q : En → Prop} (ei : δ[i]? = some (some (.ol (l.map enD)))) (h : EvP K m te δ (fun d => ∃ e : En, d = enD e ∧ Q e)) (hl : l.length < 100000) (q : ∀ e, Q e → P.nx (δ.set i (some (.ol ((l ++ [e]).map enD))))) :
    T K m (tDrop (tBM K "list" rAppend (tVar i) (tCons te tNil))) δ P := t_app ei h (by rw [List.length_map]; exact hl) fun d hd => by
  obtain ⟨e, rfl, qe⟩ := hd
  have := q e qe
  rwa [List.map_append] at this
theorem all_snoc {α : Type} {Q : α → Prop} {l : List α} {e : α} (h : ∀ x ∈ l, Q x) (he : Q e) : ∀ x ∈ l ++ [e], Q x := fun x hx => by
  rcases List.mem_append.mp hx with z | z
  · exact h x z
  · rw [List.mem_singleton.mp z]; exact he
/-- rows[k][c] -/
theorem ev_rr {rows : List (List Int)} {r : List Int} {k n : Nat} (c : Nat) (h : rows[k]? = some r) (hr : RowR r n) (hc : c < n) (e1 : EvP K m ta δ (Eq (.lst (rows.map roI)))) (e2 : EvP K m tb δ (Eq (.int (k : Int)))) :
    EvP K m (tOp (rIx K) (tOp (rIx K) ta tb) (tC (.int (c : Int)))) δ (Eq (.int (rget r c))) := ev_rowC c hr hc (ev_ix h e1 e2)
theorem range_at {N : Nat} {pre : List Nat} {k : Nat} (hp : pre ++ [k] <+: List.range N) : k = pre.length ∧ k < N := by
  obtain ⟨z, hz⟩ := hp
  have h : (List.range N)[pre.length]? = some k := by rw [← hz]; simp
  have hlt := (List.getElem?_eq_some_iff.mp h).1
  rw [List.length_range] at hlt
  rw [List.getElem?_range hlt] at h
  have := Option.some.inj h
  omega
end
section
variable {P : Program} {w : World} {K : PySem.W.Frag} {mg : Str → Option Value} {base : Heap}
/-- a row out of a cell -/
theorem ev_cellrow {δ : De} {tk tn : TE} {ns : List Int} {i k n : Nat} (e0 : δ[i]? = some (some (.imm (.scr ns)))) (ek : EvP K none tk δ (Eq (.int (k : Int)))) (en : EvP K none tn δ (Eq (.int (n : Int)))) (hk : k < 64) (hn : n ≤ 1000) :
    EvP K none (tCall (SpRoI K) [] E0 (tCons (tCall (SpCel K) [] E0 (tCons (tVar i) (tCons tk tNil))) (tCons tn tNil))) δ (fun d => ∃ r, d = roI r ∧ RowR r n ∧ r.length = n) :=
  evp_callA (xs := []) (A := fun l => ∃ c : Int, l = [.int c, .int (n : Int)]) (eva_consP (A := Eq [.int (n : Int)]) (evp_call (ns, k) (eva_cons (evp_var e0) (eva_cons ek eva_nil)) hk) (eva_cons en eva_nil) fun x xs hx hxs => by
    obtain ⟨c, rfl⟩ := hx; subst hxs; exact ⟨c, rfl⟩) (fun _ => .nil) fun ds hds => by
    obtain ⟨c, rfl⟩ := hds
    exact ⟨(c, n), rfl, hn, fun d ⟨r, h1, h2, h3⟩ => ⟨r, h3, h1, h2⟩⟩
abbrev SpDra (K : PySem.W.Frag) : Sp := SpD K (fun a : List Int × Nat × List Ad × Nat => [.scr a.1, .int (a.2.1 : Int), .lst (a.2.2.1.map adr), .int (a.2.2.2 : Int)]) (fun a => a.2.1 ≤ 16 ∧ a.2.2.1.Nodup ∧ a.2.2.1.length ≤ 4 ∧ a.2.2.2 ≤ 3)
  fun a d => ∃ s r, d = .lst [smD s, roI r] ∧ SuG a.2.2.1 (shN a.2.2.2) (shK a.2.2.2) s ∧ RowR r 20
theorem shR_at {z : Nat} (h : z ≤ 3) : ([20, 20, 190, 85] : List Int)[z]? = some ((shR z : Nat) : Int) := by
  match z, h with
  | 0, _ => rfl
  | 1, _ => rfl
  | 2, _ => rfl
  | 3, _ => rfl
theorem shR_ge {z : Nat} (h : z ≤ 3) : 20 ≤ shR z ∧ shR z ≤ 190 := by
  match z, h with
  | 0, _ => decide
  | 1, _ => decide
  | 2, _ => decide
  | 3, _ => decide
theorem ok_law_drawn (T : Tx P K mg base) (C_law_cell : Cal P w K mg base 36 "_law_cell" ["_law_script", "_law_k"] [] (SpCel K)) (C_law_row : Cal P w K mg base 36 "_law_row" ["_law_cell_here", "_law_many_here"] [] (SpRoI K))
    (C_law_share : Cal P w K mg base 37 "_law_share" ["_law_row_here", "_law_k", "_law_size"] [] (SpSha K)) :
    Cal P w K mg base 38 "_law_drawn" ["_law_script", "_law_k", "_law_group", "_law_size"] [] (SpDra K) := by
  refine cal_of (k := 37) T.d_law_drawn scLawDrawn (fun _ => rfl) (fun _ _ _ _ _ _ us hl => match us, hl with | [_, _, _, _], _ => rfl) fun cdv f A outer s H Q E hr => ?_
  have hu := hu_of hr
  refine ⟨_, (pss_cons (ps_set (i := 4) scLawDrawn.nd rfl (Or.inl rfl) (pe_cal C_law_row (hr.mono (by decide)) (by rfl) (pa_cons (pe_cal C_law_cell (hr.mono (by decide)) (by rfl) (pa_cons (pv 0) (pa_cons (pe_op op_add pe_int (pv 1)) pa_nil))) (pa_cons (pe_ix (ixK (K := K)) (pe_lst (pa_cons pe_int (pa_cons pe_int (pa_cons pe_int (pa_cons pe_int pa_nil))))) (pv 3) (fun _ _ => rfl)) pa_nil))))
  (pss_cons (ps_set (i := 5) scLawDrawn.nd rfl (Or.inl rfl) (pe_lst pa_nil))
  (pss_cons (ps_for PassesOwn.never rfl (pi_range1 rfl T.n_range (pa_cons (pe_callB (cr_len (K := K)) (by rfl) T.n_len (by decide +kernel) (pa_cons (pv 2) pa_nil)) pa_nil)) (pg_name (i := 6) scLawDrawn.nd rfl (Or.inl rfl)) (pss_cons (ps_set (i := 7) scLawDrawn.nd rfl (Or.inl rfl) (pe_cal C_law_share hr (by rfl) (pa_cons (pv 4) (pa_cons (pv 6) (pa_cons (pv 3) pa_nil)))))
  (pss_one (ps_if (PW.pt (pw_and (pt_cmpR op_gt (pe_op op_mod (pe_ix (ixK (K := K)) (pv 4) (pv 6) (fun _ _ => rfl)) pe_int) pe_int (nomark _)) (pw_and1 (pt_cmpR op_ne (pe_ix (ixK (K := K)) (pv 7) pe_int (fun _ _ => rfl)) pe_int (nomark _))))) (pss_one (ps_expr (pe_bm PySem.F.plainAttrs_list PySem.F.slot_list_append PySem.F.type_list_append mt_append (pv 5) (pa_cons (pe_tup (pa_cons (pe_ix (ixK (K := K)) (pv 2) (pv 6) (fun _ _ => rfl)) (pa_cons (pv 7) pa_nil))) pa_nil)))) pss_nil))))
  (pss_one (ps_ret (pe_lst (pa_cons (pe_tup (pa_cons (pe_callTy (cr_tup (K := K)) (by rfl) T.n_tuple (by decide +kernel) (pa_cons (pv 5) pa_nil)) (pa_cons (pe_cal C_law_share hr (by rfl) (pa_cons (pv 4) (pa_cons pe_int (pa_cons (pv 3) pa_nil)))) pa_nil))) (pa_cons (pv 4) pa_nil)))))))), fun a ha => ?_⟩
  obtain ⟨ns, k, gr, z⟩ := a
  obtain ⟨h1, h2, h3, h4⟩ := ha
  have h1 : k ≤ 16 := h1
  have h2 : gr.Nodup := h2
  have h3 : gr.length ≤ 4 := h3
  have h4 : z ≤ 3 := h4
  try dsimp only [cxK]
  obtain ⟨z1, z2⟩ := shR_ge h4
  refine q_asgP (ev_cellrow (k := 2 + k) (n := shR z) rfl ((ev_add evp_int (evp_var rfl)).to (by congr 1)) (ev_ix (f := Dat.int) (shR_at h4) (EvP.to (evp_lst (by walk_at "ev") (by show 4 ≤ 100000; decide)) (by rfl)) (evp_var rfl)) (by omega) (by omega)) fun d hd => ?_
  obtain ⟨r, rfl, hr1, hr2⟩ := hd
  refine q_asgOL eo_nil ?_
  refine q_forM (l := List.range gr.length) (enc := fun k : Nat => .int (k : Int)) (fun pre δ' => ∃ (l : List Tm) (x y : Option Sl), (l.map (·.1)).Sublist (gr.take pre.length) ∧ (∀ t ∈ l, Pz (shN z) (shK z) t.2 ∧ t.2.1 ≠ 0) ∧
      δ' = [some (.imm (.scr ns)), some (.imm (.int (k : Int))), some (.imm (.lst (gr.map adr))), some (.imm (.int (z : Int))), some (.imm (roI r)), some (.ol (l.map tmD)), x, y])
    (evi_rangeN (eva_cons (ev_len (evp_var rfl)) eva_nil) (by omega)) ⟨[], _, _, List.Sublist.refl _, (fun t h => nomatch h), rfl⟩ ?_ ?_
  · rintro pre j _ hp ⟨l, x, y, g1, g2, rfl⟩
    obtain ⟨rfl, hj⟩ := range_at hp
    have hpl : pre.length < 4 := by omega
    have hl : l.length ≤ 4 := by
      have h := g1.length_le
      rw [List.length_map, List.length_take] at h
      omega
    refine ⟨_, _, evg_name, ?_⟩
    refine q_asgP (evp_call (r, pre.length, z) (by walk_at "ev") ⟨hr1, (by show pre.length ≤ 4; omega), h4⟩) fun d hd => ?_
    obtain ⟨a, rfl, ha⟩ := hd
    have ha : Pz (shN z) (shK z) a := ha
    have tk : gr.take (pre ++ [pre.length]).length = gr.take pre.length ++ [gr[pre.length]] := by
      rw [List.length_append, List.length_singleton, List.take_add_one, List.getElem?_eq_getElem hj]; rfl
    refine t_when (b := decide (0 < rget r pre.length % 4) && !(a.1 == 0)) (evb_and (evb_test (ev_gt (ev_mod (by decide) (ev_row hr1 (by omega) (evp_var rfl) (evp_var rfl)) evp_int) evp_int)) fun _ => evb_test (ev_neI (ev_a0 (evp_var rfl)) evp_int)) (fun c => ?_) fun c => ?_
    · have c2 : a.1 ≠ 0 := by
        rw [Bool.and_eq_true] at c
        simpa using c.2
      refine t_app (i := 5) rfl (A := Eq (tmD (gr[pre.length], a))) (ev_two (ev_ix (f := adr) (List.getElem?_eq_getElem hj) (evp_var rfl) (evp_var rfl)) (evp_var rfl)) (by rw [List.length_map]; omega) fun d e => ?_
      subst e
      refine ⟨l ++ [(gr[pre.length], a)], _, _, ?_, all_snoc g2 ⟨ha, c2⟩, by rw [List.map_append]; rfl⟩
      rw [tk, List.map_append]
      exact List.Sublist.append g1 (List.Sublist.refl _)
    · refine ⟨l, _, _, ?_, g2, rfl⟩
      rw [tk]
      exact g1.trans (List.sublist_append_left _ _)
  · rintro _ ⟨l, x, y, g1, g2, rfl⟩
    refine t_freeze 5 rfl rfl ?_
    rw [List.length_range, List.take_length] at g1
    have hl : l.length ≤ 4 := by
      have h := g1.length_le
      rw [List.length_map] at h
      omega
    refine t_ret (A := fun d => ∃ s, d = .lst [smD s, roI r] ∧ SuG gr (shN z) (shK z) s) (ev_lstP2 (Q1 := fun d => ∃ s, d = smD s ∧ SuG gr (shN z) (shK z) s) (Q2 := Eq (roI r)) (ev_twoP (Q1 := Eq (.tup (l.map tmD))) (Q2 := fun d => ∃ a, d = am a ∧ Pz (shN z) (shK z) a) (evp_cb (eva_cons (evp_var rfl) eva_nil) (rc_tup (.lst _))) (evp_call (r, 4, z) (eva_cons (evp_var rfl) (eva_cons evp_int (eva_cons (evp_var rfl) eva_nil))) ⟨hr1, (by show 4 ≤ 4; decide), h4⟩) fun x y hx hy => ?_) (evp_var rfl) fun x y hx hy => ?_) fun d hd => ?_
    · obtain ⟨a, rfl, q⟩ := hy
      subst hx
      exact ⟨(l, a), rfl, ⟨List.Nodup.sublist g1 h2, fun t ht => (g2 t ht).1.pos, fun t ht => (g2 t ht).2, q.pos⟩, fun t ht => g1.subset (List.mem_map.mpr ⟨t, ht, rfl⟩), fun t ht => (g2 t ht).1, q⟩
    · obtain ⟨s, rfl, q⟩ := hx
      subst hy
      exact ⟨s, rfl, q⟩
    · obtain ⟨s, rfl, q⟩ := hd
      exact ⟨s, r, rfl, q, Nat.le_trans z1 hr1.len, hr1.rg⟩
/-! ### fitted sums -/
def fitS (s : Su) (p : Pnt) (g : Am) : Su := (s.1, pls s.2 (0 - (pls (valS s p) g).1, (pls (valS s p) g).2))
structure PreFit (ev : List Ad) (s : Su) (p : Pnt) (g : Am) : Prop where
  e4 : ev.length ≤ 4
  s : SuG ev 90 4 s
  p : PtG ev 5 2 p
  g : Pz 6 6 g
theorem Pz.negz {n k : Nat} {a : Am} (h : Pz n k a) : Pz n k (0 - a.1, a.2) := by
  rw [Int.zero_sub]
  exact h.neg
theorem fit_g {ev : List Ad} {s : Su} {p : Pnt} {g : Am} (h : PreFit ev s p g) : SuG ev 140 40 (fitS s p g) := by
  have v := valS_g h.s h.p h.e4
  have v2 : Pz 134 34 (pls (valS s p) g) := pz_pls v h.g (by decide) (by decide) (by decide)
  have c := pz_pls (N := 140) (K := 40) h.s.cz v2.negz (by decide) (by decide) (by decide)
  exact ⟨⟨h.s.ok.nd, h.s.ok.pos, h.s.ok.nz, c.pos⟩, h.s.mem, fun t ht => (h.s.tz t ht).mono (by decide) (by decide), c⟩
abbrev SpFit (K : PySem.W.Frag) : Sp := SpD K (fun a : List Ad × Su × Pnt × Am => [smD a.2.1, ptD a.2.2.1, am a.2.2.2]) (fun a => PreFit a.1 a.2.1 a.2.2.1 a.2.2.2) fun a d => ∃ s, d = smD s ∧ SuG a.1 140 40 s
theorem ok_law_fitted (T : Tx P K mg base) (C_law_plus : Cal P w K mg base 37 "_law_plus" ["_law_one", "_law_two"] [] (SpLpl K)) (C_law_value : Cal P w K mg base 38 "_law_value" ["_law_one", "_law_point"] [] (SpVaL K)) :
    Cal P w K mg base 39 "_law_fitted" ["_law_one", "_law_point", "_law_gap_here"] [] (SpFit K) := by
  refine cal_of (k := 38) T.d_law_fitted scLawFitted (fun _ => rfl) (fun _ _ _ _ _ _ us hl => match us, hl with | [_, _, _], _ => rfl) fun cdv f A outer s H Q E hr => ?_
  have hu := hu_of hr
  refine ⟨_, (pss_cons (ps_set (i := 3) scLawFitted.nd rfl (Or.inl rfl) (pe_cal C_law_plus (hr.mono (by decide)) (by rfl) (pa_cons (pe_cal C_law_value hr (by rfl) (pa_cons (pv 0) (pa_cons (pv 1) pa_nil))) (pa_cons (pv 2) pa_nil))))
  (pss_one (ps_ret (pe_tup (pa_cons (pe_ix (ixK (K := K)) (pv 0) pe_int (fun _ _ => rfl)) (pa_cons (pe_cal C_law_plus (hr.mono (by decide)) (by rfl) (pa_cons (pe_ix (ixK (K := K)) (pv 0) pe_int (fun _ _ => rfl)) (pa_cons (pe_tup (pa_cons (pe_op op_sub pe_int (pe_ix (ixK (K := K)) (pv 3) pe_int (fun _ _ => rfl))) (pa_cons (pe_ix (ixK (K := K)) (pv 3) pe_int (fun _ _ => rfl)) pa_nil))) pa_nil))) pa_nil)))))), fun a ha => ?_⟩
  obtain ⟨ev, s, p, g⟩ := a
  have ha : PreFit ev s p g := ha
  try dsimp only [cxK]
  have v := valS_g ha.s ha.p ha.e4
  have v2 : Pz 134 34 (pls (valS s p) g) := pz_pls v ha.g (by decide) (by decide) (by decide)
  refine q_asg (evp_callE (valS s p, g) (eva_cons (evp_callE (s, p) (by walk_at "ev") (pre_vaL (N := 200) ha.s ha.p ha.e4 (by decide) (by decide) (by decide)) fun d q => q) (eva_cons (evp_var rfl) eva_nil)) (v.pmL ha.g (by decide)) fun d q => q) ?_
  refine t_ret (A := Eq (smD (fitS s p g))) (ev_two (evp_op (evp_var rfl) evp_int (rv_ix (.tup _) rfl)) (evp_callE (s.2, (0 - (pls (valS s p) g).1, (pls (valS s p) g).2)) (eva_cons (evp_op (evp_var rfl) evp_int (rv_ix (.tup _) rfl)) (eva_cons (ev_am (ev_sub evp_int (ev_a0 (evp_var rfl))) (ev_a1 (evp_var rfl))) eva_nil)) (ha.s.cz.pmL v2.negz (by decide)) fun d q => q)) fun d e => ⟨_, e.symm, fit_g ha⟩
end
end Tf
/-! text TfAJ -/
/-! the builders of the systems, walked: around, free, multiples -/
namespace Tf
open PySem PySem.Spec PyProof.Rows L2
local macro_rules | `(tactic| walk_at "ev1") => `(tactic| first
  | with_reducible exact evp_int | with_reducible exact evp_bl | with_reducible exact evp_str | with_reducible exact evp_non | with_reducible exact evp_gamA | with_reducible exact evp_gam | (with_reducible apply evp_var; (with_unfolding_all exact rfl))
  | with_reducible exact eva_nil | with_reducible apply eva_cons
  | with_reducible apply evp_op | (with_reducible apply evp_un (hr := ru_int)) | with_reducible apply evp_cb
  | with_reducible apply evp_tup' | (with_reducible show List.length _ ≤ 100000; simp; done)
  | with_reducible exact rv_int | with_reducible exact rv_bl | with_reducible apply rv_intC | with_reducible exact rv_eq (.int _ _) | with_reducible exact rv_ne (.int _ _)
  | (with_reducible apply rv_ix; (first | (with_unfolding_all exact Sq.tup _) | (with_unfolding_all exact Sq.lst _) | (with_reducible apply Sqx.sq; with_reducible assumption)); (with_unfolding_all exact rfl))
  | with_reducible exact rc_gcd
  | with_reducible exact rc_tupA | with_reducible exact rc_tupM
  | (with_reducible apply rc_tup; (first | (with_unfolding_all exact Sq.tup _) | (with_unfolding_all exact Sq.lst _) | (with_reducible apply Sqx.sq; with_reducible assumption)))
  | (with_reducible apply rc_lst; (first | (with_unfolding_all exact Sq.tup _) | (with_unfolding_all exact Sq.lst _) | (with_reducible apply Sqx.sq; with_reducible assumption)))
  | (with_reducible apply rc_len; (first | (with_unfolding_all exact Sq.tup _) | (with_unfolding_all exact Sq.lst _) | (with_reducible apply Sqx.sq; with_reducible assumption)))
  | with_reducible apply rv_cat
  | with_reducible exact evb_yes
  | with_reducible apply evb_test | with_reducible apply evb_B | with_reducible apply evb_not | with_reducible apply evb_and | with_reducible apply evb_or | with_reducible apply evp_and | with_reducible apply evp_or | with_reducible apply evp_not
  | (with_reducible refine fun _ => ?_))
local macro_rules | `(tactic| walk_at "ev") => `(tactic| repeat' walk_at "ev1")
structure EvOk (ev : List Ad) : Prop where
  e0 : ∀ x ∈ ev, x ≠ []
  e4 : ev.length ≤ 4
section
variable {K : PySem.W.Frag} {m : Option LkM} {δ δ' : De} {te ta tb tc : TE} {tt tu : TT} {ts t1 t2 t3 : TS} {A R : Dat → Prop} {P : Pt} {x y z d : Dat} {ds : List Dat} {i j : Nat}
theorem q_ifI {b : Bool} (I : De → Prop) (h : EvB K m tt δ b) (h1 : b = true → T K m t1 δ { P with nx := I }) (h2 : b = false → I δ) (k : ∀ δ', I δ' → T K m t3 δ' P) : T K m (tSeq (tIfS tt t1 tNext) t3) δ P :=
  t_seq (t_if h (fun e => (h1 e).imp (fun δ' q => k δ' q) (fun _ q => q) (fun _ q => q) fun _ q => q) fun e => t_next (k _ (h2 e)))
theorem ev_su {ev : List Ad} {n k : Nat} {s : Su} (h : EvP K m te δ (Eq (smD s))) (q : SuG ev n k s) : EvP K m te δ (fun d => ∃ s, d = smD s ∧ SuG ev n k s) := ev_ex h q
theorem ev_amz {n k : Nat} {a : Am} (h : EvP K m te δ (Eq (am a))) (q : Pz n k a) : EvP K m te δ (fun d => ∃ a, d = am a ∧ Pz n k a) := ev_ex h q
theorem ev_01 : EvP K m (tTup (tCons (tC (.int 0)) (tCons (tC (.int 1)) tNil))) δ (Eq (am (0, 1))) := ev_am evp_int evp_int
theorem ev_11 : EvP K m (tTup (tCons (tC (.int 1)) (tCons (tC (.int 1)) tNil))) δ (Eq (am (1, 1))) := ev_am evp_int evp_int
theorem ev_n1 : EvP K m (tTup (tCons (tUn (rU fun i => .int (-i)) (tC (.int 1))) (tCons (tC (.int 1)) tNil))) δ (Eq (am (-1, 1))) := ev_am (ev_neg evp_int) evp_int
theorem pz11 : Pz 1 0 (1, 1) := pz_of ⟨by decide, by decide⟩ ⟨by decide, by decide⟩
theorem pzn1 : Pz 1 0 (-1, 1) := pz_of ⟨by decide, by decide⟩ ⟨by decide, by decide⟩
theorem sug_con {ev : List Ad} {n k : Nat} {a : Am} (h : Pz n k a) : SuG ev n k ([], a) := ⟨⟨List.nodup_nil, fun t h => (nomatch h), fun t h => (nomatch h), h.pos⟩, fun t h => (nomatch h), fun t h => (nomatch h), h⟩
/-- a constant as a sum -/
theorem ev_con {ev : List Ad} {n k : Nat} (h : EvP K m te δ (fun d => ∃ a, d = am a ∧ Pz n k a)) : EvP K m (tTup (tCons (tTup tNil) (tCons te tNil))) δ (fun d => ∃ s, d = smD s ∧ SuG ev n k s) :=
  ev_twoP (Q1 := Eq (.tup [])) ev_nil h fun x y hx hy => by
    obtain ⟨a, rfl, q⟩ := hy
    subst hx
    exact ⟨([], a), rfl, sug_con q⟩
theorem sug_one {ev : List Ad} {a : Ad} {n k : Nat} {f : Am} (ha : a ∈ ev) (hf : Pz n k f) (hz : f.1 ≠ 0) (hn : 1 ≤ n) : SuG ev n k ([(a, f)], (0, 1)) := by
  have one : ∀ t ∈ [(a, f)], t = (a, f) := fun t ht => List.mem_singleton.mp ht
  exact ⟨⟨by simp, fun t ht => by rw [one t ht]; exact hf.pos, fun t ht => by rw [one t ht]; exact hz, by show (0 : Int) < 1; decide⟩, fun t ht => by rw [one t ht]; exact ha, fun t ht => by rw [one t ht]; exact hf, pz01.mono hn (Nat.zero_le _)⟩
/-- one address by a factor -/
theorem ev_unit {a : Ad} {f : Am} (e1 : EvP K m ta δ (Eq (adr a))) (e2 : EvP K m tb δ (Eq (am f))) : EvP K m (tTup (tCons (tTup (tCons (tTup (tCons ta (tCons tb tNil))) tNil)) (tCons (tTup (tCons (tC (.int 0)) (tCons (tC (.int 1)) tNil))) tNil))) δ (Eq (smD ([(a, f)], (0, 1)))) :=
  ev_two (evp_tup' (eva_cons (ev_two e1 e2) eva_nil) (by show 1 ≤ 100000; decide)) ev_01
theorem ev_addP {ev : List Ad} {n1 k1 n2 k2 nf kf N k : Nat} (E : EvOk ev) (ea : EvP K none ta δ (fun d => ∃ s, d = smD s ∧ SuG ev n1 k1 s)) (eb : EvP K none tb δ (fun d => ∃ s, d = smD s ∧ SuG ev n2 k2 s)) (ec : EvP K none tc δ (fun d => ∃ a, d = am a ∧ Pz nf kf a))
    (e0 : 1 ≤ n1) (e1 : n1 + k2 + kf + 1 ≤ N) (e2 : nf + n2 + k1 + 1 ≤ N) (e3 : k1 + k2 + kf ≤ k) (e : n1 + n2 + nf + k1 + k2 + kf ≤ 498800) :
    EvP K none (tCall (SpLad K) [] E0 (tCons ta (tCons tb (tCons tc tNil)))) δ (fun d => ∃ s, d = smD s ∧ SuG ev N k s) :=
  ev_callP (eva_3 ea eb ec) fun ds hds => by
    obtain ⟨x, y, z, rfl, ⟨s1, rfl, q1⟩, ⟨s2, rfl, q2⟩, ⟨a, rfl, q3⟩⟩ := hds
    exact ⟨(s1, s2, a), rfl, lawAdd_pre E.e0 E.e4 q1 q2 q3 e, fun d hd => ⟨_, hd, lawAdd_g q1 q2 q3 e0 e1 e2 e3⟩⟩
/-- found[n][0] -/
theorem ev_fnd {l : List En} {n : Nat} {e : En} (h : l[n]? = some e) (hi : LAt δ i (l.map enD)) (e2 : EvP K m tb δ (Eq (.int (n : Int)))) : EvP K m (tOp (rIx K) (tOp (rIx K) (tVar i) tb) (tC (.int 0))) δ (Eq (smD e.1)) :=
  evp_op (evp_ixO hi e2 (len_ix (f := enD) h)) evp_int (rv_ix (.lst _) rfl)
end
/-- sums and rows that go together -/
structure PreLot (ev : List Ad) (sums : List Su) (rows : List (List Int)) (n k : Nat) : Prop where
  ok : EvOk ev
  len : rows.length = sums.length
  l16 : sums.length ≤ 16
  s : ∀ s ∈ sums, SuG ev n k s
  r : ∀ r ∈ rows, RowR r 20
theorem PreLot.at {ev : List Ad} {sums : List Su} {rows : List (List Int)} {n k i : Nat} (h : PreLot ev sums rows n k) (hi : i < sums.length) : ∃ s r, sums[i]? = some s ∧ rows[i]? = some r ∧ SuG ev n k s ∧ RowR r 20 := by
  have e1 := List.getElem?_eq_getElem hi
  have hi2 : i < rows.length := by rw [h.len]; exact hi
  have e2 := List.getElem?_eq_getElem hi2
  exact ⟨_, _, e1, e2, h.s _ (List.mem_of_getElem? e1), h.r _ (List.mem_of_getElem? e2)⟩
def LotR (ev : List Ad) (N : Nat) (d : Dat) : Prop := ∃ l : List En, d = .lst (l.map enD) ∧ l.length = N ∧ ∀ e ∈ l, EnG ev e
section
variable {P : Program} {w : World} {K : PySem.W.Frag} {mg : Str → Option Value} {base : Heap}
abbrev SpAro (K : PySem.W.Frag) : Sp := SpD K (fun a : List Ad × List Su × List (List Int) × Pnt => [.lst (a.2.1.map smD), .lst (a.2.2.1.map roI), ptD a.2.2.2]) (fun a => PreLot a.1 a.2.1 a.2.2.1 90 4 ∧ PtG a.1 5 2 a.2.2.2) fun a d => LotR a.1 a.2.1.length d
theorem ok_law_around (T : Tx P K mg base) (C_law_fitted : Cal P w K mg base 39 "_law_fitted" ["_law_one", "_law_point", "_law_gap_here"] [] (SpFit K)) (C_law_gap : Cal P w K mg base 36 "_law_gap" ["_law_row_here", "_law_strict"] [] (SpGap K)) :
    Cal P w K mg base 40 "_law_around" ["_law_sums", "_law_rows", "_law_point"] [] (SpAro K) := by
  refine cal_of (k := 39) T.d_law_around scLawAround (fun _ => rfl) (fun _ _ _ _ _ _ us hl => match us, hl with | [_, _, _], _ => rfl) fun cdv f A outer s H Q E hr => ?_
  have hu := hu_of hr
  refine ⟨_, (pss_cons (ps_set (i := 3) scLawAround.nd rfl (Or.inl rfl) (pe_lst pa_nil))
  (pss_cons (ps_for PassesOwn.never rfl (pi_range1 rfl T.n_range (pa_cons (pe_callB (cr_len (K := K)) (by rfl) T.n_len (by decide +kernel) (pa_cons (pv 0) pa_nil)) pa_nil)) (pg_name (i := 4) scLawAround.nd rfl (Or.inl rfl)) (pss_cons (ps_set (i := 5) scLawAround.nd rfl (Or.inl rfl) (pe_cmpR op_eq (pe_op op_mod (pe_ix (ixK (K := K)) (pe_ix (ixK (K := K)) (pv 1) (pv 4) (fun _ _ => rfl)) pe_int (fun _ _ => rfl)) pe_int) pe_int (nomark _)))
  (pss_one (ps_expr (pe_bm PySem.F.plainAttrs_list PySem.F.slot_list_append PySem.F.type_list_append mt_append (pv 3) (pa_cons (pe_lst (pa_cons (pe_cal C_law_fitted hr (by rfl) (pa_cons (pe_ix (ixK (K := K)) (pv 0) (pv 4) (fun _ _ => rfl)) (pa_cons (pv 2) (pa_cons (pe_cal C_law_gap (hr.mono (by decide)) (by rfl) (pa_cons (pe_ix (ixK (K := K)) (pv 1) (pv 4) (fun _ _ => rfl)) (pa_cons (pv 5) pa_nil))) pa_nil)))) (pa_cons (pv 5) (pa_cons (pe_tup (pa_cons pe_int (pa_cons pe_int pa_nil))) pa_nil)))) pa_nil))))))
  (pss_one (ps_ret (pv 3))))), fun a ha => ?_⟩
  obtain ⟨ev, sums, rows, p⟩ := a
  obtain ⟨h1, h2⟩ := ha
  have h1 : PreLot ev sums rows 90 4 := h1
  have h2 : PtG ev 5 2 p := h2
  try dsimp only [cxK]
  refine q_asgOL eo_nil ?_
  refine q_forM (l := List.range sums.length) (enc := fun k : Nat => .int (k : Int)) (fun pre δ' => ∃ (l : List En) (x y : Option Sl), l.length = pre.length ∧ (∀ e ∈ l, EnG ev e) ∧
      δ' = [some (.imm (.lst (sums.map smD))), some (.imm (.lst (rows.map roI))), some (.imm (ptD p)), some (.ol (l.map enD)), x, y])
    (evi_rangeN (eva_cons (ev_len (evp_var rfl)) eva_nil) (by have := h1.l16; omega)) ⟨[], _, _, rfl, (fun e h => nomatch h), rfl⟩ ?_ ?_
  · rintro pre j _ hp ⟨l, x, y, g1, g2, rfl⟩
    obtain ⟨rfl, hj⟩ := range_at hp
    obtain ⟨s, r, es, er, hs, hr⟩ := h1.at hj
    have := h1.l16
    refine ⟨_, _, evg_name, ?_⟩
    refine q_asg (ev_eqI (ev_mod (by decide) (ev_rr 4 er hr (by decide) (evp_var rfl) (evp_var rfl)) evp_int) evp_int) ?_
    refine t_appE (i := 3) (l := l) rfl (ev_entry (Qs := SuG ev 140 40) (Qa := Pz 1 0) (ev_callP (eva_3 (ev_ix es (evp_var rfl) (evp_var rfl)) (evp_var (d := ptD p) rfl) (evp_call (r, (rget r 4 % 2 == 0)) (eva_cons (ev_ix er (evp_var rfl) (evp_var rfl)) (eva_cons (evp_var rfl) eva_nil)) ⟨Nat.le_trans (by decide) hr.len, hr.rg⟩)) fun ds hds => ?_) (ev_bex (evp_var rfl)) (ev_amz ev_01 pz01)) (by omega) fun e he => ?_
    · obtain ⟨x, y, z, rfl, rfl, rfl, ⟨g, rfl, hg⟩⟩ := hds
      exact ⟨(ev, s, p, g), rfl, ⟨h1.ok.e4, hs, h2, hg⟩, fun d hd => hd⟩
    · exact ⟨_, _, _, by rw [List.length_append, List.length_append, g1]; rfl, all_snoc g2 ⟨he.1.mono (by decide) (by decide), he.2.mono (by decide) (by decide)⟩, rfl⟩
  · rintro _ ⟨l, x, y, g1, g2, rfl⟩
    rw [List.length_range] at g1
    exact t_freeze 3 rfl rfl (t_ret (A := Eq _) (evp_var rfl) fun d e => ⟨l, e.symm, g1, g2⟩)
abbrev SpFre (K : PySem.W.Frag) : Sp := SpD K (fun a : List Ad × List Su × List (List Int) × Bool => [.lst (a.2.1.map smD), .lst (a.2.2.1.map roI), .bl a.2.2.2]) (fun a => PreLot a.1 a.2.1 a.2.2.1 100 100) fun a d => LotR a.1 a.2.1.length d
theorem ok_law_free (T : Tx P K mg base) : Cal P w K mg base 36 "_law_free" ["_law_sums", "_law_rows", "_law_bare"] [] (SpFre K) := by
  refine cal_of (k := 35) T.d_law_free scLawFree (fun _ => rfl) (fun _ _ _ _ _ _ us hl => match us, hl with | [_, _, _], _ => rfl) fun cdv f A outer s H Q E hr => ?_
  have hu := hu_of hr
  refine ⟨_, (pss_cons (ps_set (i := 3) scLawFree.nd rfl (Or.inl rfl) (pe_lst pa_nil))
  (pss_cons (ps_for PassesOwn.never rfl (pi_range1 rfl T.n_range (pa_cons (pe_callB (cr_len (K := K)) (by rfl) T.n_len (by decide +kernel) (pa_cons (pv 0) pa_nil)) pa_nil)) (pg_name (i := 4) scLawFree.nd rfl (Or.inl rfl)) (pss_cons (ps_set (i := 5) scLawFree.nd rfl (Or.inl rfl) (pe_ix (ixK (K := K)) (pv 0) (pv 4) (fun _ _ => rfl)))
  (pss_cons (ps_if (PW.pt (pw_and (pt_val (pv 2)) (pw_and1 (pt_cmpR op_eq (pe_op op_mod (pe_ix (ixK (K := K)) (pe_ix (ixK (K := K)) (pv 1) (pv 4) (fun _ _ => rfl)) pe_int (fun _ _ => rfl)) pe_int) pe_int (nomark _))))) (pss_one (ps_set (i := 5) scLawFree.nd rfl (Or.inl rfl) (pe_tup (pa_cons (pe_tup pa_nil) (pa_cons (pe_ix (ixK (K := K)) (pv 5) pe_int (fun _ _ => rfl)) pa_nil))))) pss_nil)
  (pss_one (ps_expr (pe_bm PySem.F.plainAttrs_list PySem.F.slot_list_append PySem.F.type_list_append mt_append (pv 3) (pa_cons (pe_lst (pa_cons (pv 5) (pa_cons (pe_cmpR op_eq (pe_op op_mod (pe_ix (ixK (K := K)) (pe_ix (ixK (K := K)) (pv 1) (pv 4) (fun _ _ => rfl)) pe_int (fun _ _ => rfl)) pe_int) pe_int (nomark _)) (pa_cons (pe_tup (pa_cons pe_int (pa_cons pe_int pa_nil))) pa_nil)))) pa_nil)))))))
  (pss_one (ps_ret (pv 3))))), fun a ha => ?_⟩
  obtain ⟨ev, sums, rows, b⟩ := a
  have h1 : PreLot ev sums rows 100 100 := ha
  try dsimp only [cxK]
  refine q_asgOL eo_nil ?_
  refine q_forM (l := List.range sums.length) (enc := fun k : Nat => .int (k : Int)) (fun pre δ' => ∃ (l : List En) (x y : Option Sl), l.length = pre.length ∧ (∀ e ∈ l, EnG ev e) ∧
      δ' = [some (.imm (.lst (sums.map smD))), some (.imm (.lst (rows.map roI))), some (.imm (.bl b)), some (.ol (l.map enD)), x, y])
    (evi_rangeN (eva_cons (ev_len (evp_var rfl)) eva_nil) (by have := h1.l16; omega)) ⟨[], _, _, rfl, (fun e h => nomatch h), rfl⟩ ?_ ?_
  · rintro pre j _ hp ⟨l, x, y, g1, g2, rfl⟩
    obtain ⟨rfl, hj⟩ := range_at hp
    obtain ⟨s, r, es, er, hs, hr⟩ := h1.at hj
    have := h1.l16
    refine ⟨_, _, evg_name, ?_⟩
    refine q_asg (ev_ix es (evp_var rfl) (evp_var rfl)) ?_
    refine q_ifI (fun δ' => ∃ s, SuG ev 100 100 s ∧ δ' = [some (.imm (.lst (sums.map smD))), some (.imm (.lst (rows.map roI))), some (.imm (.bl b)), some (.ol (l.map enD)), some (.imm (.int ((pre.length : Nat) : Int))), some (.imm (smD s))])
      (evb_and (evb_B (evp_var rfl)) fun _ => evb_test (ev_eqI (ev_mod (by decide) (ev_rr 8 er hr (by decide) (evp_var rfl) (evp_var rfl)) evp_int) evp_int)) (fun _ => ?_) (fun _ => ⟨s, hs, rfl⟩) ?_
    · refine t_asg (A := Eq (smD ([], s.2))) (ev_two ev_nil (evp_op (evp_var rfl) evp_int (rv_ix (.tup _) rfl))) fun d e => ?_
      subst e
      exact ⟨_, sug_con hs.cz, rfl⟩
    · rintro _ ⟨s, hs, rfl⟩
      refine t_appE (i := 3) (l := l) rfl (ev_entry (Qs := SuG ev 100 100) (Qa := Pz 1 0) (ev_su (evp_var rfl) hs) (ev_bex (ev_eqI (ev_mod (by decide) (ev_rr 4 er hr (by decide) (evp_var rfl) (evp_var rfl)) evp_int) evp_int)) (ev_amz ev_01 pz01)) (by omega) fun e he => ?_
      exact ⟨_, _, _, by rw [List.length_append, List.length_append, g1]; rfl, all_snoc g2 ⟨he.1.mono (by decide) (by decide), he.2.mono (by decide) (by decide)⟩, rfl⟩
  · rintro _ ⟨l, x, y, g1, g2, rfl⟩
    rw [List.length_range] at g1
    exact t_freeze 3 rfl rfl (t_ret (A := Eq _) (evp_var rfl) fun d e => ⟨l, e.symm, g1, g2⟩)
abbrev SpMul (K : PySem.W.Frag) : Sp := SpD K (fun a : List Ad × List Su × List (List Int) => [.lst (a.2.1.map smD), .lst (a.2.2.map roI)]) (fun a => PreLot a.1 a.2.1 a.2.2 90 4) fun a d => LotR a.1 a.2.1.length d
theorem ok_law_multiples (T : Tx P K mg base) (C_law_add : Cal P w K mg base 38 "_law_add" ["_law_one", "_law_two", "_law_factor"] [] (SpLad K)) (C_law_shift : Cal P w K mg base 36 "_law_shift" ["_law_row_here"] [] (SpShi K)) :
    Cal P w K mg base 39 "_law_multiples" ["_law_sums", "_law_rows"] [] (SpMul K) := by
  refine cal_of (k := 38) T.d_law_multiples scLawMultiples (fun _ => rfl) (fun _ _ _ _ _ _ us hl => match us, hl with | [_, _], _ => rfl) fun cdv f A outer s H Q E hr => ?_
  have hu := hu_of hr
  have hB := big_of (f := f) (cd := cdv) (A := A) (outer := outer) (s := s) (H := H) (E := E) (w := w) (mg := mg) T scLawMultiples hr
  refine ⟨_, (pss_cons (ps_set (i := 2) scLawMultiples.nd rfl (Or.inl rfl) (pe_op (op_fdivB hB) (pe_op op_add (pe_callB (cr_len (K := K)) (by rfl) T.n_len (by decide +kernel) (pa_cons (pv 0) pa_nil)) pe_int) pe_int))
  (pss_cons (ps_set (i := 3) scLawMultiples.nd rfl (Or.inl rfl) (pe_lst pa_nil))
  (pss_cons (ps_for PassesOwn.never rfl (pi_range1 rfl T.n_range (pa_cons (pe_callB (cr_len (K := K)) (by rfl) T.n_len (by decide +kernel) (pa_cons (pv 0) pa_nil)) pa_nil)) (pg_name (i := 4) scLawMultiples.nd rfl (Or.inl rfl)) (pss_cons (ps_set (i := 5) scLawMultiples.nd rfl (Or.inl rfl) (pe_ix (ixK (K := K)) (pv 0) (pv 4) (fun _ _ => rfl)))
  (pss_cons (ps_if (pt_cmpR op_ge (pv 4) (pv 2) (nomark _)) (pss_cons (ps_set (i := 6) scLawMultiples.nd rfl (Or.inl rfl) (pe_ix (ixK (K := K)) (pe_lst (pa_cons (pe_tup (pa_cons pe_int (pa_cons pe_int pa_nil))) (pa_cons (pe_tup (pa_cons pe_int (pa_cons pe_int pa_nil))) (pa_cons (pe_tup (pa_cons pe_int (pa_cons pe_int pa_nil))) (pa_cons (pe_tup (pa_cons (pe_un un_neg pe_int) (pa_cons pe_int pa_nil))) (pa_cons (pe_tup (pa_cons (pe_un un_neg pe_int) (pa_cons pe_int pa_nil))) (pa_cons (pe_tup (pa_cons pe_int (pa_cons pe_int pa_nil))) pa_nil))))))) (pe_op op_mod (pe_ix (ixK (K := K)) (pe_ix (ixK (K := K)) (pv 1) (pv 4) (fun _ _ => rfl)) pe_int (fun _ _ => rfl)) pe_int) (fun _ _ => rfl)))
  (pss_one (ps_set (i := 5) scLawMultiples.nd rfl (Or.inl rfl) (pe_cal C_law_add hr (by rfl) (pa_cons (pe_tup (pa_cons (pe_tup pa_nil) (pa_cons (pe_cal C_law_shift (hr.mono (by decide)) (by rfl) (pa_cons (pe_ix (ixK (K := K)) (pv 1) (pv 4) (fun _ _ => rfl)) pa_nil)) pa_nil))) (pa_cons (pe_ix (ixK (K := K)) (pe_ix (ixK (K := K)) (pv 3) (pe_op op_sub (pv 4) (pv 2)) (fun _ _ => rfl)) pe_int (fun _ _ => rfl)) (pa_cons (pv 6) pa_nil))))))) pss_nil)
  (pss_one (ps_expr (pe_bm PySem.F.plainAttrs_list PySem.F.slot_list_append PySem.F.type_list_append mt_append (pv 3) (pa_cons (pe_lst (pa_cons (pv 5) (pa_cons (pe_cmpR op_eq (pe_op op_mod (pe_ix (ixK (K := K)) (pe_ix (ixK (K := K)) (pv 1) (pv 4) (fun _ _ => rfl)) pe_int (fun _ _ => rfl)) pe_int) pe_int (nomark _)) (pa_cons (pe_tup (pa_cons pe_int (pa_cons pe_int pa_nil))) pa_nil)))) pa_nil)))))))
  (pss_one (ps_ret (pv 3)))))), fun a ha => ?_⟩
  obtain ⟨ev, sums, rows⟩ := a
  have h1 : PreLot ev sums rows 90 4 := ha
  try dsimp only [cxK]
  obtain ⟨hf, hfe⟩ : ∃ hf : Nat, hf = (sums.length + 1) / 2 := ⟨_, rfl⟩
  refine q_asg (d := .int (hf : Int)) ((ev_div (by decide) (ev_add (ev_len (evp_var rfl)) evp_int) evp_int).to (by congr 1; omega)) ?_
  refine q_asgOL eo_nil ?_
  refine q_forM (l := List.range sums.length) (enc := fun k : Nat => .int (k : Int)) (fun pre δ' => ∃ (l : List En) (x y z : Option Sl), l.length = pre.length ∧ (∀ e ∈ l, EnG ev e) ∧ (∀ j e, l[j]? = some e → j < hf → SuG ev 90 4 e.1) ∧
      δ' = [some (.imm (.lst (sums.map smD))), some (.imm (.lst (rows.map roI))), some (.imm (.int (hf : Int))), some (.ol (l.map enD)), x, y, z])
    (evi_rangeN (eva_cons (ev_len (evp_var rfl)) eva_nil) (by have := h1.l16; omega)) ⟨[], _, _, _, rfl, (fun e h => nomatch h), (fun j e h => by simp at h), rfl⟩ ?_ ?_
  · rintro pre j _ hp ⟨l, x, y, z, g1, g2, g3, rfl⟩
    obtain ⟨rfl, hj⟩ := range_at hp
    obtain ⟨s, r, es, er, hs, hr⟩ := h1.at hj
    have := h1.l16
    refine ⟨_, _, evg_name, ?_⟩
    refine q_asg (ev_ix es (evp_var rfl) (evp_var rfl)) ?_
    refine q_ifI (fun δ' => ∃ s z, SuG ev 100 10 s ∧ (pre.length < hf → SuG ev 90 4 s) ∧ δ' = [some (.imm (.lst (sums.map smD))), some (.imm (.lst (rows.map roI))), some (.imm (.int (hf : Int))), some (.ol (l.map enD)), some (.imm (.int ((pre.length : Nat) : Int))), some (.imm (smD s)), z])
      (evb_test (ev_ge (evp_var rfl) (evp_var rfl))) (fun c => ?_) (fun _ => ⟨s, _, hs.mono (by decide) (by decide), fun _ => hs, rfl⟩) ?_
    · have c : (hf : Int) ≤ (pre.length : Nat) := of_decide_eq_true c
      obtain ⟨n, n1, n2⟩ := mod_nat (rget r 8) 6 (by decide)
      have hn : n < [((1 : Int), (1 : Int)), (2, 1), (1, 3), (-1, 1), (-2, 1), (1, 1)].length := by show n < 6; omega
      have hx : Pz 2 2 ([((1 : Int), (1 : Int)), (2, 1), (1, 3), (-1, 1), (-2, 1), (1, 1)].getD n (0, 1)) := by
        have := getD_mem hn (0, 1)
        simp only [List.mem_cons, List.not_mem_nil, or_false] at this
        rcases this with h | h | h | h | h | h <;> rw [h] <;> refine pz_of ⟨?_, ?_⟩ ⟨?_, ?_⟩ <;> decide
      refine q_asg (ev_ix (f := am) (getD_some hn (0, 1)) (evp_lst (eva_cons ev_11 (eva_cons (ev_am evp_int evp_int) (eva_cons (ev_am evp_int evp_int) (eva_cons ev_n1 (eva_cons (ev_am (ev_neg evp_int) evp_int) (eva_cons ev_11 eva_nil)))))) (by show 6 ≤ 100000; decide)) ((ev_mod (by decide) (ev_rr 8 er hr (by decide) (evp_var rfl) (evp_var rfl)) evp_int).to (by rw [n2]))) ?_
      have hlt : pre.length - hf < l.length := by omega
      have el := List.getElem?_eq_getElem hlt
      have hb := g3 _ _ el (by omega)
      refine t_asg (ev_addP (N := 100) (k := 10) h1.ok (ev_con (n := 4) (k := 4) (evp_call r (eva_cons (ev_ix er (evp_var rfl) (evp_var rfl)) eva_nil) ⟨Nat.le_trans (by decide) hr.len, hr.rg⟩)) (ev_su (ev_fnd el (.inl rfl) ((ev_sub (evp_var rfl) (evp_var rfl)).to (by congr 1; omega))) hb) (ev_amz (evp_var rfl) hx) (by decide) (by decide) (by decide) (by decide) (by decide)) fun d hd => ?_
      obtain ⟨s', rfl, hs'⟩ := hd
      exact ⟨s', _, hs', fun z => by omega, rfl⟩
    · rintro _ ⟨s, z, hs, hs2, rfl⟩
      refine t_appE (i := 3) (l := l) rfl (Q := fun e => (SuG ev 100 10 e.1 ∧ (pre.length < hf → SuG ev 90 4 e.1)) ∧ Pz 1 0 e.2.2) (ev_entry (Qs := fun s => SuG ev 100 10 s ∧ (pre.length < hf → SuG ev 90 4 s)) (Qa := Pz 1 0) (ev_ex (evp_var rfl) ⟨hs, hs2⟩) (ev_bex (ev_eqI (ev_mod (by decide) (ev_rr 4 er hr (by decide) (evp_var rfl) (evp_var rfl)) evp_int) evp_int)) (ev_amz ev_01 pz01)) (by omega) fun e he => ?_
      refine ⟨_, _, _, _, by rw [List.length_append, List.length_append, g1]; rfl, all_snoc g2 ⟨he.1.1.mono (by decide) (by decide), he.2.mono (by decide) (by decide)⟩, fun j e' hje hjf => ?_, rfl⟩
      by_cases c : j < l.length
      · rw [List.getElem?_append_left c] at hje
        exact g3 j e' hje hjf
      · rw [List.getElem?_append_right (by omega)] at hje
        have hz : j - l.length = 0 := by
          by_cases d : j - l.length = 0
          · exact d
          · rw [List.getElem?_eq_none (by show 1 ≤ j - l.length; omega)] at hje
            cases hje
        rw [hz] at hje
        have : e = e' := Option.some.inj hje
        rw [← this]
        exact he.1.2 (by omega)
  · rintro _ ⟨l, x, y, z, g1, g2, g3, rfl⟩
    rw [List.length_range] at g1
    exact t_freeze 3 rfl rfl (t_ret (A := Eq _) (evp_var rfl) fun d e => ⟨l, e.symm, g1, g2⟩)
end
end Tf
/-! text TfAK -/
/-! the builders of the systems, walked: hidden, cycle -/
namespace Tf
open PySem PySem.Spec PyProof.Rows L2
local macro_rules | `(tactic| walk_at "ev1") => `(tactic| first
  | with_reducible exact evp_int | with_reducible exact evp_bl | with_reducible exact evp_str | with_reducible exact evp_non | with_reducible exact evp_gamA | with_reducible exact evp_gam | (with_reducible apply evp_var; (with_unfolding_all exact rfl))
  | with_reducible exact eva_nil | with_reducible apply eva_cons
  | with_reducible apply evp_op | (with_reducible apply evp_un (hr := ru_int)) | with_reducible apply evp_cb
  | with_reducible apply evp_tup' | (with_reducible show List.length _ ≤ 100000; simp; done)
  | with_reducible exact rv_int | with_reducible exact rv_bl | with_reducible apply rv_intC | with_reducible exact rv_eq (.int _ _) | with_reducible exact rv_ne (.int _ _)
  | (with_reducible apply rv_ix; (first | (with_unfolding_all exact Sq.tup _) | (with_unfolding_all exact Sq.lst _) | (with_reducible apply Sqx.sq; with_reducible assumption)); (with_unfolding_all exact rfl))
  | with_reducible exact rc_gcd
  | with_reducible exact rc_tupA | with_reducible exact rc_tupM
  | (with_reducible apply rc_tup; (first | (with_unfolding_all exact Sq.tup _) | (with_unfolding_all exact Sq.lst _) | (with_reducible apply Sqx.sq; with_reducible assumption)))
  | (with_reducible apply rc_lst; (first | (with_unfolding_all exact Sq.tup _) | (with_unfolding_all exact Sq.lst _) | (with_reducible apply Sqx.sq; with_reducible assumption)))
  | (with_reducible apply rc_len; (first | (with_unfolding_all exact Sq.tup _) | (with_unfolding_all exact Sq.lst _) | (with_reducible apply Sqx.sq; with_reducible assumption)))
  | with_reducible apply rv_cat
  | with_reducible exact evb_yes
  | with_reducible apply evb_test | with_reducible apply evb_B | with_reducible apply evb_not | with_reducible apply evb_and | with_reducible apply evb_or | with_reducible apply evp_and | with_reducible apply evp_or | with_reducible apply evp_not
  | (with_reducible refine fun _ => ?_))
local macro_rules | `(tactic| walk_at "ev") => `(tactic| repeat' walk_at "ev1")
section
variable {P : Program} {w : World} {K : PySem.W.Frag} {mg : Str → Option Value} {base : Heap}
abbrev SpHid (K : PySem.W.Frag) : Sp := SpD K (fun a : List Ad × List Su × List (List Int) × List Int × Nat => [.lst (a.2.1.map smD), .lst (a.2.2.1.map roI), roI a.2.2.2.1, .int (a.2.2.2.2 : Int)]) (fun a => PreLot a.1 a.2.1 a.2.2.1 90 4 ∧ 1 ≤ a.2.1.length ∧ RowR a.2.2.2.1 20 ∧ 1 ≤ a.2.2.2.2) fun a d => LotR a.1 a.2.1.length d
theorem ok_law_hidden (T : Tx P K mg base) (C_law_add : Cal P w K mg base 38 "_law_add" ["_law_one", "_law_two", "_law_factor"] [] (SpLad K)) (C_law_amount : Cal P w K mg base 36 "_law_amount" ["_law_top", "_law_low"] [] (SpLam K)) (C_law_shift : Cal P w K mg base 36 "_law_shift" ["_law_row_here"] [] (SpShi K)) :
    Cal P w K mg base 39 "_law_hidden" ["_law_sums", "_law_rows", "_law_more", "_law_groups"] [] (SpHid K) := by
  refine cal_of (k := 38) T.d_law_hidden scLawHidden (fun _ => rfl) (fun _ _ _ _ _ _ us hl => match us, hl with | [_, _, _, _], _ => rfl) fun cdv f A outer s H Q E hr => ?_
  have hu := hu_of hr
  have hB := big_of (f := f) (cd := cdv) (A := A) (outer := outer) (s := s) (H := H) (E := E) (w := w) (mg := mg) T scLawHidden hr
  refine ⟨_, (pss_cons (ps_set (i := 4) scLawHidden.nd rfl (Or.inl rfl) (pe_op op_sub (pe_callB (cr_len (K := K)) (by rfl) T.n_len (by decide +kernel) (pa_cons (pv 0) pa_nil)) pe_int))
  (pss_cons (ps_set (i := 5) scLawHidden.nd rfl (Or.inl rfl) (pe_tup (pa_cons (pe_tup pa_nil) (pa_cons (pe_tup (pa_cons pe_int (pa_cons pe_int pa_nil))) pa_nil))))
  (pss_cons (ps_set (i := 6) scLawHidden.nd rfl (Or.inl rfl) (pe_lst pa_nil))
  (pss_cons (ps_for PassesOwn.never rfl (pi_range1 rfl T.n_range (pa_cons (pv 4) pa_nil)) (pg_name (i := 7) scLawHidden.nd rfl (Or.inl rfl)) (pss_cons (ps_set (i := 8) scLawHidden.nd rfl (Or.inl rfl) (pe_tup (pa_cons pe_int (pa_cons pe_int pa_nil))))
  (pss_cons (ps_if (pt_cmpR op_eq (pe_op op_mod (pe_op (op_fdivB hB) (pv 7) pe_int) (pv 3)) (pe_op op_mod (pe_op (op_fdivB hB) (pv 4) pe_int) (pv 3)) (nomark _)) (pss_one (ps_set (i := 8) scLawHidden.nd rfl (Or.inl rfl) (pe_cal C_law_amount (hr.mono (by decide)) (by rfl) (pa_cons (pe_op op_mod (pe_ix (ixK (K := K)) (pv 2) (pv 7) (fun _ _ => rfl)) pe_int) (pa_cons (pe_op op_add pe_int (pe_op op_mod (pe_op (op_fdivB hB) (pe_ix (ixK (K := K)) (pv 2) (pv 7) (fun _ _ => rfl)) pe_int) pe_int)) pa_nil))))) pss_nil)
  (pss_cons (ps_set (i := 5) scLawHidden.nd rfl (Or.inl rfl) (pe_cal C_law_add hr (by rfl) (pa_cons (pv 5) (pa_cons (pe_ix (ixK (K := K)) (pv 0) (pv 7) (fun _ _ => rfl)) (pa_cons (pv 8) pa_nil)))))
  (pss_one (ps_expr (pe_bm PySem.F.plainAttrs_list PySem.F.slot_list_append PySem.F.type_list_append mt_append (pv 6) (pa_cons (pe_lst (pa_cons (pe_ix (ixK (K := K)) (pv 0) (pv 7) (fun _ _ => rfl)) (pa_cons (pe_cmpR op_eq (pe_op op_mod (pe_ix (ixK (K := K)) (pe_ix (ixK (K := K)) (pv 1) (pv 7) (fun _ _ => rfl)) pe_int (fun _ _ => rfl)) pe_int) pe_int (nomark _)) (pa_cons (pv 8) pa_nil)))) pa_nil))))))))
  (pss_cons (ps_set (i := 9) scLawHidden.nd rfl (Or.inl rfl) (pe_cal C_law_add hr (by rfl) (pa_cons (pe_tup (pa_cons (pe_tup pa_nil) (pa_cons (pe_cal C_law_shift (hr.mono (by decide)) (by rfl) (pa_cons (pe_ix (ixK (K := K)) (pv 1) (pv 4) (fun _ _ => rfl)) pa_nil)) pa_nil))) (pa_cons (pv 5) (pa_cons (pe_tup (pa_cons (pe_un un_neg pe_int) (pa_cons pe_int pa_nil))) pa_nil)))))
  (pss_cons (ps_expr (pe_bm PySem.F.plainAttrs_list PySem.F.slot_list_append PySem.F.type_list_append mt_append (pv 6) (pa_cons (pe_lst (pa_cons (pv 9) (pa_cons (pe_cmpR op_eq (pe_op op_mod (pe_ix (ixK (K := K)) (pe_ix (ixK (K := K)) (pv 1) (pv 4) (fun _ _ => rfl)) pe_int (fun _ _ => rfl)) pe_int) pe_int (nomark _)) (pa_cons (pe_tup (pa_cons pe_int (pa_cons pe_int pa_nil))) pa_nil)))) pa_nil)))
  (pss_one (ps_ret (pv 6))))))))), fun a ha => ?_⟩
  obtain ⟨ev, sums, rows, more, g⟩ := a
  obtain ⟨h1, h2, h3, h4⟩ := ha
  have h1 : PreLot ev sums rows 90 4 := h1
  have h2 : 1 ≤ sums.length := h2
  have h3 : RowR more 20 := h3
  have h4 : 1 ≤ g := h4
  have h16 := h1.l16
  try dsimp only [cxK]
  obtain ⟨N, hN⟩ : ∃ N : Nat, sums.length = N + 1 := ⟨sums.length - 1, by omega⟩
  refine q_asg (d := .int (N : Int)) ((ev_sub (ev_len (evp_var rfl)) evp_int).to (by congr 1; omega)) ?_
  refine q_asg (d := smD ([], (0, 1))) (ev_two ev_nil ev_01) ?_
  refine q_asgOL eo_nil ?_
  refine q_forM (l := List.range N) (enc := fun k : Nat => .int (k : Int)) (fun pre δ' => ∃ (l : List En) (t : Su) (x y : Option Sl), l.length = pre.length ∧ (∀ e ∈ l, EnG ev e) ∧ SuG ev (100 + 7 * pre.length) (6 * pre.length) t ∧
      δ' = [some (.imm (.lst (sums.map smD))), some (.imm (.lst (rows.map roI))), some (.imm (roI more)), some (.imm (.int (g : Int))), some (.imm (.int (N : Int))), some (.imm (smD t)), some (.ol (l.map enD)), x, y, none])
    (evi_rangeN (eva_cons (evp_var rfl) eva_nil) (by omega)) ⟨[], _, _, _, rfl, (fun e h => nomatch h), sug_con (pz01.mono (by decide) (by decide)), rfl⟩ ?_ ?_
  · rintro pre j _ hp ⟨l, t, x, y, g1, g2, g3, rfl⟩
    obtain ⟨rfl, hj⟩ := range_at hp
    obtain ⟨s, r, es, er, hs, hr⟩ := h1.at (i := pre.length) (by omega)
    refine ⟨_, _, evg_name, ?_⟩
    refine q_asg ev_01 ?_
    refine q_ifI (fun δ' => ∃ a, Pz 2 2 a ∧ δ' = [some (.imm (.lst (sums.map smD))), some (.imm (.lst (rows.map roI))), some (.imm (roI more)), some (.imm (.int (g : Int))), some (.imm (.int (N : Int))), some (.imm (smD t)), some (.ol (l.map enD)), some (.imm (.int ((pre.length : Nat) : Int))), some (.imm (am a)), none])
      (evb_test (ev_eqI (ev_mod (b := (g : Int)) (by omega) (ev_div (by decide) (evp_var rfl) evp_int) (evp_var rfl)) (ev_mod (b := (g : Int)) (by omega) (ev_div (by decide) (evp_var rfl) evp_int) (evp_var rfl)))) (fun _ => ?_) (fun _ => ⟨_, pz01.mono (by decide) (by decide), rfl⟩) ?_
    · obtain ⟨_, r1, r2⟩ := h3.at (k := pre.length) (by omega)
      have m1 := Int.emod_nonneg (rget more pre.length) (b := 4) (by decide)
      have m2 := Int.emod_lt_of_pos (rget more pre.length) (b := 4) (by decide)
      have m3 := Int.emod_nonneg (rget more pre.length / 4) (b := 3) (by decide)
      have m4 := Int.emod_lt_of_pos (rget more pre.length / 4) (b := 3) (by decide)
      refine t_asg (evp_callE (rget more pre.length % 4, 1 + rget more pre.length / 4 % 3) (eva_cons (ev_mod (by decide) (ev_row h3 (by omega) (evp_var rfl) (evp_var rfl)) evp_int) (eva_cons (ev_add evp_int (ev_mod (by decide) (ev_div (by decide) (ev_row h3 (by omega) (evp_var rfl) (evp_var rfl)) evp_int) evp_int)) eva_nil)) ⟨by show 0 < 1 + rget more pre.length / 4 % 3; omega, lt2_le (le2_of (n := 2) ⟨by omega, by omega⟩) (by decide)⟩ fun d q => q) fun d hd => ?_
      subst hd
      exact ⟨_, pzA ⟨by omega, by omega⟩ ⟨by omega, by omega⟩, rfl⟩
    · rintro _ ⟨a, ha, rfl⟩
      refine q_asgP (ev_addP (N := 100 + 7 * (pre.length + 1)) (k := 6 * (pre.length + 1)) h1.ok (ev_su (evp_var rfl) g3) (ev_su (ev_ix es (evp_var rfl) (evp_var rfl)) hs) (ev_amz (evp_var rfl) ha) (by omega) (by omega) (by omega) (by omega) (by omega)) fun d hd => ?_
      obtain ⟨t', rfl, ht⟩ := hd
      refine t_appE (i := 6) (l := l) rfl (ev_entry (Qs := SuG ev 90 4) (Qa := Pz 2 2) (ev_su (ev_ix es (evp_var rfl) (evp_var rfl)) hs) (ev_bex (ev_eqI (ev_mod (by decide) (ev_rr 4 er hr (by decide) (evp_var rfl) (evp_var rfl)) evp_int) evp_int)) (ev_amz (evp_var rfl) ha)) (by omega) fun e he => ?_
      refine ⟨_, t', _, _, by rw [List.length_append, List.length_append, g1]; rfl, all_snoc g2 ⟨he.1.mono (by decide) (by decide), he.2.mono (by decide) (by decide)⟩, ?_, rfl⟩
      rw [List.length_append, List.length_singleton]
      exact ht
  · rintro _ ⟨l, t, x, y, g1, g2, g3, rfl⟩
    rw [List.length_range] at g1 g3
    obtain ⟨s, r, es, er, hs, hr⟩ := h1.at (i := N) (by omega)
    refine q_asgP (ev_addP (n1 := 4) (k1 := 4) (n2 := 220) (k2 := 100) (nf := 1) (kf := 0) (N := 230) (k := 110) h1.ok (ev_con (evp_call r (eva_cons (ev_ix er (evp_var rfl) (evp_var rfl)) eva_nil) ⟨Nat.le_trans (by decide) hr.len, hr.rg⟩)) (ev_su (evp_var rfl) (g3.mono (by omega) (by omega))) (ev_amz ev_n1 pzn1) (by decide) (by decide) (by decide) (by decide) (by decide)) fun d hd => ?_
    obtain ⟨c, rfl, hc⟩ := hd
    refine t_seq (t_appE (i := 6) (l := l) rfl (ev_entry (Qs := SuG ev 230 110) (Qa := Pz 1 0) (ev_su (evp_var rfl) hc) (ev_bex (ev_eqI (ev_mod (by decide) (ev_rr 4 er hr (by decide) (evp_var rfl) (evp_var rfl)) evp_int) evp_int)) (ev_amz ev_11 pz11)) (by omega) fun e he => ?_)
    refine t_freeze 6 rfl rfl (t_ret (A := Eq _) (evp_var rfl) fun d e' => ⟨l ++ [e], e'.symm, ?_, all_snoc g2 ⟨he.1.mono (by decide) (by decide), he.2.mono (by decide) (by decide)⟩⟩)
    rw [List.length_append, List.length_singleton, g1]
    exact hN.symm
abbrev SpCyc (K : PySem.W.Frag) : Sp := SpD K (fun a : List Ad × List Su × List (List Int) => [.lst (a.2.1.map smD), .lst (a.2.2.map roI), .lst (a.1.map adr)]) (fun a => PreLot a.1 a.2.1 a.2.2 90 4 ∧ 1 ≤ a.1.length) fun a d => LotR a.1 a.2.1.length d
theorem ok_law_cycle (T : Tx P K mg base) (C_law_add : Cal P w K mg base 38 "_law_add" ["_law_one", "_law_two", "_law_factor"] [] (SpLad K)) (C_law_plus : Cal P w K mg base 37 "_law_plus" ["_law_one", "_law_two"] [] (SpLpl K)) (C_law_shift : Cal P w K mg base 36 "_law_shift" ["_law_row_here"] [] (SpShi K)) :
    Cal P w K mg base 39 "_law_cycle" ["_law_sums", "_law_rows", "_law_addresses_here"] [] (SpCyc K) := by
  refine cal_of (k := 38) T.d_law_cycle scLawCycle (fun _ => rfl) (fun _ _ _ _ _ _ us hl => match us, hl with | [_, _, _], _ => rfl) fun cdv f A outer s H Q E hr => ?_
  have hu := hu_of hr
  refine ⟨_, (pss_cons (ps_set (i := 3) scLawCycle.nd rfl (Or.inl rfl) (pe_tup (pa_cons pe_int (pa_cons pe_int pa_nil))))
  (pss_cons (ps_set (i := 4) scLawCycle.nd rfl (Or.inl rfl) (pe_lst pa_nil))
  (pss_cons (ps_for PassesOwn.never rfl (pi_range1 rfl T.n_range (pa_cons (pe_callB (cr_len (K := K)) (by rfl) T.n_len (by decide +kernel) (pa_cons (pv 0) pa_nil)) pa_nil)) (pg_name (i := 5) scLawCycle.nd rfl (Or.inl rfl)) (pss_cons (ps_set (i := 6) scLawCycle.nd rfl (Or.inl rfl) (pe_ix (ixK (K := K)) (pv 0) (pv 5) (fun _ _ => rfl)))
  (pss_cons (ps_if (pt_cmpR op_lt (pv 5) (pe_callB (cr_len (K := K)) (by rfl) T.n_len (by decide +kernel) (pa_cons (pv 2) pa_nil)) (nomark _)) (pss_cons (ps_set (i := 7) scLawCycle.nd rfl (Or.inl rfl) (pe_ix (ixK (K := K)) (pv 6) pe_int (fun _ _ => rfl)))
  (pss_cons (ps_if (pt_cmpR op_eq (pv 5) (pe_op op_sub (pe_callB (cr_len (K := K)) (by rfl) T.n_len (by decide +kernel) (pa_cons (pv 2) pa_nil)) pe_int) (nomark _)) (pss_one (ps_set (i := 7) scLawCycle.nd rfl (Or.inl rfl) (pe_cal C_law_plus (hr.mono (by decide)) (by rfl) (pa_cons (pe_cal C_law_shift (hr.mono (by decide)) (by rfl) (pa_cons (pe_ix (ixK (K := K)) (pv 1) (pv 5) (fun _ _ => rfl)) pa_nil)) (pa_cons (pe_tup (pa_cons (pe_op op_sub pe_int (pe_ix (ixK (K := K)) (pv 3) pe_int (fun _ _ => rfl))) (pa_cons (pe_ix (ixK (K := K)) (pv 3) pe_int (fun _ _ => rfl)) pa_nil))) pa_nil))))) pss_nil)
  (pss_cons (ps_set (i := 3) scLawCycle.nd rfl (Or.inl rfl) (pe_cal C_law_plus (hr.mono (by decide)) (by rfl) (pa_cons (pv 3) (pa_cons (pv 7) pa_nil))))
  (pss_cons (ps_set (i := 6) scLawCycle.nd rfl (Or.inl rfl) (pe_cal C_law_add hr (by rfl) (pa_cons (pe_tup (pa_cons (pe_tup pa_nil) (pa_cons (pv 7) pa_nil))) (pa_cons (pe_tup (pa_cons (pe_tup (pa_cons (pe_tup (pa_cons (pe_ix (ixK (K := K)) (pv 2) (pv 5) (fun _ _ => rfl)) (pa_cons (pe_tup (pa_cons pe_int (pa_cons pe_int pa_nil))) pa_nil))) pa_nil)) (pa_cons (pe_tup (pa_cons pe_int (pa_cons pe_int pa_nil))) pa_nil))) (pa_cons (pe_tup (pa_cons pe_int (pa_cons pe_int pa_nil))) pa_nil)))))
  (pss_one (ps_set (i := 6) scLawCycle.nd rfl (Or.inl rfl) (pe_cal C_law_add hr (by rfl) (pa_cons (pv 6) (pa_cons (pe_tup (pa_cons (pe_tup (pa_cons (pe_tup (pa_cons (pe_ix (ixK (K := K)) (pv 2) (pe_op op_mod (pe_op op_add (pv 5) pe_int) (pe_callB (cr_len (K := K)) (by rfl) T.n_len (by decide +kernel) (pa_cons (pv 2) pa_nil))) (fun _ _ => rfl)) (pa_cons (pe_tup (pa_cons pe_int (pa_cons pe_int pa_nil))) pa_nil))) pa_nil)) (pa_cons (pe_tup (pa_cons pe_int (pa_cons pe_int pa_nil))) pa_nil))) (pa_cons (pe_tup (pa_cons (pe_un un_neg pe_int) (pa_cons pe_int pa_nil))) pa_nil)))))))))) pss_nil)
  (pss_one (ps_expr (pe_bm PySem.F.plainAttrs_list PySem.F.slot_list_append PySem.F.type_list_append mt_append (pv 4) (pa_cons (pe_lst (pa_cons (pv 6) (pa_cons (pe_cmpR op_eq (pe_op op_mod (pe_ix (ixK (K := K)) (pe_ix (ixK (K := K)) (pv 1) (pv 5) (fun _ _ => rfl)) pe_int (fun _ _ => rfl)) pe_int) pe_int (nomark _)) (pa_cons (pe_tup (pa_cons (pe_callTy cr_int (by rfl) T.n_int (by decide +kernel) (pa_cons (pe_cmpR op_lt (pv 5) (pe_callB (cr_len (K := K)) (by rfl) T.n_len (by decide +kernel) (pa_cons (pv 2) pa_nil)) (nomark _)) pa_nil)) (pa_cons pe_int pa_nil))) pa_nil)))) pa_nil)))))))
  (pss_one (ps_ret (pv 4)))))), fun a ha => ?_⟩
  obtain ⟨ev, sums, rows⟩ := a
  obtain ⟨h1, h2⟩ := ha
  have h1 : PreLot ev sums rows 90 4 := h1
  have h2 : 1 ≤ ev.length := h2
  have h16 := h1.l16
  have e4 := h1.ok.e4
  try dsimp only [cxK]
  refine q_asg ev_01 ?_
  refine q_asgOL eo_nil ?_
  refine q_forM (l := List.range sums.length) (enc := fun k : Nat => .int (k : Int)) (fun pre δ' => ∃ (l : List En) (t : Am) (x y z : Option Sl), l.length = pre.length ∧ (∀ e ∈ l, EnG ev e) ∧ Pz 300 100 t ∧ (pre.length < ev.length → Pz (100 + 10 * pre.length) (4 * pre.length) t) ∧
      δ' = [some (.imm (.lst (sums.map smD))), some (.imm (.lst (rows.map roI))), some (.imm (.lst (ev.map adr))), some (.imm (am t)), some (.ol (l.map enD)), x, y, z])
    (evi_rangeN (eva_cons (ev_len (evp_var rfl)) eva_nil) (by omega)) ⟨[], _, _, _, _, rfl, (fun e h => nomatch h), pz01.mono (by decide) (by decide), fun _ => pz01.mono (by decide) (by decide), rfl⟩ ?_ ?_
  · rintro pre j _ hp ⟨l, t, x, y, z, g1, g2, g3, g4, rfl⟩
    obtain ⟨rfl, hj⟩ := range_at hp
    obtain ⟨s, r, es, er, hs, hr⟩ := h1.at hj
    refine ⟨_, _, evg_name, ?_⟩
    refine q_asg (ev_ix es (evp_var rfl) (evp_var rfl)) ?_
    refine q_ifI (fun δ' => ∃ s t z, SuG ev 180 30 s ∧ Pz 300 100 t ∧ (pre.length + 1 < ev.length → Pz (100 + 10 * (pre.length + 1)) (4 * (pre.length + 1)) t) ∧ δ' = [some (.imm (.lst (sums.map smD))), some (.imm (.lst (rows.map roI))), some (.imm (.lst (ev.map adr))), some (.imm (am t)), some (.ol (l.map enD)), some (.imm (.int ((pre.length : Nat) : Int))), some (.imm (smD s)), z])
      (evb_test (ev_lt (evp_var rfl) (ev_len (evp_var rfl)))) (fun c => ?_) (fun c => ⟨s, t, _, hs.mono (by decide) (by decide), g3, fun q => by have := of_decide_eq_false c; omega, rfl⟩) ?_
    · have c : pre.length < ev.length := by have := of_decide_eq_true c; omega
      have g4 := g4 c
      refine q_asg (evp_op (evp_var rfl) evp_int (rv_ix (.tup _) rfl)) ?_
      refine q_ifI (fun δ' => ∃ a, Pz 150 20 a ∧ (pre.length + 1 < ev.length → Pz 90 4 a) ∧ δ' = [some (.imm (.lst (sums.map smD))), some (.imm (.lst (rows.map roI))), some (.imm (.lst (ev.map adr))), some (.imm (am t)), some (.ol (l.map enD)), some (.imm (.int ((pre.length : Nat) : Int))), some (.imm (smD s)), some (.imm (am a))])
        (evb_test (ev_eqI (evp_var rfl) (ev_sub (ev_len (evp_var rfl)) evp_int))) (fun c2 => ?_) (fun _ => ⟨s.2, hs.cz.mono (by decide) (by decide), fun _ => hs.cz, rfl⟩) ?_
      · have c2 : pre.length + 1 = ev.length := by
          have : ((pre.length : Nat) : Int) = (ev.length : Int) - 1 := by simpa using c2
          omega
        refine t_asg (ev_callP (eva_2 (Q1 := fun d => ∃ a, d = am a ∧ Pz 4 4 a) (Q2 := Eq (am (0 - t.1, t.2))) (evp_call r (eva_cons (ev_ix er (evp_var rfl) (evp_var rfl)) eva_nil) ⟨Nat.le_trans (by decide) hr.len, hr.rg⟩) (ev_am (ev_sub evp_int (ev_a0 (evp_var rfl))) (ev_a1 (evp_var rfl)))) (R := fun d => ∃ a, d = am a ∧ Pz 150 20 a) fun ds hds => ?_) fun d hd => ?_
        · obtain ⟨x, y, rfl, ⟨a, rfl, ha⟩, rfl⟩ := hds
          exact ⟨(a, (0 - t.1, t.2)), rfl, ha.pmL g4.negz (by omega), fun d hd => ⟨_, hd, pz_pls ha g4.negz (by omega) (by omega) (by omega)⟩⟩
        · obtain ⟨a, rfl, ha⟩ := hd
          exact ⟨a, ha, fun q => by omega, rfl⟩
      · rintro _ ⟨a, ha, ha2, rfl⟩
        refine q_asg (evp_callE (t, a) (eva_cons (evp_var rfl) (eva_cons (evp_var rfl) eva_nil)) (g4.pmL ha (by omega)) fun d q => q) ?_
        have en := List.getElem?_eq_getElem c
        have hmod : (pre.length + 1) % ev.length < ev.length := Nat.mod_lt _ (by omega)
        have en2 := List.getElem?_eq_getElem hmod
        refine q_asgP (ev_addP (n2 := 1) (k2 := 0) (nf := 1) (kf := 0) (N := 160) (k := 30) h1.ok (ev_con (ev_amz (evp_var rfl) ha)) (ev_su (ev_unit (ev_ix (f := adr) en (evp_var rfl) (evp_var rfl)) ev_11) (sug_one (List.getElem_mem c) pz11 (by decide) (by decide))) (ev_amz ev_11 pz11) (by decide) (by decide) (by decide) (by decide) (by decide)) fun d hd => ?_
        obtain ⟨s1, rfl, hs1⟩ := hd
        refine t_asg (ev_addP (n2 := 1) (k2 := 0) (nf := 1) (kf := 0) (N := 180) (k := 30) h1.ok (ev_su (evp_var rfl) hs1) (ev_su (ev_unit (ev_ix (f := adr) en2 (evp_var rfl) ((ev_mod (b := (ev.length : Int)) (by omega) (ev_add (evp_var rfl) evp_int) (ev_len (evp_var rfl))).to (by congr 1))) ev_11) (sug_one (List.getElem_mem hmod) pz11 (by decide) (by decide))) (ev_amz ev_n1 pzn1) (by decide) (by decide) (by decide) (by decide) (by decide)) fun d hd => ?_
        obtain ⟨s2, rfl, hs2⟩ := hd
        exact ⟨s2, pls t a, _, hs2, pz_pls g4 ha (by omega) (by omega) (by omega), fun q => pz_pls g4 (ha2 q) (by omega) (by omega) (by omega), rfl⟩
    · rintro _ ⟨s, t, z, hs, ht, ht2, rfl⟩
      refine t_appE (i := 4) (l := l) rfl (ev_entry (Qs := SuG ev 180 30) (Qa := Pz 1 0) (ev_su (evp_var rfl) hs) (ev_bex (ev_eqI (ev_mod (by decide) (ev_rr 4 er hr (by decide) (evp_var rfl) (evp_var rfl)) evp_int) evp_int)) (ev_amz (ev_am (ev_intB (ev_lt (evp_var rfl) (ev_len (evp_var rfl)))) evp_int) ?_)) (by omega) fun e he => ?_
      · split
        · exact pz11
        · exact pz01
      · refine ⟨_, t, _, _, _, by rw [List.length_append, List.length_append, g1]; rfl, all_snoc g2 ⟨he.1.mono (by decide) (by decide), he.2.mono (by decide) (by decide)⟩, ht, ?_, rfl⟩
        rw [List.length_append, List.length_singleton]
        exact ht2
  · rintro _ ⟨l, t, x, y, z, g1, g2, g3, g4, rfl⟩
    rw [List.length_range] at g1
    exact t_freeze 4 rfl rfl (t_ret (A := Eq _) (evp_var rfl) fun d e => ⟨l, e.symm, g1, g2⟩)
end
end Tf
/-! text TfAL -/
/-! the builders of the systems, walked: box, thin -/
namespace Tf
open PySem PySem.Spec PyProof.Rows L2
local macro_rules | `(tactic| walk_at "ev1") => `(tactic| first
  | with_reducible exact evp_int | with_reducible exact evp_bl | with_reducible exact evp_str | with_reducible exact evp_non | with_reducible exact evp_gamA | with_reducible exact evp_gam | (with_reducible apply evp_var; (with_unfolding_all exact rfl))
  | with_reducible exact eva_nil | with_reducible apply eva_cons
  | with_reducible apply evp_op | (with_reducible apply evp_un (hr := ru_int)) | with_reducible apply evp_cb
  | with_reducible apply evp_tup' | (with_reducible show List.length _ ≤ 100000; simp; done)
  | with_reducible exact rv_int | with_reducible exact rv_bl | with_reducible apply rv_intC | with_reducible exact rv_eq (.int _ _) | with_reducible exact rv_ne (.int _ _)
  | (with_reducible apply rv_ix; (first | (with_unfolding_all exact Sq.tup _) | (with_unfolding_all exact Sq.lst _) | (with_reducible apply Sqx.sq; with_reducible assumption)); (with_unfolding_all exact rfl))
  | with_reducible exact rc_gcd
  | with_reducible exact rc_tupA | with_reducible exact rc_tupM
  | (with_reducible apply rc_tup; (first | (with_unfolding_all exact Sq.tup _) | (with_unfolding_all exact Sq.lst _) | (with_reducible apply Sqx.sq; with_reducible assumption)))
  | (with_reducible apply rc_lst; (first | (with_unfolding_all exact Sq.tup _) | (with_unfolding_all exact Sq.lst _) | (with_reducible apply Sqx.sq; with_reducible assumption)))
  | (with_reducible apply rc_len; (first | (with_unfolding_all exact Sq.tup _) | (with_unfolding_all exact Sq.lst _) | (with_reducible apply Sqx.sq; with_reducible assumption)))
  | with_reducible apply rv_cat
  | with_reducible exact evb_yes
  | with_reducible apply evb_test | with_reducible apply evb_B | with_reducible apply evb_not | with_reducible apply evb_and | with_reducible apply evb_or | with_reducible apply evp_and | with_reducible apply evp_or | with_reducible apply evp_not
  | (with_reducible refine fun _ => ?_))
local macro_rules | `(tactic| walk_at "ev") => `(tactic| repeat' walk_at "ev1")
section
variable {P : Program} {w : World} {K : PySem.W.Frag} {mg : Str → Option Value} {base : Heap}
abbrev SpBox (K : PySem.W.Frag) : Sp := SpD K (fun a : List Ad × List Su × List (List Int) × Pnt => [.lst (a.2.1.map smD), .lst (a.2.2.1.map roI), .lst (a.1.map adr), ptD a.2.2.2]) (fun a => PreLot a.1 a.2.1 a.2.2.1 90 4 ∧ PtG a.1 5 2 a.2.2.2) fun a d => LotR a.1 a.2.1.length d
theorem ok_law_box (T : Tx P K mg base) (C_law_fitted : Cal P w K mg base 39 "_law_fitted" ["_law_one", "_law_point", "_law_gap_here"] [] (SpFit K)) (C_law_gap : Cal P w K mg base 36 "_law_gap" ["_law_row_here", "_law_strict"] [] (SpGap K)) :
    Cal P w K mg base 40 "_law_box" ["_law_sums", "_law_rows", "_law_addresses_here", "_law_point"] [] (SpBox K) := by
  refine cal_of (k := 39) T.d_law_box scLawBox (fun _ => rfl) (fun _ _ _ _ _ _ us hl => match us, hl with | [_, _, _, _], _ => rfl) fun cdv f A outer s H Q E hr => ?_
  have hu := hu_of hr
  have hB := big_of (f := f) (cd := cdv) (A := A) (outer := outer) (s := s) (H := H) (E := E) (w := w) (mg := mg) T scLawBox hr
  refine ⟨_, (pss_cons (ps_set (i := 4) scLawBox.nd rfl (Or.inl rfl) (pe_lst pa_nil))
  (pss_cons (ps_for PassesOwn.never rfl (pi_range1 rfl T.n_range (pa_cons (pe_callB (cr_len (K := K)) (by rfl) T.n_len (by decide +kernel) (pa_cons (pv 0) pa_nil)) pa_nil)) (pg_name (i := 5) scLawBox.nd rfl (Or.inl rfl)) (pss_cons (ps_set (i := 6) scLawBox.nd rfl (Or.inl rfl) (pe_ix (ixK (K := K)) (pv 0) (pv 5) (fun _ _ => rfl)))
  (pss_cons (ps_if (pt_cmpR op_lt (pv 5) (pe_op op_mulH pe_int (pe_callB (cr_len (K := K)) (by rfl) T.n_len (by decide +kernel) (pa_cons (pv 2) pa_nil))) (nomark _)) (pss_one (ps_set (i := 6) scLawBox.nd rfl (Or.inl rfl) (pe_tup (pa_cons (pe_tup (pa_cons (pe_tup (pa_cons (pe_ix (ixK (K := K)) (pv 2) (pe_op (op_fdivB hB) (pv 5) pe_int) (fun _ _ => rfl)) (pa_cons (pe_tup (pa_cons (pe_op op_sub (pe_op op_mulH pe_int (pe_op op_mod (pv 5) pe_int)) pe_int) (pa_cons pe_int pa_nil))) pa_nil))) pa_nil)) (pa_cons (pe_tup (pa_cons pe_int (pa_cons pe_int pa_nil))) pa_nil))))) pss_nil)
  (pss_cons (ps_set (i := 7) scLawBox.nd rfl (Or.inl rfl) (pe_cal C_law_gap (hr.mono (by decide)) (by rfl) (pa_cons (pe_ix (ixK (K := K)) (pv 1) (pv 5) (fun _ _ => rfl)) (pa_cons pe_bl pa_nil))))
  (pss_cons (ps_if (pt_cmpR op_eq (pe_op op_mod (pe_ix (ixK (K := K)) (pe_ix (ixK (K := K)) (pv 1) (pv 5) (fun _ _ => rfl)) pe_int (fun _ _ => rfl)) pe_int) pe_int (nomark _)) (pss_one (ps_set (i := 7) scLawBox.nd rfl (Or.inl rfl) (pe_tup (pa_cons (pe_op op_sub pe_int (pe_ix (ixK (K := K)) (pv 7) pe_int (fun _ _ => rfl))) (pa_cons (pe_ix (ixK (K := K)) (pv 7) pe_int (fun _ _ => rfl)) pa_nil))))) pss_nil)
  (pss_one (ps_expr (pe_bm PySem.F.plainAttrs_list PySem.F.slot_list_append PySem.F.type_list_append mt_append (pv 4) (pa_cons (pe_lst (pa_cons (pe_cal C_law_fitted hr (by rfl) (pa_cons (pv 6) (pa_cons (pv 3) (pa_cons (pv 7) pa_nil)))) (pa_cons (pe_cmpR op_eq (pe_op op_mod (pe_ix (ixK (K := K)) (pe_ix (ixK (K := K)) (pv 1) (pv 5) (fun _ _ => rfl)) pe_int (fun _ _ => rfl)) pe_int) pe_int (nomark _)) (pa_cons (pe_tup (pa_cons pe_int (pa_cons pe_int pa_nil))) pa_nil)))) pa_nil)))))))))
  (pss_one (ps_ret (pv 4))))), fun a ha => ?_⟩
  obtain ⟨ev, sums, rows, p⟩ := a
  obtain ⟨h1, h2⟩ := ha
  have h1 : PreLot ev sums rows 90 4 := h1
  have h2 : PtG ev 5 2 p := h2
  have h16 := h1.l16
  have e4 := h1.ok.e4
  try dsimp only [cxK]
  refine q_asgOL eo_nil ?_
  refine q_forM (l := List.range sums.length) (enc := fun k : Nat => .int (k : Int)) (fun pre δ' => ∃ (l : List En) (x y z : Option Sl), l.length = pre.length ∧ (∀ e ∈ l, EnG ev e) ∧
      δ' = [some (.imm (.lst (sums.map smD))), some (.imm (.lst (rows.map roI))), some (.imm (.lst (ev.map adr))), some (.imm (ptD p)), some (.ol (l.map enD)), x, y, z])
    (evi_rangeN (eva_cons (ev_len (evp_var rfl)) eva_nil) (by omega)) ⟨[], _, _, _, rfl, (fun e h => nomatch h), rfl⟩ ?_ ?_
  · rintro pre j _ hp ⟨l, x, y, z, g1, g2, rfl⟩
    obtain ⟨rfl, hj⟩ := range_at hp
    obtain ⟨s, r, es, er, hs, hr⟩ := h1.at hj
    refine ⟨_, _, evg_name, ?_⟩
    refine q_asg (ev_ix es (evp_var rfl) (evp_var rfl)) ?_
    refine q_ifI (fun δ' => ∃ s z, SuG ev 90 4 s ∧ δ' = [some (.imm (.lst (sums.map smD))), some (.imm (.lst (rows.map roI))), some (.imm (.lst (ev.map adr))), some (.imm (ptD p)), some (.ol (l.map enD)), some (.imm (.int ((pre.length : Nat) : Int))), some (.imm (smD s)), z])
      (evb_test (ev_lt (evp_var rfl) (ev_mul (cm40 (by omega) (by omega)) evp_int (ev_len (evp_var rfl))))) (fun c => ?_) (fun _ => ⟨s, _, hs, rfl⟩) ?_
    · have c : pre.length < 2 * ev.length := by have := of_decide_eq_true c; omega
      have hlt : pre.length / 2 < ev.length := by omega
      have m1 := Int.emod_nonneg ((pre.length : Nat) : Int) (b := 2) (by decide)
      have m2 := Int.emod_lt_of_pos ((pre.length : Nat) : Int) (b := 2) (by decide)
      refine t_asg (A := Eq _) (ev_unit (ev_ix (f := adr) (List.getElem?_eq_getElem hlt) (evp_var rfl) ((ev_div (by decide) (evp_var rfl) evp_int).to (by congr 1))) (ev_am (ev_sub (ev_mul (cm40 (by omega) (by omega)) evp_int (ev_mod (by decide) (evp_var rfl) evp_int)) evp_int) evp_int)) fun d e => ?_
      subst e
      refine ⟨_, _, (sug_one (List.getElem_mem hlt) (n := 1) (k := 0) (pz_of ⟨?_, ?_⟩ ⟨by show (0 : Int) < 1; decide, by show (1 : Int) ≤ 2 ^ 0; decide⟩) ?_ (by decide)).mono (by decide) (by decide), rfl⟩
      · show -(2 ^ 1) < 2 * (((pre.length : Nat) : Int) % 2) - 1
        omega
      · show 2 * (((pre.length : Nat) : Int) % 2) - 1 < 2 ^ 1
        omega
      · show 2 * (((pre.length : Nat) : Int) % 2) - 1 ≠ 0
        omega
    · rintro _ ⟨s, z, hs, rfl⟩
      refine q_asgP (evp_call (r, false) (eva_cons (ev_ix er (evp_var rfl) (evp_var rfl)) (eva_cons evp_bl eva_nil)) ⟨Nat.le_trans (by decide) hr.len, hr.rg⟩) fun d hd => ?_
      obtain ⟨g, rfl, hg⟩ := hd
      refine q_ifI (fun δ' => ∃ g, Pz 6 6 g ∧ δ' = [some (.imm (.lst (sums.map smD))), some (.imm (.lst (rows.map roI))), some (.imm (.lst (ev.map adr))), some (.imm (ptD p)), some (.ol (l.map enD)), some (.imm (.int ((pre.length : Nat) : Int))), some (.imm (smD s)), some (.imm (am g))])
        (evb_test (ev_eqI (ev_mod (by decide) (ev_rr 8 er hr (by decide) (evp_var rfl) (evp_var rfl)) evp_int) evp_int)) (fun _ => ?_) (fun _ => ⟨g, hg, rfl⟩) ?_
      · refine t_asg (A := Eq (am (0 - g.1, g.2))) (ev_am (ev_sub evp_int (ev_a0 (evp_var rfl))) (ev_a1 (evp_var rfl))) fun d e => ?_
        subst e
        exact ⟨_, hg.negz, rfl⟩
      · rintro _ ⟨g, hg, rfl⟩
        refine t_appE (i := 4) (l := l) rfl (ev_entry (Qs := SuG ev 140 40) (Qa := Pz 1 0) (evp_call (ev, s, p, g) (eva_cons (evp_var rfl) (eva_cons (evp_var rfl) (eva_cons (evp_var rfl) eva_nil))) ⟨e4, hs, h2, hg⟩) (ev_bex (ev_eqI (ev_mod (by decide) (ev_rr 4 er hr (by decide) (evp_var rfl) (evp_var rfl)) evp_int) evp_int)) (ev_amz ev_01 pz01)) (by omega) fun e he => ?_
        exact ⟨_, _, _, _, by rw [List.length_append, List.length_append, g1]; rfl, all_snoc g2 ⟨he.1.mono (by decide) (by decide), he.2.mono (by decide) (by decide)⟩, rfl⟩
  · rintro _ ⟨l, x, y, z, g1, g2, rfl⟩
    rw [List.length_range] at g1
    exact t_freeze 4 rfl rfl (t_ret (A := Eq _) (evp_var rfl) fun d e => ⟨l, e.symm, g1, g2⟩)
abbrev SpThi (K : PySem.W.Frag) : Sp := SpD K (fun a : List Ad × List Su × List (List Int) × List Int × Pnt × Nat => [.lst (a.2.1.map smD), .lst (a.2.2.1.map roI), roI a.2.2.2.1, ptD a.2.2.2.2.1, .int (a.2.2.2.2.2 : Int)])
  (fun a => PreLot a.1 a.2.1 a.2.2.1 90 4 ∧ RowR a.2.2.2.1 20 ∧ PtG a.1 5 2 a.2.2.2.2.1 ∧ 1 ≤ a.2.2.2.2.2) fun a d => LotR a.1 a.2.1.length d
theorem ok_law_thin (T : Tx P K mg base) (C_law_add : Cal P w K mg base 38 "_law_add" ["_law_one", "_law_two", "_law_factor"] [] (SpLad K)) (C_law_fitted : Cal P w K mg base 39 "_law_fitted" ["_law_one", "_law_point", "_law_gap_here"] [] (SpFit K))
    (C_law_shift : Cal P w K mg base 36 "_law_shift" ["_law_row_here"] [] (SpShi K)) :
    Cal P w K mg base 40 "_law_thin" ["_law_sums", "_law_rows", "_law_more", "_law_point", "_law_groups"] [] (SpThi K) := by
  refine cal_of (k := 39) T.d_law_thin scLawThin (fun _ => rfl) (fun _ _ _ _ _ _ us hl => match us, hl with | [_, _, _, _, _], _ => rfl) fun cdv f A outer s H Q E hr => ?_
  have hu := hu_of hr
  have hB := big_of (f := f) (cd := cdv) (A := A) (outer := outer) (s := s) (H := H) (E := E) (w := w) (mg := mg) T scLawThin hr
  refine ⟨_, (pss_cons (ps_set (i := 5) scLawThin.nd rfl (Or.inl rfl) (pe_callB (cr_max2 rfl) (by rfl) T.n_max (by decide +kernel) (pa_cons pe_int (pa_cons (pe_op (op_fdivB hB) (pe_callB (cr_len (K := K)) (by rfl) T.n_len (by decide +kernel) (pa_cons (pv 0) pa_nil)) pe_int) pa_nil))))
  (pss_cons (ps_set (i := 6) scLawThin.nd rfl (Or.inl rfl) (pe_lst pa_nil))
  (pss_cons (ps_for PassesOwn.never rfl (pi_range1 rfl T.n_range (pa_cons (pe_callB (cr_len (K := K)) (by rfl) T.n_len (by decide +kernel) (pa_cons (pv 0) pa_nil)) pa_nil)) (pg_name (i := 7) scLawThin.nd rfl (Or.inl rfl)) (pss_cons (ps_set (i := 8) scLawThin.nd rfl (Or.inl rfl) (pe_cal C_law_fitted hr (by rfl) (pa_cons (pe_ix (ixK (K := K)) (pv 0) (pv 7) (fun _ _ => rfl)) (pa_cons (pv 3) (pa_cons (pe_tup (pa_cons pe_int (pa_cons pe_int pa_nil))) pa_nil)))))
  (pss_cons (ps_if (PW.pt (pw_and (pt_cmpR op_lt (pv 7) (pe_op op_mulH pe_int (pv 5)) (nomark _)) (pw_and1 (pt_cmpR op_eq (pe_op op_mod (pv 7) pe_int) pe_int (nomark _))))) (pss_one (ps_set (i := 8) scLawThin.nd rfl (Or.inl rfl) (pe_cal C_law_add (hr.mono (by decide)) (by rfl) (pa_cons (pe_tup (pa_cons (pe_tup pa_nil) (pa_cons (pe_tup (pa_cons pe_int (pa_cons pe_int pa_nil))) pa_nil))) (pa_cons (pe_ix (ixK (K := K)) (pe_ix (ixK (K := K)) (pv 6) (pe_op op_sub (pv 7) pe_int) (fun _ _ => rfl)) pe_int (fun _ _ => rfl)) (pa_cons (pe_tup (pa_cons (pe_un un_neg pe_int) (pa_cons pe_int pa_nil))) pa_nil)))))) pss_nil)
  (pss_cons (ps_if (PW.pt (pw_and (pt_cmpR op_ge (pv 7) (pe_op op_mulH pe_int (pv 5)) (nomark _)) (pw_and1 (pt_cmpR op_eq (pe_op op_mod (pe_ix (ixK (K := K)) (pe_ix (ixK (K := K)) (pv 1) (pv 7) (fun _ _ => rfl)) pe_int (fun _ _ => rfl)) pe_int) pe_int (nomark _))))) (pss_cons (ps_set (i := 8) scLawThin.nd rfl (Or.inl rfl) (pe_tup (pa_cons (pe_tup pa_nil) (pa_cons (pe_cal C_law_shift (hr.mono (by decide)) (by rfl) (pa_cons (pe_ix (ixK (K := K)) (pv 1) (pv 7) (fun _ _ => rfl)) pa_nil)) pa_nil))))
  (pss_one (ps_for PassesOwn.never rfl (pi_range1 rfl T.n_range (pa_cons (pv 5) pa_nil)) (pg_name (i := 9) scLawThin.nd rfl (Or.inl rfl)) (pss_one (ps_if (pt_cmpR op_eq (pe_op op_mod (pv 9) (pv 4)) (pe_op op_mod (pe_op (op_fdivB hB) (pv 7) pe_int) (pv 4)) (nomark _)) (pss_one (ps_set (i := 8) scLawThin.nd rfl (Or.inl rfl) (pe_cal C_law_add (hr.mono (by decide)) (by rfl) (pa_cons (pv 8) (pa_cons (pe_ix (ixK (K := K)) (pe_ix (ixK (K := K)) (pv 6) (pe_op op_mulH pe_int (pv 9)) (fun _ _ => rfl)) pe_int (fun _ _ => rfl)) (pa_cons (pe_tup (pa_cons (pe_op op_sub (pe_op op_mod (pe_ix (ixK (K := K)) (pv 2) (pv 9) (fun _ _ => rfl)) pe_int) pe_int) (pa_cons pe_int pa_nil))) pa_nil)))))) pss_nil))))) pss_nil)
  (pss_one (ps_expr (pe_bm PySem.F.plainAttrs_list PySem.F.slot_list_append PySem.F.type_list_append mt_append (pv 6) (pa_cons (pe_lst (pa_cons (pv 8) (pa_cons (pe_and (pe_cmpR op_eq (pe_op op_mod (pe_ix (ixK (K := K)) (pe_ix (ixK (K := K)) (pv 1) (pv 7) (fun _ _ => rfl)) pe_int (fun _ _ => rfl)) pe_int) pe_int (nomark _)) (pe_one (pe_or (pe_cmpR op_ge (pv 7) (pe_op op_mulH pe_int (pv 5)) (nomark _)) (pe_one (pe_cmpR op_eq (pe_op op_mod (pe_ix (ixK (K := K)) (pe_ix (ixK (K := K)) (pv 1) (pv 7) (fun _ _ => rfl)) pe_int (fun _ _ => rfl)) pe_int) pe_int (nomark _)))))) (pa_cons (pe_tup (pa_cons pe_int (pa_cons pe_int pa_nil))) pa_nil)))) pa_nil))))))))
  (pss_one (ps_ret (pv 6)))))), fun a ha => ?_⟩
  obtain ⟨ev, sums, rows, more, p, g⟩ := a
  obtain ⟨h1, h3, h2, h4⟩ := ha
  have h1 : PreLot ev sums rows 90 4 := h1
  have h2 : PtG ev 5 2 p := h2
  have h3 : RowR more 20 := h3
  have h4 : 1 ≤ g := h4
  have h16 := h1.l16
  have e4 := h1.ok.e4
  try dsimp only [cxK]
  obtain ⟨q, hq1, hq2, hq3⟩ : ∃ q : Nat, (if (sums.length : Int) / 3 > 1 then (sums.length : Int) / 3 else 1) = (q : Int) ∧ 1 ≤ q ∧ q ≤ 5 := by
    refine ⟨if sums.length / 3 > 1 then sums.length / 3 else 1, ?_, ?_, ?_⟩
    · split <;> split <;> omega
    · split <;> omega
    · split <;> omega
  refine q_asg (d := .int (q : Int)) ((evp_cb (eva_cons evp_int (eva_cons (ev_div (by decide) (ev_len (evp_var rfl)) evp_int) eva_nil)) rc_max).to (by rw [← hq1])) ?_
  refine q_asgOL eo_nil ?_
  refine q_forM (l := List.range sums.length) (enc := fun k : Nat => .int (k : Int)) (fun pre δ' => ∃ (l : List En) (x y z : Option Sl), l.length = pre.length ∧ (∀ e ∈ l, EnG ev e) ∧ (∀ j e, l[j]? = some e → j < 2 * q → SuG ev 150 40 e.1 ∧ (j % 2 = 0 → SuG ev 140 40 e.1)) ∧
      δ' = [some (.imm (.lst (sums.map smD))), some (.imm (.lst (rows.map roI))), some (.imm (roI more)), some (.imm (ptD p)), some (.imm (.int (g : Int))), some (.imm (.int (q : Int))), some (.ol (l.map enD)), x, y, z])
    (evi_rangeN (eva_cons (ev_len (evp_var rfl)) eva_nil) (by omega)) ⟨[], _, _, _, rfl, (fun e h => nomatch h), (fun j e h => by simp at h), rfl⟩ ?_ ?_
  · rintro pre j _ hp ⟨l, x, y, z, g1, g2, g3, rfl⟩
    obtain ⟨rfl, hj⟩ := range_at hp
    obtain ⟨s, r, es, er, hs, hr⟩ := h1.at hj
    refine ⟨_, _, evg_name, ?_⟩
    refine q_asgP (evp_call (ev, s, p, (0, 1)) (eva_cons (ev_ix es (evp_var rfl) (evp_var rfl)) (eva_cons (evp_var rfl) (eva_cons ev_01 eva_nil))) ⟨e4, hs, h2, pz01.mono (by decide) (by decide)⟩) fun d hd => ?_
    obtain ⟨s1, rfl, hs1⟩ := hd
    have hs1 : SuG ev 140 40 s1 := hs1
    refine q_ifI (fun δ' => ∃ s, SuG ev 150 40 s ∧ (pre.length % 2 = 0 → SuG ev 140 40 s) ∧ δ' = [some (.imm (.lst (sums.map smD))), some (.imm (.lst (rows.map roI))), some (.imm (roI more)), some (.imm (ptD p)), some (.imm (.int (g : Int))), some (.imm (.int (q : Int))), some (.ol (l.map enD)), some (.imm (.int ((pre.length : Nat) : Int))), some (.imm (smD s)), z])
      (evb_and (evb_test (ev_lt (evp_var rfl) (ev_mul (cm40 (by omega) (by omega)) evp_int (evp_var rfl)))) fun _ => evb_test (ev_eqI (ev_mod (by decide) (evp_var rfl) evp_int) evp_int)) (fun c => ?_) (fun _ => ⟨s1, hs1.mono (by decide) (by decide), fun _ => hs1, rfl⟩) ?_
    · rw [Bool.and_eq_true] at c
      have c1 := of_decide_eq_true c.1
      have c2 : ((pre.length : Nat) : Int) % 2 = 1 := by simpa using c.2
      have hlt : pre.length - 1 < l.length := by omega
      have el := List.getElem?_eq_getElem hlt
      have hb := (g3 _ _ el (by omega)).2 (by omega)
      refine t_asg (ev_addP (n1 := 1) (k1 := 0) (nf := 1) (kf := 0) (N := 150) (k := 40) h1.ok (ev_con (ev_amz ev_01 pz01)) (ev_su (ev_fnd el (.inl rfl) ((ev_sub (evp_var rfl) evp_int).to (by congr 1; omega))) hb) (ev_amz ev_n1 pzn1) (by decide) (by decide) (by decide) (by decide) (by decide)) fun d hd => ?_
      obtain ⟨s', rfl, hs'⟩ := hd
      exact ⟨s', hs', fun z => by omega, rfl⟩
    rintro _ ⟨s2, hs2, hs2e, rfl⟩
    refine q_ifI (fun δ' => ∃ s z, SuG ev 400 220 s ∧ (pre.length < 2 * q → SuG ev 150 40 s ∧ (pre.length % 2 = 0 → SuG ev 140 40 s)) ∧ δ' = [some (.imm (.lst (sums.map smD))), some (.imm (.lst (rows.map roI))), some (.imm (roI more)), some (.imm (ptD p)), some (.imm (.int (g : Int))), some (.imm (.int (q : Int))), some (.ol (l.map enD)), some (.imm (.int ((pre.length : Nat) : Int))), some (.imm (smD s)), z])
      (evb_and (evb_test (ev_ge (evp_var rfl) (ev_mul (cm40 (by omega) (by omega)) evp_int (evp_var rfl)))) fun _ => evb_test (ev_eqI (ev_mod (by decide) (ev_rr 8 er hr (by decide) (evp_var rfl) (evp_var rfl)) evp_int) evp_int)) (fun c => ?_) (fun _ => ⟨s2, _, hs2.mono (by decide) (by decide), fun _ => ⟨hs2, hs2e⟩, rfl⟩) ?_
    · rw [Bool.and_eq_true] at c
      have c1 := of_decide_eq_true c.1
      refine q_asgP (ev_con (ev := ev) (n := 4) (k := 4) (evp_call r (eva_cons (ev_ix er (evp_var rfl) (evp_var rfl)) eva_nil) ⟨Nat.le_trans (by decide) hr.len, hr.rg⟩)) fun d hd => ?_
      obtain ⟨s3, rfl, hs3⟩ := hd
      refine t_forM (l := List.range q) (enc := fun k : Nat => .int (k : Int)) (fun pre2 δ' => ∃ (s : Su) (z : Option Sl), SuG ev (160 + 41 * pre2.length) (4 + 40 * pre2.length) s ∧ δ' = [some (.imm (.lst (sums.map smD))), some (.imm (.lst (rows.map roI))), some (.imm (roI more)), some (.imm (ptD p)), some (.imm (.int (g : Int))), some (.imm (.int (q : Int))), some (.ol (l.map enD)), some (.imm (.int ((pre.length : Nat) : Int))), some (.imm (smD s)), z])
        (evi_rangeN (eva_cons (evp_var rfl) eva_nil) (by omega)) ⟨s3, _, hs3.mono (by decide) (by decide), rfl⟩ ?_ ?_
      · rintro pre2 j2 _ hp2 ⟨s4, z4, hs4, rfl⟩
        obtain ⟨rfl, hj2⟩ := range_at hp2
        refine ⟨_, _, evg_name, ?_⟩
        refine t_when (evb_test (ev_eqI (ev_mod (b := (g : Int)) (by omega) (evp_var rfl) (evp_var rfl)) (ev_mod (b := (g : Int)) (by omega) (ev_div (by decide) (evp_var rfl) evp_int) (evp_var rfl)))) (fun _ => ?_) fun _ => ?_
        · obtain ⟨_, r1, r2⟩ := h3.at (k := pre2.length) (by omega)
          have m1 := Int.emod_nonneg (rget more pre2.length) (b := 5) (by decide)
          have m2 := Int.emod_lt_of_pos (rget more pre2.length) (b := 5) (by decide)
          have hlt : 2 * pre2.length < l.length := by omega
          have el := List.getElem?_eq_getElem hlt
          have hb := (g3 _ _ el (by omega)).1
          refine t_asg (ev_addP (nf := 2) (kf := 0) (N := 160 + 41 * (pre2.length + 1)) (k := 4 + 40 * (pre2.length + 1)) h1.ok (ev_su (evp_var rfl) hs4) (ev_su (ev_fnd el (.inl rfl) ((ev_mul (cm40 (by omega) (by omega)) evp_int (evp_var rfl)).to (by congr 1))) hb) (ev_amz (ev_am (ev_sub (ev_mod (by decide) (ev_row h3 (by omega) (evp_var rfl) (evp_var rfl)) evp_int) evp_int) evp_int) (pz_of ⟨?_, ?_⟩ ⟨by show (0 : Int) < 1; decide, by show (1 : Int) ≤ 2 ^ 0; decide⟩)) (by omega) (by omega) (by omega) (by omega) (by omega)) fun d hd => ?_
          · show -(2 ^ 2) < rget more pre2.length % 5 - 2
            omega
          · show rget more pre2.length % 5 - 2 < 2 ^ 2
            omega
          · obtain ⟨s', rfl, hs'⟩ := hd
            refine ⟨s', _, ?_, rfl⟩
            rw [List.length_append, List.length_singleton]
            exact hs'
        · refine ⟨s4, _, hs4.mono ?_ ?_, rfl⟩
          · rw [List.length_append]; omega
          · rw [List.length_append]; omega
      · rintro _ ⟨s4, z4, hs4, rfl⟩
        rw [List.length_range] at hs4
        exact ⟨s4, _, hs4.mono (by omega) (by omega), fun z => by omega, rfl⟩
    rintro _ ⟨s5, z5, hs5, hs5e, rfl⟩
    refine t_appE (i := 6) (l := l) rfl (Q := fun e => (SuG ev 400 220 e.1 ∧ (pre.length < 2 * q → SuG ev 150 40 e.1 ∧ (pre.length % 2 = 0 → SuG ev 140 40 e.1))) ∧ Pz 1 0 e.2.2) (ev_entry (Qs := fun s => SuG ev 400 220 s ∧ (pre.length < 2 * q → SuG ev 150 40 s ∧ (pre.length % 2 = 0 → SuG ev 140 40 s))) (Qa := Pz 1 0) (ev_ex (evp_var rfl) ⟨hs5, hs5e⟩)
      (ev_bex (evp_and (ev_eqI (ev_mod (by decide) (ev_rr 4 er hr (by decide) (evp_var rfl) (evp_var rfl)) evp_int) evp_int) fun _ => evp_or (ev_ge (evp_var rfl) (ev_mul (cm40 (by omega) (by omega)) evp_int (evp_var rfl))) fun _ => ev_eqI (ev_mod (by decide) (ev_rr 9 er hr (by decide) (evp_var rfl) (evp_var rfl)) evp_int) evp_int)) (ev_amz ev_01 pz01)) (by omega) fun e he => ?_
    refine ⟨_, _, _, _, by rw [List.length_append, List.length_append, g1]; rfl, all_snoc g2 ⟨he.1.1, he.2.mono (by decide) (by decide)⟩, fun j e' hje hjf => ?_, rfl⟩
    by_cases c : j < l.length
    · rw [List.getElem?_append_left c] at hje
      exact g3 j e' hje hjf
    · rw [List.getElem?_append_right (by omega)] at hje
      have hz : j - l.length = 0 := by
        by_cases d : j - l.length = 0
        · exact d
        · rw [List.getElem?_eq_none (by show 1 ≤ j - l.length; omega)] at hje
          cases hje
      rw [hz] at hje
      have : e = e' := Option.some.inj hje
      rw [← this]
      have ej : j = pre.length := by omega
      rw [ej] at hjf ⊢
      exact he.1.2 hjf
  · rintro _ ⟨l, x, y, z, g1, g2, g3, rfl⟩
    rw [List.length_range] at g1
    exact t_freeze 6 rfl rfl (t_ret (A := Eq _) (evp_var rfl) fun d e => ⟨l, e.symm, g1, g2⟩)
end
end Tf
/-! text TfAM -/
/-! the builders of the systems, walked: turned, many -/
namespace Tf
open PySem PySem.Spec PyProof.Rows L2
local macro_rules | `(tactic| walk_at "ev1") => `(tactic| first
  | with_reducible exact evp_int | with_reducible exact evp_bl | with_reducible exact evp_str | with_reducible exact evp_non | with_reducible exact evp_gamA | with_reducible exact evp_gam | (with_reducible apply evp_var; (with_unfolding_all exact rfl))
  | with_reducible exact eva_nil | with_reducible apply eva_cons
  | with_reducible apply evp_op | (with_reducible apply evp_un (hr := ru_int)) | with_reducible apply evp_cb
  | with_reducible apply evp_tup' | (with_reducible show List.length _ ≤ 100000; simp; done)
  | with_reducible exact rv_int | with_reducible exact rv_bl | with_reducible apply rv_intC | with_reducible exact rv_eq (.int _ _) | with_reducible exact rv_ne (.int _ _)
  | (with_reducible apply rv_ix; (first | (with_unfolding_all exact Sq.tup _) | (with_unfolding_all exact Sq.lst _) | (with_reducible apply Sqx.sq; with_reducible assumption)); (with_unfolding_all exact rfl))
  | with_reducible exact rc_gcd
  | with_reducible exact rc_tupA | with_reducible exact rc_tupM
  | (with_reducible apply rc_tup; (first | (with_unfolding_all exact Sq.tup _) | (with_unfolding_all exact Sq.lst _) | (with_reducible apply Sqx.sq; with_reducible assumption)))
  | (with_reducible apply rc_lst; (first | (with_unfolding_all exact Sq.tup _) | (with_unfolding_all exact Sq.lst _) | (with_reducible apply Sqx.sq; with_reducible assumption)))
  | (with_reducible apply rc_len; (first | (with_unfolding_all exact Sq.tup _) | (with_unfolding_all exact Sq.lst _) | (with_reducible apply Sqx.sq; with_reducible assumption)))
  | with_reducible apply rv_cat
  | with_reducible exact evb_yes
  | with_reducible apply evb_test | with_reducible apply evb_B | with_reducible apply evb_not | with_reducible apply evb_and | with_reducible apply evb_or | with_reducible apply evp_and | with_reducible apply evp_or | with_reducible apply evp_not
  | (with_reducible refine fun _ => ?_))
local macro_rules | `(tactic| walk_at "ev") => `(tactic| repeat' walk_at "ev1")
structure EnF (ev : List Ad) (e : En) : Prop where
  s : SuG ev 500 250 e.1
  w : Pz 10 10 e.2.2
section
variable {P : Program} {w : World} {K : PySem.W.Frag} {mg : Str → Option Value} {base : Heap}
structure PreTur (ev : List Ad) (lot : List En) (rows : List (List Int)) : Prop where
  ok : EvOk ev
  len : rows.length = lot.length
  l16 : lot.length ≤ 16
  s : ∀ e ∈ lot, EnG ev e
  r : ∀ r ∈ rows, RowR r 20
abbrev SpTur (K : PySem.W.Frag) : Sp := SpD K (fun a : List Ad × List En × List (List Int) × Nat × Nat => [.lst (a.2.1.map enD), .lst (a.2.2.1.map roI), .int (a.2.2.2.1 : Int), .int (a.2.2.2.2 : Int)]) (fun a => PreTur a.1 a.2.1 a.2.2.1)
  fun a d => ∃ l : List En, d = .lst (l.map enD) ∧ l.length = a.2.1.length ∧ ∀ e ∈ l, EnF a.1 e
theorem ok_law_turned (T : Tx P K mg base) (C_law_add : Cal P w K mg base 38 "_law_add" ["_law_one", "_law_two", "_law_factor"] [] (SpLad K)) (C_law_times : Cal P w K mg base 37 "_law_times" ["_law_one", "_law_two"] [] (SpLtm K)) :
    Cal P w K mg base 39 "_law_turned" ["_law_lot", "_law_rows", "_law_size", "_law_turn"] [] (SpTur K) := by
  refine cal_of (k := 38) T.d_law_turned scLawTurned (fun _ => rfl) (fun _ _ _ _ _ _ us hl => match us, hl with | [_, _, _, _], _ => rfl) fun cdv f A outer s H Q E hr => ?_
  have hu := hu_of hr
  have hB := big_of (f := f) (cd := cdv) (A := A) (outer := outer) (s := s) (H := H) (E := E) (w := w) (mg := mg) T scLawTurned hr
  refine ⟨_, (pss_cons (ps_set (i := 4) scLawTurned.nd rfl (Or.inl rfl) (pe_lst pa_nil))
  (pss_cons (ps_for PassesOwn.never rfl (pi_range1 rfl T.n_range (pa_cons (pe_callB (cr_len (K := K)) (by rfl) T.n_len (by decide +kernel) (pa_cons (pv 0) pa_nil)) pa_nil)) (pg_name (i := 5) scLawTurned.nd rfl (Or.inl rfl)) (pss_cons (ps_set (i := 6) scLawTurned.nd rfl (Or.inl rfl) (pe_ix (ixK (K := K)) (pe_lst (pa_cons (pe_tup (pa_cons pe_int (pa_cons pe_int pa_nil))) (pa_cons (pe_tup (pa_cons pe_int (pa_cons pe_int pa_nil))) (pa_cons (pe_tup (pa_cons pe_int (pa_cons pe_int pa_nil))) (pa_cons (pe_tup (pa_cons pe_int (pa_cons pe_int pa_nil))) (pa_cons (pe_tup (pa_cons pe_int (pa_cons pe_int pa_nil))) pa_nil)))))) (pe_op op_mod (pe_op (op_fdivB hB) (pe_ix (ixK (K := K)) (pe_ix (ixK (K := K)) (pv 1) (pv 5) (fun _ _ => rfl)) pe_int (fun _ _ => rfl)) pe_int) pe_int) (fun _ _ => rfl)))
  (pss_cons (ps_if (pt_cmpR op_gt (pv 2) pe_int (nomark _)) (pss_one (ps_set (i := 6) scLawTurned.nd rfl (Or.inl rfl) (pe_tup (pa_cons pe_int (pa_cons pe_int pa_nil))))) pss_nil)
  (pss_cons (ps_set (i := 7) scLawTurned.nd rfl (Or.inl rfl) (pe_cal C_law_add hr (by rfl) (pa_cons (pe_tup (pa_cons (pe_tup pa_nil) (pa_cons (pe_tup (pa_cons pe_int (pa_cons pe_int pa_nil))) pa_nil))) (pa_cons (pe_ix (ixK (K := K)) (pe_ix (ixK (K := K)) (pv 0) (pv 5) (fun _ _ => rfl)) pe_int (fun _ _ => rfl)) (pa_cons (pv 6) pa_nil)))))
  (pss_one (ps_expr (pe_bm PySem.F.plainAttrs_list PySem.F.slot_list_append PySem.F.type_list_append mt_append (pv 4) (pa_cons (pe_lst (pa_cons (pv 7) (pa_cons (pe_ix (ixK (K := K)) (pe_ix (ixK (K := K)) (pv 0) (pv 5) (fun _ _ => rfl)) pe_int (fun _ _ => rfl)) (pa_cons (pe_cal C_law_times (hr.mono (by decide)) (by rfl) (pa_cons (pe_ix (ixK (K := K)) (pe_ix (ixK (K := K)) (pv 0) (pv 5) (fun _ _ => rfl)) pe_int (fun _ _ => rfl)) (pa_cons (pe_tup (pa_cons (pe_ix (ixK (K := K)) (pv 6) pe_int (fun _ _ => rfl)) (pa_cons (pe_ix (ixK (K := K)) (pv 6) pe_int (fun _ _ => rfl)) pa_nil))) pa_nil))) pa_nil)))) pa_nil))))))))
  (pss_one (ps_ret (pe_op op_cat (pe_slice sl_list (pv 4) (po_some (pv 3)) po_none) (pe_slice sl_list (pv 4) po_none (po_some (pv 3)))))))), fun a ha => ?_⟩
  obtain ⟨ev, lot, rows, z, tn⟩ := a
  have h1 : PreTur ev lot rows := ha
  have h16 := h1.l16
  try dsimp only [cxK]
  refine q_asgOL eo_nil ?_
  refine q_forM (l := List.range lot.length) (enc := fun k : Nat => .int (k : Int)) (fun pre δ' => ∃ (l : List En) (x y z' : Option Sl), l.length = pre.length ∧ (∀ e ∈ l, EnF ev e) ∧
      δ' = [some (.imm (.lst (lot.map enD))), some (.imm (.lst (rows.map roI))), some (.imm (.int (z : Int))), some (.imm (.int (tn : Int))), some (.ol (l.map enD)), x, y, z'])
    (evi_rangeN (eva_cons (ev_len (evp_var rfl)) eva_nil) (by omega)) ⟨[], _, _, _, rfl, (fun e h => nomatch h), rfl⟩ ?_ ?_
  · rintro pre j _ hp ⟨l, x, y, z', g1, g2, rfl⟩
    obtain ⟨rfl, hj⟩ := range_at hp
    have e1 := List.getElem?_eq_getElem hj
    have hj2 : pre.length < rows.length := by rw [h1.len]; exact hj
    have er := List.getElem?_eq_getElem hj2
    have hs := h1.s _ (List.mem_of_getElem? e1)
    have hr := h1.r _ (List.mem_of_getElem? er)
    generalize lot[pre.length] = e at e1 hs
    generalize rows[pre.length] = r at er hr
    have two : ([((1 : Int), (1 : Int)), (2, 1), (1, 1), (1, 2), (5, 3)] : List Am).length = 5 := rfl
    obtain ⟨n, n1, n2⟩ := mod_nat (rget r 3 / 4) 5 (by decide)
    have hn : n < ([((1 : Int), (1 : Int)), (2, 1), (1, 1), (1, 2), (5, 3)] : List Am).length := by rw [two]; omega
    have hx : Pz 3 2 (([((1 : Int), (1 : Int)), (2, 1), (1, 1), (1, 2), (5, 3)] : List Am).getD n (0, 1)) ∧ Pz 3 3 ((([((1 : Int), (1 : Int)), (2, 1), (1, 1), (1, 2), (5, 3)] : List Am).getD n (0, 1)).2, (([((1 : Int), (1 : Int)), (2, 1), (1, 1), (1, 2), (5, 3)] : List Am).getD n (0, 1)).1) := by
      have := getD_mem hn (0, 1)
      simp only [List.mem_cons, List.not_mem_nil, or_false] at this
      rcases this with h | h | h | h | h <;> rw [h] <;> refine ⟨pz_of ⟨?_, ?_⟩ ⟨?_, ?_⟩, pz_of ⟨?_, ?_⟩ ⟨?_, ?_⟩⟩ <;> decide
    refine ⟨_, _, evg_name, ?_⟩
    refine q_asg (ev_ix (f := am) (getD_some hn (0, 1)) (evp_lst (eva_cons ev_11 (eva_cons (ev_am evp_int evp_int) (eva_cons ev_11 (eva_cons (ev_am evp_int evp_int) (eva_cons (ev_am evp_int evp_int) eva_nil))))) (by show 5 ≤ 100000; decide)) ((ev_mod (by decide) (ev_div (by decide) (ev_rr 3 er hr (by decide) (evp_var rfl) (evp_var rfl)) evp_int) evp_int).to (by rw [n2]))) ?_
    generalize ([((1 : Int), (1 : Int)), (2, 1), (1, 1), (1, 2), (5, 3)] : List Am).getD n (0, 1) = f1 at hx
    refine q_ifI (fun δ' => ∃ f2 : Am, Pz 3 2 f2 ∧ Pz 3 3 (f2.2, f2.1) ∧ δ' = [some (.imm (.lst (lot.map enD))), some (.imm (.lst (rows.map roI))), some (.imm (.int (z : Int))), some (.imm (.int (tn : Int))), some (.ol (l.map enD)), some (.imm (.int ((pre.length : Nat) : Int))), some (.imm (am f2)), z'])
      (evb_test (ev_gt (evp_var rfl) evp_int)) (fun _ => ?_) (fun _ => ⟨f1, hx.1, hx.2, rfl⟩) ?_
    · refine t_asg (A := Eq _) ev_11 fun d hd => ?_
      subst hd
      exact ⟨_, pz11.mono (by decide) (by decide), pz11.mono (by decide) (by decide), rfl⟩
    rintro _ ⟨f2, hf1, hf2, rfl⟩
    have ee : ∀ {δ : De} {ta tb : TE}, EvP K none ta δ (Eq (.lst (lot.map enD))) → EvP K none tb δ (Eq (.int ((pre.length : Nat) : Int))) → EvP K none (tOp (rIx K) ta tb) δ (Eq (enD e)) := fun h1 h2 => ev_ix e1 h1 h2
    refine q_asgP (ev_addP (n1 := 1) (k1 := 0) (N := 500) (k := 250) h1.ok (ev_con (ev_amz ev_01 pz01)) (ev_su (evp_op (ee (evp_var rfl) (evp_var rfl)) evp_int (rv_ix (.lst _) rfl)) hs.s) (ev_amz (evp_var rfl) hf1) (by decide) (by decide) (by decide) (by decide) (by decide)) fun d hd => ?_
    obtain ⟨s', rfl, hs'⟩ := hd
    refine t_appE (i := 4) (l := l) rfl (ev_entry (Qs := SuG ev 500 250) (Qa := Pz 10 10) (ev_su (evp_var rfl) hs') (ev_bex (b := e.2.1) (evp_op (ee (evp_var rfl) (evp_var rfl)) evp_int (rv_ix (.lst _) rfl)))
      (ev_amz (evp_callE (e.2.2, (f2.2, f2.1)) (eva_cons (evp_op (ee (evp_var rfl) (evp_var rfl)) evp_int (rv_ix (.lst _) rfl)) (eva_cons (ev_am (ev_a1 (evp_var rfl)) (ev_a0 (evp_var rfl))) eva_nil)) (hs.w.pmL hf2 (by decide)) fun d q => q) (pz_tms hs.w hf2 (by decide) (by decide)))) (by omega) fun e' he => ?_
    exact ⟨_, _, _, _, by rw [List.length_append, List.length_append, g1]; rfl, all_snoc g2 ⟨he.1, he.2⟩, rfl⟩
  · rintro _ ⟨l, x, y, z', g1, g2, rfl⟩
    rw [List.length_range] at g1
    refine t_freeze 4 rfl rfl (t_ret (A := Eq (.lst ((l.drop tn ++ l.take tn).map enD))) ((evp_op (ev_from (l := l) (f := enD) (evp_var rfl) (evp_var rfl)) (ev_upto (l := l) (f := enD) (evp_var rfl) (evp_var rfl)) (rv_cat ?_)).to ?_) fun d e => ⟨_, e.symm, ?_, fun e he => ?_⟩)
    · rw [List.length_map, List.length_map, List.length_drop, List.length_take]
      omega
    · rw [List.map_append]
    · show (l.drop tn ++ l.take tn).length = lot.length
      rw [List.length_append, List.length_drop, List.length_take]
      omega
    · rcases List.mem_append.mp he with h | h
      · exact g2 e (List.mem_of_mem_drop h)
      · exact g2 e (List.mem_of_mem_take h)
structure PreMany (plan : List Int) (kind size few : Nat) : Prop where
  p : RowR plan 8
  k : kind < 8
  s : size ≤ 3
  f1 : 1 ≤ few
  f4 : few ≤ 4
abbrev SpMan (K : PySem.W.Frag) : Sp := SpD K (fun a : List Int × Nat × Nat × Nat × Bool => [roI a.1, .int (a.2.1 : Int), .int (a.2.2.1 : Int), .int (a.2.2.2.1 : Int), .bl a.2.2.2.2]) (fun a => PreMany a.1 a.2.1 a.2.2.1 a.2.2.2.1) fun a d => ∃ n : Nat, d = .int (n : Int) ∧ n ≤ 16 ∧ (a.2.1 ≠ 7 → 1 ≤ n)
theorem small_list {l : List Int} {n : Nat} (hn : n < l.length) {a b : Int} (h : ∀ x ∈ l, a ≤ x ∧ x ≤ b) : a ≤ l.getD n 0 ∧ l.getD n 0 ≤ b := h _ (getD_mem hn 0)
theorem in_kinds {K : PySem.W.Frag} {δ : De} {ta : TE} {k : Nat} (e : EvP K none ta δ (Eq (.int (k : Int)))) : ∃ b, EvP K none (tOp (rInD K) ta (tLst (tCons (tC (.int 0)) (tCons (tC (.int 1)) (tCons (tC (.int 2)) (tCons (tC (.int 3)) (tCons (tC (.int 6)) tNil))))))) δ (Eq (.bl b)) := by
  refine ⟨_, evp_op e (evp_lst (eva_cons evp_int (eva_cons evp_int (eva_cons evp_int (eva_cons evp_int (eva_cons evp_int eva_nil))))) (by show 5 ≤ 100000; decide)) (rv_inD (by rfl) (by rfl) ?_ ?_)⟩
  · simp [SeqAt.shaped, toPy, PyData.canLay0, PyData.depth]
  · simp [SeqAt.shaped, toPyL, toPy, PyData.canLay0, PyData.canLayAll0, PyData.depth, PyData.depthAll]
theorem ret_nat {v : Int} {kind : Nat} (h1 : 1 ≤ v ∨ (kind = 7 ∧ 0 ≤ v)) (h2 : v ≤ 16) : ∀ d, Dat.int v = d → ∃ n : Nat, d = .int (n : Int) ∧ n ≤ 16 ∧ (kind ≠ 7 → 1 ≤ n) := fun d e => ⟨v.toNat, by rw [← e]; congr 1; omega, by omega, fun h => by omega⟩
theorem ok_law_many (T : Tx P K mg base) : Cal P w K mg base 36 "_law_many" ["_law_plan", "_law_kind", "_law_size", "_law_few", "_law_split"] [] (SpMan K) := by
  refine cal_of (k := 35) T.d_law_many scLawMany (fun _ => rfl) (fun _ _ _ _ _ _ us hl => match us, hl with | [_, _, _, _, _], _ => rfl) fun cdv f A outer s H Q E hr => ?_
  have hu := hu_of hr
  refine ⟨_, (pss_cons (ps_if (pt_cmpR op_eq (pe_op op_mod (pe_ix (ixK (K := K)) (pv 0) pe_int (fun _ _ => rfl)) pe_int) pe_int (nomark _)) (pss_one (ps_ret (pe_ix (ixK (K := K)) (pe_lst (pa_cons (pe_op op_add pe_int (pe_op op_mod (pe_ix (ixK (K := K)) (pv 0) pe_int (fun _ _ => rfl)) pe_int)) (pa_cons pe_int pa_nil))) (pe_callTy cr_int (by rfl) T.n_int (by decide +kernel) (pa_cons (pe_cmpR op_eq (pv 3) pe_int (nomark _)) pa_nil)) (fun _ _ => rfl)))) pss_nil)
  (pss_cons (ps_set (i := 5) scLawMany.nd rfl (Or.inl rfl) (pe_ix (ixK (K := K)) (pe_lst (pa_cons pe_int (pa_cons pe_int (pa_cons pe_int (pa_cons pe_int pa_nil))))) (pe_op op_sub (pv 3) pe_int) (fun _ _ => rfl)))
  (pss_cons (ps_if (pt_val (pv 4)) (pss_one (ps_set (i := 5) scLawMany.nd rfl (Or.inl rfl) pe_int)) pss_nil)
  (pss_cons (ps_if (pt_cmpR op_gt (pv 2) pe_int (nomark _)) (pss_one (ps_set (i := 5) scLawMany.nd rfl (Or.inl rfl) (pe_callB (cr_min2 rfl) (by rfl) T.n_min (by decide +kernel) (pa_cons (pv 5) (pa_cons (pe_ix (ixK (K := K)) (pe_lst (pa_cons pe_int (pa_cons pe_int pa_nil))) (pe_op op_sub (pv 2) pe_int) (fun _ _ => rfl)) pa_nil))))) pss_nil)
  (pss_cons (ps_if (PW.pt (pw_and (pt_cmpR op_eq (pe_op op_mod (pe_ix (ixK (K := K)) (pv 0) pe_int (fun _ _ => rfl)) pe_int) pe_int (nomark _)) (pw_and1 (pt_cmpR (op_inX (K := K) hr) (pv 1) (pe_lst (pa_cons pe_int (pa_cons pe_int (pa_cons pe_int (pa_cons pe_int (pa_cons pe_int pa_nil)))))) (by rfl))))) (pss_one (ps_ret (pv 5))) pss_nil)
  (pss_cons (ps_if (pt_cmpR op_eq (pv 1) pe_int (nomark _)) (pss_one (ps_ret (pe_op op_add pe_int (pe_op op_mod (pe_ix (ixK (K := K)) (pv 0) pe_int (fun _ _ => rfl)) (pe_op op_sub (pv 5) pe_int))))) pss_nil)
  (pss_cons (ps_if (pt_cmpR op_eq (pv 1) pe_int (nomark _)) (pss_one (ps_ret (pe_op op_add (pe_op op_mulH pe_int (pv 3)) (pe_op op_mod (pe_ix (ixK (K := K)) (pv 0) pe_int (fun _ _ => rfl)) (pe_ix (ixK (K := K)) (pe_lst (pa_cons pe_int (pa_cons pe_int (pa_cons pe_int (pa_cons pe_int pa_nil))))) (pe_op op_sub (pv 3) pe_int) (fun _ _ => rfl)))))) pss_nil)
  (pss_cons (ps_if (pt_cmpR op_eq (pv 1) pe_int (nomark _)) (pss_one (ps_ret (pe_op op_add (pv 3) (pe_op op_mod (pe_ix (ixK (K := K)) (pv 0) pe_int (fun _ _ => rfl)) (pe_ix (ixK (K := K)) (pe_lst (pa_cons pe_int (pa_cons pe_int (pa_cons pe_int (pa_cons pe_int pa_nil))))) (pe_op op_sub (pv 3) pe_int) (fun _ _ => rfl)))))) pss_nil)
  (pss_cons (ps_if (pt_cmpR op_eq (pv 1) pe_int (nomark _)) (pss_one (ps_ret (pe_op op_mod (pe_ix (ixK (K := K)) (pv 0) pe_int (fun _ _ => rfl)) pe_int))) pss_nil)
  (pss_one (ps_ret (pe_op op_add pe_int (pe_op op_mod (pe_ix (ixK (K := K)) (pv 0) pe_int (fun _ _ => rfl)) (pv 5)))))))))))))), fun a ha => ?_⟩
  obtain ⟨p, kind, z, few, sp⟩ := a
  obtain ⟨h1, h2, h3, h4, h5⟩ := ha
  have h1 : RowR p 8 := h1
  have h2 : kind < 8 := h2
  have h3 : z ≤ 3 := h3
  have h4 : 1 ≤ few := h4
  have h5 : few ≤ 4 := h5
  try dsimp only [cxK]
  obtain ⟨_, r1, r2⟩ := h1.at (k := 3) (by decide)
  have md : ∀ b : Int, 0 < b → 0 ≤ rget p 3 % b ∧ rget p 3 % b < b := fun b hb => ⟨Int.emod_nonneg _ (by omega), Int.emod_lt_of_pos _ hb⟩
  have m4 := md 4 (by decide)
  have m5 := md 5 (by decide)
  refine q_when (evb_test (ev_eqI (ev_mod (by decide) (ev_rowC 7 h1 (by decide) (evp_var rfl)) evp_int) evp_int)) (fun _ => ?_) fun _ => ?_
  · have hn : (if few = 4 then 1 else 0) < ([9 + rget p 3 % 4, 7] : List Int).length := by show _ < 2; split <;> omega
    have hv := small_list hn (a := 1) (b := 16) (by
      intro x hx
      simp only [List.mem_cons, List.not_mem_nil, or_false] at hx
      omega)
    exact t_ret (A := Eq _) (ev_ix (f := Dat.int) (getD_some hn 0) (evp_lst (eva_cons (ev_add evp_int (ev_mod (by decide) (ev_rowC 3 h1 (by decide) (evp_var rfl)) evp_int)) (eva_cons evp_int eva_nil)) (by show 2 ≤ 100000; decide)) ((ev_intB (ev_eqI (evp_var rfl) evp_int)).to (by
      congr 1
      by_cases c : few = 4
      · subst c; rfl
      · have c2 : ¬ ((few : Int) = 4) := by omega
        simp [c, c2]))) (ret_nat (.inl hv.1) hv.2)
  have hn : few - 1 < ([16, 16, 8, 6] : List Int).length := by show few - 1 < 4; omega
  have hv := small_list hn (a := 6) (b := 16) (by decide)
  refine q_asg (ev_ix (f := Dat.int) (getD_some hn 0) (EvP.to (evp_lst (by walk_at "ev") (by show 4 ≤ 100000; decide)) (by rfl)) ((ev_sub (evp_var rfl) evp_int).to (by congr 1; omega))) ?_
  generalize ([16, 16, 8, 6] : List Int).getD (few - 1) 0 = l1 at hv
  let st : Int → De := fun v => [some (.imm (roI p)), some (.imm (.int (kind : Int))), some (.imm (.int (z : Int))), some (.imm (.int (few : Int))), some (.imm (.bl sp)), some (.imm (.int v))]
  refine q_ifI (fun δ' => ∃ v : Int, 6 ≤ v ∧ v ≤ 16 ∧ δ' = st v) (evb_B (evp_var rfl)) (fun _ => t_asg (A := Eq _) evp_int fun d e => (by subst e; exact ⟨16, by decide, by decide, rfl⟩)) (fun _ => ⟨l1, hv.1, hv.2, rfl⟩) ?_
  rintro _ ⟨l2, v1, v2, rfl⟩
  refine q_ifI (fun δ' => ∃ v : Int, 5 ≤ v ∧ v ≤ 16 ∧ δ' = st v) (b := decide ((1 : Int) < z)) (evb_test (ev_gt (evp_var rfl) evp_int)) (fun c => ?_) (fun _ => ⟨l2, by omega, v2, rfl⟩) ?_
  · have c : (1 : Int) < z := of_decide_eq_true c
    have hn : z - 2 < ([5, 8] : List Int).length := by show z - 2 < 2; omega
    have hv := small_list hn (a := 5) (b := 16) (by decide)
    refine t_asg (A := Eq _) (evp_cb (eva_cons (evp_var rfl) (eva_cons (ev_ix (f := Dat.int) (getD_some hn 0) (EvP.to (evp_lst (by walk_at "ev") (by show 2 ≤ 100000; decide)) (by rfl)) ((ev_sub (evp_var rfl) evp_int).to (by congr 1; omega))) eva_nil)) rc_min) fun d e => ?_
    subst e
    refine ⟨_, ?_, ?_, rfl⟩
    · split <;> omega
    · split <;> omega
  rintro _ ⟨l3, v1, v2, rfl⟩
  obtain ⟨bk, hbk⟩ := in_kinds (K := K) (δ := st l3) (ta := tVar 1) (k := kind) (evp_var rfl)
  refine q_when (evb_and (evb_test (ev_eqI (ev_mod (by decide) (ev_rowC 3 h1 (by decide) (evp_var rfl)) evp_int) evp_int)) fun _ => evb_test hbk) (fun _ => t_ret (A := Eq _) (evp_var rfl) (ret_nat (.inl (by omega)) v2)) fun _ => ?_
  refine q_when (evb_test (ev_eqI (evp_var rfl) evp_int)) (fun _ => ?_) fun _ => ?_
  · have m := md (l3 - 1) (by omega)
    exact t_ret (A := Eq _) (ev_add evp_int (ev_mod (b := l3 - 1) (by omega) (ev_rowC 3 h1 (by decide) (evp_var rfl)) (ev_sub (evp_var rfl) evp_int))) (ret_nat (.inl (by omega)) (by omega))
  refine q_when (evb_test (ev_eqI (evp_var rfl) evp_int)) (fun _ => ?_) fun _ => ?_
  · have hn : few - 1 < ([9, 9, 6, 4] : List Int).length := by show few - 1 < 4; omega
    have hb : 0 < ([9, 9, 6, 4] : List Int).getD (few - 1) 0 ∧ 2 * (few : Int) + ([9, 9, 6, 4] : List Int).getD (few - 1) 0 ≤ 17 := by
      match few, h4, h5 with
      | 1, _, _ => decide
      | 2, _, _ => decide
      | 3, _, _ => decide
      | 4, _, _ => decide
    have eg := getD_some hn 0
    generalize ([9, 9, 6, 4] : List Int).getD (few - 1) 0 = g at hb eg
    have m := md g hb.1
    exact t_ret (A := Eq _) (ev_add (ev_mul (cm40 (by omega) (by omega)) evp_int (evp_var rfl)) (ev_mod (b := g) hb.1 (ev_rowC 3 h1 (by decide) (evp_var rfl)) (ev_ix (f := Dat.int) eg (EvP.to (evp_lst (by walk_at "ev") (by show 4 ≤ 100000; decide)) (by rfl)) ((ev_sub (evp_var rfl) evp_int).to (by congr 1; omega))))) (ret_nat (.inl (by omega)) (by omega))
  refine q_when (evb_test (ev_eqI (evp_var rfl) evp_int)) (fun _ => ?_) fun _ => ?_
  · have hn : few - 1 < ([9, 9, 5, 3] : List Int).length := by show few - 1 < 4; omega
    have hb : 0 < ([9, 9, 5, 3] : List Int).getD (few - 1) 0 ∧ (few : Int) + ([9, 9, 5, 3] : List Int).getD (few - 1) 0 ≤ 17 := by
      match few, h4, h5 with
      | 1, _, _ => decide
      | 2, _, _ => decide
      | 3, _, _ => decide
      | 4, _, _ => decide
    have eg := getD_some hn 0
    generalize ([9, 9, 5, 3] : List Int).getD (few - 1) 0 = g at hb eg
    have m := md g hb.1
    exact t_ret (A := Eq _) (ev_add (evp_var rfl) (ev_mod (b := g) hb.1 (ev_rowC 3 h1 (by decide) (evp_var rfl)) (ev_ix (f := Dat.int) eg (EvP.to (evp_lst (by walk_at "ev") (by show 4 ≤ 100000; decide)) (by rfl)) ((ev_sub (evp_var rfl) evp_int).to (by congr 1; omega))))) (ret_nat (.inl (by omega)) (by omega))
  refine q_when (b := ((kind : Int) == 7)) (evb_test (ev_eqI (evp_var rfl) evp_int)) (fun c => ?_) fun _ => ?_
  · have c : (kind : Int) = 7 := by simpa using c
    exact t_ret (A := Eq _) (ev_mod (by decide) (ev_rowC 3 h1 (by decide) (evp_var rfl)) evp_int) (ret_nat (.inr ⟨by omega, m4.1⟩) (by omega))
  · have m := md l3 (by omega)
    exact t_ret (A := Eq _) (ev_add evp_int (ev_mod (b := l3) (by omega) (ev_rowC 3 h1 (by decide) (evp_var rfl)) (evp_var rfl))) (ret_nat (.inl (by omega)) (by omega))
end
end Tf
/-! text TfAN -/
/-! the builders of the systems, walked: entries -/
namespace Tf
open PySem PySem.Spec PyProof.Rows L2
local macro_rules | `(tactic| walk_at "ev1") => `(tactic| first
  | with_reducible exact evp_int | with_reducible exact evp_bl | with_reducible exact evp_str | with_reducible exact evp_non | with_reducible exact evp_gamA | with_reducible exact evp_gam | (with_reducible apply evp_var; (with_unfolding_all exact rfl))
  | with_reducible exact eva_nil | with_reducible apply eva_cons
  | with_reducible apply evp_op | (with_reducible apply evp_un (hr := ru_int)) | with_reducible apply evp_cb
  | with_reducible apply evp_tup' | (with_reducible show List.length _ ≤ 100000; simp; done)
  | with_reducible exact rv_int | with_reducible exact rv_bl | with_reducible apply rv_intC | with_reducible exact rv_eq (.int _ _) | with_reducible exact rv_ne (.int _ _)
  | (with_reducible apply rv_ix; (first | (with_unfolding_all exact Sq.tup _) | (with_unfolding_all exact Sq.lst _) | (with_reducible apply Sqx.sq; with_reducible assumption)); (with_unfolding_all exact rfl))
  | with_reducible exact rc_gcd
  | with_reducible exact rc_tupA | with_reducible exact rc_tupM
  | (with_reducible apply rc_tup; (first | (with_unfolding_all exact Sq.tup _) | (with_unfolding_all exact Sq.lst _) | (with_reducible apply Sqx.sq; with_reducible assumption)))
  | (with_reducible apply rc_lst; (first | (with_unfolding_all exact Sq.tup _) | (with_unfolding_all exact Sq.lst _) | (with_reducible apply Sqx.sq; with_reducible assumption)))
  | (with_reducible apply rc_len; (first | (with_unfolding_all exact Sq.tup _) | (with_unfolding_all exact Sq.lst _) | (with_reducible apply Sqx.sq; with_reducible assumption)))
  | with_reducible apply rv_cat
  | with_reducible exact evb_yes
  | with_reducible apply evb_test | with_reducible apply evb_B | with_reducible apply evb_not | with_reducible apply evb_and | with_reducible apply evb_or | with_reducible apply evp_and | with_reducible apply evp_or | with_reducible apply evp_not
  | (with_reducible refine fun _ => ?_))
local macro_rules | `(tactic| walk_at "ev") => `(tactic| repeat' walk_at "ev1")
section
variable {K : PySem.W.Frag} {m : Option LkM} {δ δ' : De} {te ta tb tc : TE} {tt tu : TT} {ts t1 t2 t3 : TS} {P : Pt}
theorem q_seqI (I : De → Prop) (h1 : T K m t1 δ { P with nx := I }) (k : ∀ δ', I δ' → T K m t3 δ' P) : T K m (tSeq t1 t3) δ P :=
  t_seq (h1.imp (fun δ' q => k δ' q) (fun _ q => q) (fun _ q => q) fun _ q => q)
end
def adsD (l : List Ad) : Dat := .lst (l.map adr)
/-- a drawn sum with its row -/
abbrev Dr := Su × List Int
def drD (p : Dr) : Dat := .lst [smD p.1, roI p.2]
theorem paired_ex {α β : Type} {f : β → Dat} {Q : β → Prop} : ∀ {l : List α} {ys : List Dat}, Paired (fun (_ : α) d => ∃ b, d = f b ∧ Q b) l ys → ∃ bs : List β, ys = bs.map f ∧ bs.length = l.length ∧ ∀ b ∈ bs, Q b
  | _, _, .nil => ⟨[], rfl, rfl, fun b h => nomatch h⟩
  | _, _, .cons ⟨b, h1, h2⟩ t => by
    obtain ⟨bs, g1, g2, g3⟩ := paired_ex t
    refine ⟨b :: bs, by rw [h1, g1]; rfl, by rw [List.length_cons, List.length_cons, g2], fun x hx => ?_⟩
    rcases List.mem_cons.mp hx with e | e
    · rw [e]; exact h2
    · exact g3 x e
structure PreEnt (p : List Int) (ev : List Ad) (z : Nat) (pt : Pnt) : Prop where
  hp : RowR p 8
  hev : AdsOk ev
  l1 : 1 ≤ ev.length
  l4 : ev.length ≤ 4
  hz : z ≤ 3
  hpt : PtG ev 5 2 pt
theorem shNK {z : Nat} (h : z ≤ 3) : shN z ≤ 100 ∧ shK z ≤ 100 ∧ (z ≠ 2 → shN z ≤ 90 ∧ shK z ≤ 4) := by
  match z, h with
  | 0, _ => decide
  | 1, _ => decide
  | 2, _ => decide
  | 3, _ => decide
section
variable {P : Program} {w : World} {K : PySem.W.Frag} {mg : Str → Option Value} {base : Heap}
abbrev SpEnt (K : PySem.W.Frag) : Sp := SpD K (fun a : List Int × List Int × List Ad × Nat × Pnt => [.scr a.1, roI a.2.1, adsD a.2.2.1, .int (a.2.2.2.1 : Int), ptD a.2.2.2.2]) (fun a => PreEnt a.2.1 a.2.2.1 a.2.2.2.1 a.2.2.2.2)
  fun a d => ∃ l : List En, d = .lst (l.map enD) ∧ l.length ≤ 16 ∧ ∀ e ∈ l, EnF a.2.2.1 e
theorem ok_law_entries (T : Tx P K mg base) (C_law_cell : Cal P w K mg base 36 "_law_cell" ["_law_script", "_law_k"] [] (SpCel K)) (C_law_row : Cal P w K mg base 36 "_law_row" ["_law_cell_here", "_law_many_here"] [] (SpRoI K))
    (C_law_many : Cal P w K mg base 36 "_law_many" ["_law_plan", "_law_kind", "_law_size", "_law_few", "_law_split"] [] (SpMan K))
    (C_law_drawn : Cal P w K mg base 38 "_law_drawn" ["_law_script", "_law_k", "_law_group", "_law_size"] [] (SpDra K))
    (C_law_around : Cal P w K mg base 40 "_law_around" ["_law_sums", "_law_rows", "_law_point"] [] (SpAro K))
    (C_law_hidden : Cal P w K mg base 39 "_law_hidden" ["_law_sums", "_law_rows", "_law_more", "_law_groups"] [] (SpHid K))
    (C_law_thin : Cal P w K mg base 40 "_law_thin" ["_law_sums", "_law_rows", "_law_more", "_law_point", "_law_groups"] [] (SpThi K))
    (C_law_box : Cal P w K mg base 40 "_law_box" ["_law_sums", "_law_rows", "_law_addresses_here", "_law_point"] [] (SpBox K))
    (C_law_cycle : Cal P w K mg base 39 "_law_cycle" ["_law_sums", "_law_rows", "_law_addresses_here"] [] (SpCyc K))
    (C_law_multiples : Cal P w K mg base 39 "_law_multiples" ["_law_sums", "_law_rows"] [] (SpMul K))
    (C_law_free : Cal P w K mg base 36 "_law_free" ["_law_sums", "_law_rows", "_law_bare"] [] (SpFre K))
    (C_law_turned : Cal P w K mg base 39 "_law_turned" ["_law_lot", "_law_rows", "_law_size", "_law_turn"] [] (SpTur K)) :
    Cal P w K mg base 41 "_law_entries" ["_law_script", "_law_plan", "_law_every", "_law_size", "_law_point"] [] (SpEnt K) := by
  refine cal_of (k := 40) T.d_law_entries scLawEntries (fun _ => rfl) (fun _ _ _ _ _ _ us hl => match us, hl with | [_, _, _, _, _], _ => rfl) fun cdv f A outer s H Q E hr => ?_
  have hu := hu_of hr
  have hB := big_of (f := f) (cd := cdv) (A := A) (outer := outer) (s := s) (H := H) (E := E) (w := w) (mg := mg) T scLawEntries hr
  refine ⟨_, (pss_cons (ps_set (i := 5) scLawEntries.nd rfl (Or.inl rfl) (pe_ix (ixK (K := K)) (pe_lst (pa_cons (pe_op op_mod (pe_ix (ixK (K := K)) (pv 1) pe_int (fun _ _ => rfl)) pe_int) (pa_cons pe_int pa_nil))) (pe_callTy cr_int (by rfl) T.n_int (by decide +kernel) (pa_cons (pe_cmpR op_eq (pv 3) pe_int (nomark _)) pa_nil)) (fun _ _ => rfl)))
  (pss_cons (ps_set (i := 6) scLawEntries.nd rfl (Or.inr rfl) (pe_lst (pa_cons (pv 2) pa_nil)))
  (pss_cons (ps_if (PW.pt (pw_and (pt_cmpR op_gt (pe_callB (cr_len (K := K)) (by rfl) T.n_len (by decide +kernel) (pa_cons (pv 2) pa_nil)) pe_int (nomark _)) (pw_and (pt_cmpR op_eq (pe_op op_mod (pe_ix (ixK (K := K)) (pv 1) pe_int (fun _ _ => rfl)) pe_int) pe_int (nomark _)) (pw_and (pt_cmpR op_ne (pv 5) pe_int (nomark _)) (pw_and1 (pt_cmpR op_ne (pv 5) pe_int (nomark _))))))) (pss_one (ps_set (i := 6) scLawEntries.nd rfl (Or.inr rfl) (pe_lst (pa_cons (pe_slice sl_list (pv 2) po_none (po_some pe_int)) (pa_cons (pe_slice sl_list (pv 2) (po_some pe_int) po_none) pa_nil))))) pss_nil)
  (pss_cons (ps_set (i := 7) scLawEntries.nd rfl (Or.inl rfl) (pe_cal C_law_many (hr.mono (by decide)) (by rfl) (pa_cons (pv 1) (pa_cons (pv 5) (pa_cons (pv 3) (pa_cons (pe_callB (cr_len (K := K)) (by rfl) T.n_len (by decide +kernel) (pa_cons (pv 2) pa_nil)) (pa_cons (pe_cmpR op_eq (pe_callB (cr_len (K := K)) (by rfl) T.n_len (by decide +kernel) (pa_cons (pv 6) pa_nil)) pe_int (nomark _)) pa_nil)))))))
  (pss_cons (ps_setLc (i := 8) (own := [("_law_k", 13)]) rfl scLawEntries.nd rfl rfl (sw_true rfl rfl rfl (by decide +kernel)) (pi_range1 rfl T.n_range (pa_cons (pv 7) pa_nil)) (blkOk_by (own := [("_law_k", 13)]) (N := nLawEntries) (sc := defScope sLawEntries) (by decide +kernel)) (fun _ _ _ _ _ => (pg_name (i := 13) scLawEntries.nd rfl (Or.inl rfl))) (fun _ _ _ _ _ => pts_nil) (fun _ _ _ _ _ => (pe_cal C_law_drawn (hr.mono (by decide)) (by rfl) (pa_cons (pv 0) (pa_cons (pv 13) (pa_cons (pe_ix (ixK (K := K)) (pv 6) (pe_op op_mod (pe_op (op_fdivB hB.blk) (pv 13) pe_int) (pe_callB (cr_len (K := K)) (by rfl) T.n_len (by decide +kernel) (pa_cons (pv 6) pa_nil))) (fun _ _ => rfl)) (pa_cons (pv 3) pa_nil)))))))
  (pss_cons (ps_setLc (i := 9) (own := [("_law_pair", 14)]) rfl scLawEntries.nd rfl rfl (sw_true rfl rfl rfl (by decide +kernel)) (pi_seq (K := K) (pv 8)) (blkOk_by (own := [("_law_pair", 14)]) (N := nLawEntries) (sc := defScope sLawEntries) (by decide +kernel)) (fun _ _ _ _ _ => (pg_name (i := 14) scLawEntries.nd rfl (Or.inl rfl))) (fun _ _ _ _ _ => pts_nil) (fun _ _ _ _ _ => (pe_ix (ixK (K := K)) (pv 14) pe_int (fun _ _ => rfl))))
  (pss_cons (ps_setLc (i := 10) (own := [("_law_pair", 14)]) rfl scLawEntries.nd rfl rfl (sw_true rfl rfl rfl (by decide +kernel)) (pi_seq (K := K) (pv 8)) (blkOk_by (own := [("_law_pair", 14)]) (N := nLawEntries) (sc := defScope sLawEntries) (by decide +kernel)) (fun _ _ _ _ _ => (pg_name (i := 14) scLawEntries.nd rfl (Or.inl rfl))) (fun _ _ _ _ _ => pts_nil) (fun _ _ _ _ _ => (pe_ix (ixK (K := K)) (pv 14) pe_int (fun _ _ => rfl))))
  (pss_cons (ps_set (i := 11) scLawEntries.nd rfl (Or.inl rfl) (pe_cal C_law_row (hr.mono (by decide)) (by rfl) (pa_cons (pe_cal C_law_cell (hr.mono (by decide)) (by rfl) (pa_cons (pv 0) (pa_cons pe_int pa_nil))) (pa_cons pe_int pa_nil))))
  (pss_cons (ps_set (i := 12) scLawEntries.nd rfl (Or.inl rfl) (pe_lst pa_nil))
  (pss_cons (ps_if (pt_cmpR op_eq (pv 5) pe_int (nomark _)) (pss_one (ps_set (i := 12) scLawEntries.nd rfl (Or.inl rfl) (pe_cal C_law_around hr (by rfl) (pa_cons (pv 9) (pa_cons (pv 10) (pa_cons (pv 4) pa_nil)))))) (pss_one (ps_if (pt_cmpR op_eq (pv 5) pe_int (nomark _)) (pss_one (ps_set (i := 12) scLawEntries.nd rfl (Or.inl rfl) (pe_cal C_law_hidden (hr.mono (by decide)) (by rfl) (pa_cons (pv 9) (pa_cons (pv 10) (pa_cons (pv 11) (pa_cons (pe_callB (cr_len (K := K)) (by rfl) T.n_len (by decide +kernel) (pa_cons (pv 6) pa_nil)) pa_nil))))))) (pss_one (ps_if (pt_cmpR op_eq (pv 5) pe_int (nomark _)) (pss_one (ps_set (i := 12) scLawEntries.nd rfl (Or.inl rfl) (pe_cal C_law_thin hr (by rfl) (pa_cons (pv 9) (pa_cons (pv 10) (pa_cons (pv 11) (pa_cons (pv 4) (pa_cons (pe_callB (cr_len (K := K)) (by rfl) T.n_len (by decide +kernel) (pa_cons (pv 6) pa_nil)) pa_nil)))))))) (pss_one (ps_if (pt_cmpR op_eq (pv 5) pe_int (nomark _)) (pss_one (ps_set (i := 12) scLawEntries.nd rfl (Or.inl rfl) (pe_cal C_law_box hr (by rfl) (pa_cons (pv 9) (pa_cons (pv 10) (pa_cons (pv 2) (pa_cons (pv 4) pa_nil))))))) (pss_one (ps_if (pt_cmpR op_eq (pv 5) pe_int (nomark _)) (pss_one (ps_set (i := 12) scLawEntries.nd rfl (Or.inl rfl) (pe_cal C_law_cycle (hr.mono (by decide)) (by rfl) (pa_cons (pv 9) (pa_cons (pv 10) (pa_cons (pv 2) pa_nil)))))) (pss_one (ps_if (pt_cmpR op_eq (pv 5) pe_int (nomark _)) (pss_one (ps_set (i := 12) scLawEntries.nd rfl (Or.inl rfl) (pe_cal C_law_multiples (hr.mono (by decide)) (by rfl) (pa_cons (pv 9) (pa_cons (pv 10) pa_nil))))) (pss_one (ps_set (i := 12) scLawEntries.nd rfl (Or.inl rfl) (pe_cal C_law_free (hr.mono (by decide)) (by rfl) (pa_cons (pv 9) (pa_cons (pv 10) (pa_cons (pe_cmpR op_eq (pv 5) pe_int (nomark _)) pa_nil)))))))))))))))))
  (pss_one (ps_ret (pe_cal C_law_turned (hr.mono (by decide)) (by rfl) (pa_cons (pv 12) (pa_cons (pv 10) (pa_cons (pv 3) (pa_cons (pe_op op_mod (pe_ix (ixK (K := K)) (pv 1) pe_int (fun _ _ => rfl)) (pe_callB (cr_max2 rfl) (by rfl) T.n_max (by decide +kernel) (pa_cons pe_int (pa_cons (pv 7) pa_nil)))) pa_nil))))))))))))))))), fun a ha => ?_⟩
  obtain ⟨ns, p, ev, z, pt⟩ := a
  obtain ⟨h1, h2, h3, h4, h5, h6⟩ := ha
  have h1 : RowR p 8 := h1
  have h2 : AdsOk ev := h2
  have h3 : 1 ≤ ev.length := h3
  have h4 : ev.length ≤ 4 := h4
  have h5 : z ≤ 3 := h5
  have h6 : PtG ev 5 2 pt := h6
  have eok : EvOk ev := ⟨h2.ne, h4⟩
  obtain ⟨z1, z2, z3⟩ := shNK h5
  try dsimp only [cxK]
  -- the kind
  obtain ⟨kd, hk1, hk2⟩ := mod_nat (rget p 1) 8 (by decide)
  have hn : (if z = 2 then 1 else 0) < ([(kd : Int), 3] : List Int).length := by show _ < 2; split <;> omega
  obtain ⟨kind, ek, kk1, kk2⟩ : ∃ kind : Nat, ([(kd : Int), 3] : List Int).getD (if z = 2 then 1 else 0) 0 = (kind : Int) ∧ kind < 8 ∧ (z = 2 → kind = 3) := by
    by_cases c : z = 2
    · rw [if_pos c]; exact ⟨3, rfl, by decide, fun _ => rfl⟩
    · rw [if_neg c]; exact ⟨kd, rfl, by omega, fun q => absurd q c⟩
  refine q_asg (d := .int (kind : Int)) ((ev_ix (f := Dat.int) (getD_some hn 0) (evp_lst (eva_cons ((ev_mod (by decide) (ev_rowC 1 h1 (by decide) (evp_var rfl)) evp_int).to (by rw [hk2])) (eva_cons evp_int eva_nil)) (by show 2 ≤ 100000; decide)) ((ev_intB (ev_eqI (evp_var rfl) evp_int)).to (by
      congr 1
      by_cases c : z = 2
      · subst c; rfl
      · have c2 : ¬ ((z : Int) = 2) := by omega
        simp [c, c2]))).to (by rw [ek])) ?_
  -- the groups
  refine q_asg (d := .lst ([ev].map adsD)) (EvP.to (evp_lst (eva_cons (evp_var (d := adsD ev) rfl) eva_nil) (by show 1 ≤ 100000; decide)) rfl) ?_
  refine q_ifI (fun δ' => ∃ gs : List (List Ad), 1 ≤ gs.length ∧ gs.length ≤ 2 ∧ (∀ g ∈ gs, g.Sublist ev) ∧ δ' = [some (.imm (.scr ns)), some (.imm (roI p)), some (.imm (adsD ev)), some (.imm (.int (z : Int))), some (.imm (ptD pt)), some (.imm (.int (kind : Int))), some (.imm (.lst (gs.map adsD))), none, none, none, none, none, none, none, none])
    (evb_and (evb_test (ev_gt (ev_len (l := ev) (f := adr) (evp_var rfl)) evp_int)) fun _ => evb_and (evb_test (ev_eqI (ev_mod (by decide) (ev_rowC 4 h1 (by decide) (evp_var rfl)) evp_int) evp_int)) fun _ => evb_and (evb_test (ev_neI (evp_var rfl) evp_int)) fun _ => evb_test (ev_neI (evp_var rfl) evp_int)) (fun _ => ?_) (fun _ => ⟨[ev], Nat.le_refl _, by show 1 ≤ 2; decide, fun g hg => by rw [List.mem_singleton.mp hg]; exact List.Sublist.refl _, rfl⟩) ?_
  · refine t_asg (A := Eq (.lst ([ev.take 2, ev.drop 2].map adsD))) (EvP.to (evp_lst (eva_cons (ev_upto (l := ev) (f := adr) (n := 2) (evp_var rfl) evp_int) (eva_cons (ev_from (l := ev) (f := adr) (n := 2) (evp_var rfl) evp_int) eva_nil)) (by show 2 ≤ 100000; decide)) rfl) fun d e => ?_
    subst e
    refine ⟨[ev.take 2, ev.drop 2], by show 1 ≤ 2; decide, by show 2 ≤ 2; decide, fun g hg => ?_, rfl⟩
    simp only [List.mem_cons, List.not_mem_nil, or_false] at hg
    rcases hg with e | e <;> subst e
    · exact List.take_sublist _ _
    · exact List.drop_sublist _ _
  rintro _ ⟨gs, gl1, gl2, gsub, rfl⟩
  -- how many
  refine q_asgP (evp_call (p, kind, z, ev.length, ((gs.length : Int) == 2)) (eva_cons (evp_var rfl) (eva_cons (evp_var rfl) (eva_cons (evp_var rfl) (eva_cons (ev_len (l := ev) (f := adr) (evp_var rfl)) (eva_cons (ev_eqI (ev_len (l := gs) (f := adsD) (evp_var rfl)) evp_int) eva_nil))))) ⟨h1, kk1, h5, h3, h4⟩) fun d hd => ?_
  obtain ⟨n, rfl, hn16, hn1⟩ := hd
  have hn1 : kind ≠ 7 → 1 ≤ n := hn1
  -- the drawn sums
  refine q_asgP (A := fun d => ∃ prs : List Dr, d = .lst (prs.map drD) ∧ prs.length = n ∧ ∀ q ∈ prs, SuG ev (shN z) (shK z) q.1 ∧ RowR q.2 20) (evp_lc (l := List.range n) (enc := fun k : Nat => .int (k : Int)) (fun _ => true) (fun _ d => ∃ q : Dr, d = drD q ∧ SuG ev (shN z) (shK z) q.1 ∧ RowR q.2 20) (evi_rangeN (eva_cons (evp_var rfl) eva_nil) (by omega)) (fun _ _ => offm_none) (by rw [List.length_range]; omega) (fun k hk => ?_) fun ys hys => ?_) fun d hd => ?_
  · have hk := List.mem_range.mp hk
    have hm : k / 2 % gs.length < gs.length := Nat.mod_lt _ (by omega)
    have eg := List.getElem?_eq_getElem hm
    have sub := gsub _ (List.mem_of_getElem? eg)
    generalize gs[k / 2 % gs.length] = g at eg sub
    refine ⟨_, _, evg_name, by decide, evb_yes, fun _ => ?_⟩
    refine (evp_call (ns, k, g, z) (eva_cons (evp_var rfl) (eva_cons (evp_var rfl) (eva_cons (ev_ix (l := gs) (f := adsD) eg (evp_var rfl) ((ev_mod (b := (gs.length : Int)) (by omega) (ev_div (by decide) (evp_var rfl) evp_int) (ev_len (l := gs) (f := adsD) (evp_var rfl))).to (by congr 1))) (eva_cons (evp_var rfl) eva_nil)))) ⟨(by show k ≤ 16; omega), List.Nodup.sublist sub h2.nd, Nat.le_trans sub.length_le h4, h5⟩).imp fun d hd => ?_
    obtain ⟨s, r, rfl, hs, hr⟩ := hd
    exact ⟨(s, r), rfl, ⟨hs.ok, fun t ht => sub.subset (hs.mem t ht), hs.tz, hs.cz⟩, hr⟩
  · obtain ⟨prs, e1, e2, e3⟩ := paired_ex hys
    refine ⟨prs, by rw [e1], ?_, e3⟩
    rw [e2, List.filter_eq_self.mpr fun _ _ => rfl, List.length_range]
  obtain ⟨prs, rfl, pl, pok⟩ := hd
  refine q_asg (d := .lst ((prs.map (·.1)).map smD)) ((evp_lcA (l := prs) (enc := drD) (fun q => smD q.1) (evi_sq (evp_var rfl) (.lst _)) (fun _ _ => offm_none) (by omega) fun q hq => ⟨_, _, evg_name, by decide, evp_op (evp_var (d := drD q) rfl) evp_int (rv_ix (.lst _) rfl)⟩).to (by rw [List.map_map]; rfl)) ?_
  refine q_asg (d := .lst ((prs.map (·.2)).map roI)) ((evp_lcA (l := prs) (enc := drD) (fun q => roI q.2) (evi_sq (evp_var rfl) (.lst _)) (fun _ _ => offm_none) (by omega) fun q hq => ⟨_, _, evg_name, by decide, evp_op (evp_var (d := drD q) rfl) evp_int (rv_ix (.lst _) rfl)⟩).to (by rw [List.map_map]; rfl)) ?_
  have sl : (prs.map (·.1)).length = n := by rw [List.length_map, pl]
  have hrl : (prs.map (·.2)).length = (prs.map (·.1)).length := by rw [List.length_map, List.length_map]
  have hro : ∀ r ∈ prs.map (·.2), RowR r 20 := fun r hr => by obtain ⟨q, hq, rfl⟩ := List.mem_map.mp hr; exact (pok q hq).2
  have lotF : PreLot ev (prs.map (·.1)) (prs.map (·.2)) 100 100 := ⟨eok, hrl, by omega, fun s hs => by obtain ⟨q, hq, rfl⟩ := List.mem_map.mp hs; exact (pok q hq).1.mono z1 z2, hro⟩
  have lot : z ≠ 2 → PreLot ev (prs.map (·.1)) (prs.map (·.2)) 90 4 := fun hz => ⟨eok, hrl, by omega, fun s hs => by obtain ⟨q, hq, rfl⟩ := List.mem_map.mp hs; exact (pok q hq).1.mono (z3 hz).1 (z3 hz).2, hro⟩
  generalize prs.map (·.1) = sums at sl hrl lotF lot
  generalize prs.map (·.2) = rows at hrl hro lotF lot
  refine q_asgP (ev_cellrow (k := 19) (n := 20) rfl evp_int evp_int (by decide) (by decide)) fun d hd => ?_
  obtain ⟨more, rfl, hm1, _⟩ := hd
  refine q_asg (d := .lst []) (evp_lst eva_nil (by decide)) ?_
  refine q_seqI (fun δ' => ∃ l : List En, l.length = n ∧ (∀ e ∈ l, EnG ev e) ∧ δ' = [some (.imm (.scr ns)), some (.imm (roI p)), some (.imm (adsD ev)), some (.imm (.int (z : Int))), some (.imm (ptD pt)), some (.imm (.int (kind : Int))), some (.imm (.lst (gs.map adsD))), some (.imm (.int (n : Int))), some (.imm (.lst (prs.map drD))), some (.imm (.lst (sums.map smD))), some (.imm (.lst (rows.map roI))), some (.imm (roI more)), some (.imm (.lst (l.map enD))), none, none]) ?_ ?_
  · have fin : ∀ {te : TE} {Pq : Pt} {δ : De}, EvP K none te δ (LotR ev sums.length) → (∀ l : List En, l.length = n → (∀ e ∈ l, EnG ev e) → Pq.nx (δ.set 12 (some (.imm (.lst (l.map enD)))))) → Tf.T K none (tAsg te (gName 12)) δ Pq := fun {te Pq δ} h q => t_asg h fun d hd => by
      obtain ⟨l, rfl, g1, g2⟩ := hd
      exact q l (by omega) g2
    have ne2 : ∀ {c : Int}, c ≠ 3 → (kind : Int) = c → z ≠ 2 := fun h e q => by have := kk2 q; omega
    have n1 : ∀ {c : Int}, c ≠ 7 → (kind : Int) = c → 1 ≤ sums.length := fun h e => by have := hn1 (by omega); omega
    have tst : ∀ {δ : De} (c : Int), δ[5]? = some (some (.imm (.int (kind : Int)))) → EvB K none (tTest (tOp rEq (tVar 5) (tC (.int c)))) δ ((kind : Int) == c) := fun c e => evb_test (ev_eqI (evp_var e) evp_int)
    have to : ∀ {c : Int}, ((kind : Int) == c) = true → (kind : Int) = c := fun h => by simpa using h
    refine t_if (tst 0 rfl) (fun c => fin (evp_call (ev, sums, rows, pt) (eva_cons (evp_var rfl) (eva_cons (evp_var rfl) (eva_cons (evp_var rfl) eva_nil))) ⟨lot (ne2 (by decide) (to c)), h6⟩) fun l g1 g2 => ⟨l, g1, g2, rfl⟩) fun _ => ?_
    refine t_if (tst 1 rfl) (fun c => fin (evp_call (ev, sums, rows, more, gs.length) (eva_cons (evp_var rfl) (eva_cons (evp_var rfl) (eva_cons (evp_var rfl) (eva_cons (ev_len (l := gs) (f := adsD) (evp_var rfl)) eva_nil)))) ⟨lot (ne2 (by decide) (to c)), n1 (by decide) (to c), hm1, gl1⟩) fun l g1 g2 => ⟨l, g1, g2, rfl⟩) fun _ => ?_
    refine t_if (tst 2 rfl) (fun c => fin (evp_call (ev, sums, rows, more, pt, gs.length) (eva_cons (evp_var rfl) (eva_cons (evp_var rfl) (eva_cons (evp_var rfl) (eva_cons (evp_var rfl) (eva_cons (ev_len (l := gs) (f := adsD) (evp_var rfl)) eva_nil))))) ⟨lot (ne2 (by decide) (to c)), hm1, h6, gl1⟩) fun l g1 g2 => ⟨l, g1, g2, rfl⟩) fun _ => ?_
    refine t_if (tst 4 rfl) (fun c => fin (evp_call (ev, sums, rows, pt) (eva_cons (evp_var rfl) (eva_cons (evp_var rfl) (eva_cons (evp_var rfl) (eva_cons (evp_var rfl) eva_nil)))) ⟨lot (ne2 (by decide) (to c)), h6⟩) fun l g1 g2 => ⟨l, g1, g2, rfl⟩) fun _ => ?_
    refine t_if (tst 5 rfl) (fun c => fin (evp_call (ev, sums, rows) (eva_cons (evp_var rfl) (eva_cons (evp_var rfl) (eva_cons (evp_var rfl) eva_nil))) ⟨lot (ne2 (by decide) (to c)), h3⟩) fun l g1 g2 => ⟨l, g1, g2, rfl⟩) fun _ => ?_
    refine t_if (tst 6 rfl) (fun c => fin (evp_call (ev, sums, rows) (eva_cons (evp_var rfl) (eva_cons (evp_var rfl) eva_nil)) (lot (ne2 (by decide) (to c)))) fun l g1 g2 => ⟨l, g1, g2, rfl⟩) fun _ => ?_
    exact fin (evp_call (ev, sums, rows, ((kind : Int) == 7)) (eva_cons (evp_var rfl) (eva_cons (evp_var rfl) (eva_cons (ev_eqI (evp_var rfl) evp_int) eva_nil))) lotF) fun l g1 g2 => ⟨l, g1, g2, rfl⟩
  rintro _ ⟨l, ll, lg, rfl⟩
  have hmx : (if (n : Int) > 1 then (n : Int) else 1) > 0 := by split <;> omega
  obtain ⟨tn, t1, t2⟩ := mod_nat (rget p 5) (if (n : Int) > 1 then (n : Int) else 1) hmx
  refine t_ret (evp_call (ev, l, rows, z, tn) (eva_cons (evp_var rfl) (eva_cons (evp_var rfl) (eva_cons (evp_var rfl) (eva_cons ((ev_mod hmx (ev_rowC 5 h1 (by decide) (evp_var rfl)) (evp_cb (eva_cons evp_int (eva_cons (evp_var rfl) eva_nil)) rc_max)).to (by rw [t2])) eva_nil)))) ⟨eok, by show rows.length = l.length; omega, by show l.length ≤ 16; omega, lg, hro⟩) fun d hd => ?_
  obtain ⟨l2, rfl, g1, g2⟩ := hd
  exact ⟨l2, rfl, by have : l2.length = l.length := g1; omega, g2⟩
end
end Tf
/-! text TfAO -/
/-! plain: the systems as data; what the law's calls ask -/
namespace Tf
open PySem PySem.Spec PyProof.Rows L2
/-! ### the copy stands for the bounds -/
theorem li_sqx (row : List Int) (a : Int) (ds : List Dat) : Sqx (liD row a (.tup ds)) (liDL row a 0 ds) := by
  rw [liD]
  split
  · exact .lst _
  · exact .tup _
theorem li_all {α : Type} {row : List Int} {f : α → Dat} {R : Dat → α → Prop} (h : ∀ a x, R (liD row a (f x)) x) (a : Int) : ∀ (l : List α) (k : Nat), ∃ ps : List (Dat × α), liDL row a k (l.map f) = ps.map (·.1) ∧ (∀ p ∈ ps, R p.1 p.2) ∧ ps.map (·.2) = l
  | [], k => ⟨[], by rw [List.map_nil, liDL]; rfl, (fun p hp => nomatch hp), rfl⟩
  | x :: l, k => by
    obtain ⟨ps, h1, h2, h3⟩ := li_all h a l (k + 1)
    refine ⟨(liD row (3 * a + k + 1) (f x), x) :: ps, by rw [List.map_cons, liDL, h1]; rfl, fun p hp => ?_, by rw [List.map_cons, h3]⟩
    rcases List.mem_cons.mp hp with e | e
    · rw [e]; exact h _ x
    · exact h2 p e
theorem li_two (row : List Int) (a : Int) (x y : Dat) : ∃ b c : Int, Sqx (liD row a (.tup [x, y])) [liD row b x, liD row c y] := by
  have h := li_sqx row a [x, y]
  rw [liDL, liDL, liDL] at h
  exact ⟨_, _, h⟩
theorem li_am (row : List Int) (a : Int) (x : Am) : AmX (liD row a (am x)) x := by
  have h := li_sqx row a [.int x.1, .int x.2]
  rw [liDL, liDL, liDL, liD, liD] at h
  · exact h
  · intro ds e; cases e
theorem li_strs (row : List Int) (a : Int) : ∀ (l : Ad) (k : Nat), liDL row a k (l.map .str) = l.map .str
  | [], k => by rw [List.map_nil, liDL]
  | s :: l, k => by
    rw [List.map_cons, liDL, li_strs row a l (k + 1), liD]
    intro ds e; cases e
theorem li_adr (row : List Int) (a : Int) (x : Ad) : AdX (liD row a (adr x)) x := by
  have h := li_sqx row a (x.map .str)
  rw [li_strs] at h
  exact h
theorem li_tm (row : List Int) (a : Int) (t : Tm) : TmX (liD row a (tmD t)) t := by
  obtain ⟨b, c, h⟩ := li_two row a (adr t.1) (am t.2)
  exact ⟨_, _, h, li_adr row b t.1, li_am row c t.2⟩
theorem li_sm (row : List Int) (a : Int) (s : Su) : SmX (liD row a (smD s)) s := by
  obtain ⟨b, c, h⟩ := li_two row a (.tup (s.1.map tmD)) (am s.2)
  obtain ⟨ps, h1, h2, h3⟩ := li_all (li_tm row) b s.1 0
  have h4 := li_sqx row b (s.1.map tmD)
  rw [h1] at h4
  exact ⟨_, _, ps, h, h4, h2, h3, li_am row c s.2⟩
theorem li_bd (row : List Int) (a : Int) (b : Bd) : BdX (liD row a (bdD b)) b := by
  have h := li_sqx row a [smD b.1, .bl b.2]
  rw [liDL, liDL, liDL] at h
  have e : ∀ c, liD row c (.bl b.2) = .bl b.2 := fun c => by rw [liD]; intro ds e; cases e
  rw [e] at h
  exact ⟨_, h, li_sm row _ b.1⟩
theorem li_bs (row : List Int) (a : Int) (bs : List Bd) : BsX (liD row a (.tup (bs.map bdD))) bs := by
  obtain ⟨ps, h1, h2, h3⟩ := li_all (li_bd row) a bs 0
  have h4 := li_sqx row a (bs.map bdD)
  rw [h1] at h4
  exact ⟨ps, h4, h2, h3⟩
/-! ### how deep, how well laid -/
theorem td_tup {n : Nat} {ds : List Dat} (h : ds.length ≤ 1000) (h2 : ∀ x ∈ ds, TD n x) : TD (n + 1) (.tup ds) := by
  rw [TD]
  exact ⟨h, h2⟩
theorem td_int {n : Nat} {i : Int} : TD n (.int i) := by cases n <;> simp [TD]
theorem td_str {n : Nat} {i : Str} : TD n (.str i) := by cases n <;> simp [TD]
theorem td_bl {n : Nat} {i : Bool} : TD n (.bl i) := by cases n <;> simp [TD]
theorem td_non {n : Nat} : TD n .non := by cases n <;> simp [TD]
theorem td_two {n : Nat} {x y : Dat} (h1 : TD n x) (h2 : TD n y) : TD (n + 1) (.tup [x, y]) := td_tup (by show 2 ≤ 1000; decide) fun z hz => by
  rcases List.mem_cons.mp hz with e | e
  · rw [e]; exact h1
  · rw [List.mem_singleton.mp e]; exact h2
theorem td_map {α : Type} {n : Nat} {f : α → Dat} {l : List α} (hl : l.length ≤ 1000) (h : ∀ x ∈ l, TD n (f x)) : TD (n + 1) (.tup (l.map f)) := td_tup (by rw [List.length_map]; exact hl) fun z hz => by
  obtain ⟨x, hx, rfl⟩ := List.mem_map.mp hz
  exact h x hx
theorem td_am {n : Nat} {a : Am} : TD (n + 1) (am a) := td_two td_int td_int
theorem td_adr {n : Nat} {a : Ad} (h : a.length ≤ 1000) : TD (n + 1) (adr a) := td_map h fun _ _ => td_str
theorem td_tm {n : Nat} {t : Tm} (h : t.1.length ≤ 1000) : TD (n + 2) (tmD t) := td_two (td_adr h) td_am
theorem td_sm {n : Nat} {s : Su} (hl : s.1.length ≤ 1000) (h : ∀ t ∈ s.1, t.1.length ≤ 1000) : TD (n + 4) (smD s) := td_two (td_map hl fun t ht => td_tm (h t ht)) (td_am (n := n + 2))
theorem td_bd {n : Nat} {b : Bd} (hl : b.1.1.length ≤ 1000) (h : ∀ t ∈ b.1.1, t.1.length ≤ 1000) : TD (n + 5) (bdD b) := td_two (td_sm hl h) td_bl
theorem ok_two {x y : Dat} (h1 : okD x = true) (h2 : okD y = true) : okD (.tup [x, y]) = true := by simp [okD, okDL, h1, h2]
theorem ok_map {α : Type} {f : α → Dat} {l : List α} (h : ∀ x ∈ l, okD (f x) = true) : okD (.tup (l.map f)) = true := by
  rw [okD, okDL_all]
  intro z hz
  obtain ⟨x, hx, rfl⟩ := List.mem_map.mp hz
  exact h x hx
theorem ok_am (a : Am) : okD (am a) = true := ok_two (by simp [okD]) (by simp [okD])
theorem ok_adr {a : Ad} (h : AdOk a) : okD (adr a) = true := ok_map fun s hs => by rw [okD]; exact h s hs
theorem ok_tm {t : Tm} (h : AdOk t.1) : okD (tmD t) = true := ok_two (ok_adr h) (ok_am _)
theorem ok_sm {s : Su} (h : ∀ t ∈ s.1, AdOk t.1) : okD (smD s) = true := ok_two (ok_map fun t ht => ok_tm (h t ht)) (ok_am _)
theorem ok_bd {b : Bd} (h : ∀ t ∈ b.1.1, AdOk t.1) : okD (bdD b) = true := ok_two (ok_sm h) (by simp [okD])
theorem td_depth : ∀ (n : Nat) (d : Dat), TD n d → (toPy d).depth ≤ n
  | n, .non, _ => by simp [toPy, PyData.depth]
  | n, .bl _, _ => by simp [toPy, PyData.depth]
  | n, .int _, _ => by simp [toPy, PyData.depth]
  | n, .str _, _ => by simp [toPy, PyData.depth]
  | n + 1, .tup ds, h => by
    rw [TD] at h
    have all : ∀ l : List Dat, (∀ x ∈ l, TD n x) → PyData.depthAll (toPyL l) ≤ n := fun l => by
      induction l with
      | nil => intro _; simp [toPyL, PyData.depthAll]
      | cons x l ih =>
        intro hl
        have h1 := ih fun y hy => hl y (List.mem_cons_of_mem _ hy)
        have h2 := td_depth n x (hl x List.mem_cons_self)
        rw [toPyL, PyData.depthAll]
        omega
    have := all ds h.2
    rw [toPy, PyData.depth]
    omega
  | 0, .tup ds, h => by simp [TD] at h
  | n, .lst ds, h => by cases n <;> exact h.elim
  | n, .scr ds, h => by cases n <;> exact h.elim
  | n, .dk ds, h => by cases n <;> exact h.elim
  | n, .dt ds, h => by cases n <;> exact h.elim
  | n, .at p q, h => by cases n <;> exact h.elim
theorem td_shaped {n : Nat} {d : Dat} (h : TD n d) (k : okD d = true) (hn : n ≤ 64) : SeqAt.shaped (toPy d) = true := by
  have := td_depth n d h
  unfold SeqAt.shaped
  rw [okD_can k, Bool.true_and, decide_eq_true_eq]
  omega
/-! ### what the calls of the law ask -/
/-- few parts in an address -/
structure AdsF (ev : List Ad) : Prop where
  l : ∀ a ∈ ev, a.length ≤ 1000
section
variable {ev : List Ad} {bs : List Bd} {N : Nat}
theorem GoodS.ters (G : GoodS ev bs) {b : Bd} (hb : b ∈ bs) : b.1.1.length ≤ 1000 := by
  have := (G.sg b hb).len
  have := G.e4
  omega
theorem GoodS.td (G : GoodS ev bs) (F : AdsF ev) : TD 7 (.tup (bs.map bdD)) := td_map (by have := G.len; omega) fun b hb => td_bd (n := 1) (G.ters hb) fun t ht => F.l _ ((G.sg b hb).mem t ht)
theorem GoodS.okd (G : GoodS ev bs) : okD (.tup (bs.map bdD)) = true := ok_map fun b hb => ok_bd fun t ht => G.eok _ ((G.sg b hb).mem t ht)
theorem pre_so (G : GoodS ev bs) (F : AdsF ev) (E : EndS ev bs N) {row : List Int} (h : row.length = 60) : PreSo (bs, row, N) := ⟨h, G.td F, G.okd, E.sol _ (li_bs row 0 bs), E.right, E.yes, E.pt⟩
/-- what is told, well laid -/
theorem told_ok (G : GoodS ev bs) (F : AdsF ev) (E : EndS ev bs N) : noD (toldD (toldR (endX bs N))) = true ∧ SeqAt.shaped (toPy (toldD (toldR (endX bs N)))) = true := by
  have key : TD 4 (toldD (toldR (endX bs N))) ∧ okD (toldD (toldR (endX bs N))) = true := by
    have hr := E.right
    cases e : endX bs N with
    | inl ws =>
      rw [e] at hr
      exact ⟨td_two (td_non (n := 3)) (td_map (n := 2) (by have h1 := hr.1; have h2 := hr.2.1; omega) fun _ _ => td_am), ok_two (by simp [okD]) (ok_map fun a _ => ok_am a)⟩
    | inr p =>
      rw [e] at hr
      have hp := E.pt
      rw [e] at hp
      obtain ⟨c1, c2, c3, c4, _⟩ := hr
      -- the keys are addresses that occur
      have hk : ∀ k ∈ sortA (p.map (·.1)), k ∈ ev := fun k hk => by
        have hk := (sortA_perm _).mem_iff.mp hk
        have hx : endX bs N = resXT bs (itT (fstS bs) (tab0 bs) N) := rfl
        unfold resXT at hx
        rw [e] at hx
        split at hx
        · have hx := Sum.inr.inj hx
          rw [hx] at hk
          exact G.ads0 _ ((pntS_keys k).mp hk)
        · cases hx
      refine ⟨td_two (td_map (n := 2) (by rw [List.length_map, (sortA_perm _).length_eq, List.length_map]; exact hp.1) fun t ht => ?_) (td_non (n := 3)), ok_two (ok_map fun t ht => ?_) (by simp [okD])⟩
      · obtain ⟨k, hk', rfl⟩ := List.mem_map.mp ht
        exact td_tm (n := 0) (F.l _ (hk k hk'))
      · obtain ⟨k, hk', rfl⟩ := List.mem_map.mp ht
        exact ok_tm (G.eok _ (hk k hk'))
  exact ⟨okD_no key.2, td_shaped key.1 key.2 (by decide)⟩
end
end Tf
/-! text TfAP -/
/-! the law, walked -/
namespace Tf
open PySem PySem.Spec PyProof.Rows L2
local macro_rules | `(tactic| walk_at "ev1") => `(tactic| first
  | with_reducible exact evp_int | with_reducible exact evp_bl | with_reducible exact evp_str | with_reducible exact evp_non | with_reducible exact evp_gamA | with_reducible exact evp_gam | (with_reducible apply evp_var; (with_unfolding_all exact rfl))
  | with_reducible exact eva_nil | with_reducible apply eva_cons
  | with_reducible apply evp_op | (with_reducible apply evp_un (hr := ru_int)) | with_reducible apply evp_cb
  | with_reducible apply evp_tup' | (with_reducible show List.length _ ≤ 100000; simp; done)
  | with_reducible exact rv_int | with_reducible exact rv_bl | with_reducible apply rv_intC | with_reducible exact rv_eq (.int _ _) | with_reducible exact rv_ne (.int _ _)
  | (with_reducible apply rv_ix; (first | (with_unfolding_all exact Sq.tup _) | (with_unfolding_all exact Sq.lst _) | (with_reducible apply Sqx.sq; with_reducible assumption)); (with_unfolding_all exact rfl))
  | with_reducible exact rc_gcd
  | with_reducible exact rc_tupA | with_reducible exact rc_tupM
  | (with_reducible apply rc_tup; (first | (with_unfolding_all exact Sq.tup _) | (with_unfolding_all exact Sq.lst _) | (with_reducible apply Sqx.sq; with_reducible assumption)))
  | (with_reducible apply rc_lst; (first | (with_unfolding_all exact Sq.tup _) | (with_unfolding_all exact Sq.lst _) | (with_reducible apply Sqx.sq; with_reducible assumption)))
  | (with_reducible apply rc_len; (first | (with_unfolding_all exact Sq.tup _) | (with_unfolding_all exact Sq.lst _) | (with_reducible apply Sqx.sq; with_reducible assumption)))
  | with_reducible apply rv_cat
  | with_reducible exact evb_yes
  | with_reducible apply evb_test | with_reducible apply evb_B | with_reducible apply evb_not | with_reducible apply evb_and | with_reducible apply evb_or | with_reducible apply evp_and | with_reducible apply evp_or | with_reducible apply evp_not
  | (with_reducible refine fun _ => ?_))
local macro_rules | `(tactic| walk_at "ev") => `(tactic| repeat' walk_at "ev1")
section
variable {K : PySem.W.Frag} {m : Option LkM} {δ δ' : De} {te ta tb tc : TE} {x y d0 : Dat} {R : Dat → Prop} {r : R2} {rl : List V → Hp → VK → Prop} {xs : List Dat}
theorem rc_imp (h : RC K rl xs (Eq d0)) (q : R d0) : RC K rl xs R := fun Hs H vs s t Q k => h Hs H vs s t Q fun z H' Hs' d x t p => k z H' Hs' d x t (p ▸ q)
theorem rv_imp (h : RV K r x y (Eq d0)) (q : R d0) : RV K r x y R := fun Hs H v u s t t2 Q k => h Hs H v u s t t2 Q fun z H' Hs' d x t p => k z H' Hs' d x t (p ▸ q)
theorem ev_uptoP {α : Type} {f : α → Dat} {n : Nat} {A : List α → Prop} (e1 : EvP K m te δ (fun d => ∃ l, d = .lst (l.map f) ∧ A l)) (e2 : EvP K m ta δ (Eq (.int (n : Int)))) : EvP K m (tSl (rSlL K) te tNoPart (tPart ta)) δ (fun d => ∃ l, d = .lst ((l.take n).map f) ∧ A l) := fun Hs0 H0 Hs H σ s Q k =>
  e1 _ _ _ _ _ s _ fun v H1 Hs1 d1 x1 t1 p1 => e2 _ _ _ _ _ (s.grow x1) _ fun u H2 Hs2 d2 x2 t2 p2 => by
    obtain ⟨l, rfl, al⟩ := p1
    cases p2; cases t2
    refine ⟨(n : Int), rfl, ?_⟩
    obtain ⟨a, xs, rfl, h1, h2⟩ := (t1.mono x2.le).lst_inv
    refine ⟨a, xs, rfl, ((s.grow x1).grow x2).sub.sqL h1, fun p np => ?_⟩
    have x := Ext.new (o := .lst (cutV xs none (some (n : Int)))) ((s.grow x1).grow x2).sub np
    refine k (.ref p) _ _ _ ((x1.trans x2).trans x) (.lst upd_same ((h2.mono x.le).cut _ _)) ⟨l, ?_, al⟩
    rw [HT.sIx_nat, HT.sIx_none, List.length_map, List.drop_zero, Nat.sub_zero]
    congr 1
    rw [← List.map_take]
    congr 1
    by_cases c : n ≤ l.length
    · rw [Nat.min_eq_left c]
    · rw [Nat.min_eq_right (by omega), List.take_of_length_le (Nat.le_refl _), List.take_of_length_le (by omega)]
end
def bsD (bs : List Bd) : Dat := .lst (bs.map bdD)
def wsD (ws : List Am) : Dat := .lst (ws.map am)
theorem pick3 {α : Type} {a b c d : α} {k : Nat} (h : k < 3) : [a, b, c][k]? = some ([a, b, c].getD k d) := getD_some h d
theorem isNon_told (x : ResX) : isNonD (toldD x) = false := by cases x <;> rfl
section
variable {P : Program} {w : World} {K : PySem.W.Frag} {mg : Str → Option Value} {base : Heap}
abbrev SpLaw (K : PySem.W.Frag) : Sp := SpD K (fun ns : List Int => [.scr ns]) (fun _ => True) fun _ d => d = .bl true
theorem ok_law (T : Tx P K mg base) {fl : Addr} {fdl : FuncData} (FL : FunD K "law" "law" (defArgs sLaw) (defBody sLaw) (defScope sLaw) [] [] fl fdl) (C_law_cell : Cal P w K mg base 36 "_law_cell" ["_law_script", "_law_k"] [] (SpCel K)) (C_law_row : Cal P w K mg base 36 "_law_row" ["_law_cell_here", "_law_many_here"] [] (SpRoI K))
    (C_law_addresses : Cal P w K mg base 37 "_law_addresses" ["_law_row_here"] [] (SpAds K))
    (C_law_amount : Cal P w K mg base 36 "_law_amount" ["_law_top", "_law_low"] [] (SpLam K))
    (C_law_entries : Cal P w K mg base 41 "_law_entries" ["_law_script", "_law_plan", "_law_every", "_law_size", "_law_point"] [] (SpEnt K))
    (C_law_solved : Cal P w K mg base 45 "_law_solved" ["_law_bounds", "_law_lists"] [] (SpSo K))
    (C_law_keeps : Cal P w K mg base 39 "_law_keeps" ["_law_bounds", "_law_point"] [] (SpKep K))
    (C_law_refutes : Cal P w K mg base 39 "_law_refutes" ["_law_bounds", "_law_weights"] [] (SpLrf K))
    (C_law_confirmed : Cal P w K mg base 40 "_law_confirmed" ["_law_bounds", "_law_told"] [] (SpCon K)) :
    FnOk P w K mg base CX0 46 fl fdl ["_law_script"] (SpLaw K) := by
  refine fnok_of (k := 45) FL scLaw (fun _ => rfl) fun cdv f A outer s H Q E hr => ?_
  have hu := hu_of hr
  refine ⟨_, (pss_cons (ps_set (i := 1) scLaw.nd rfl (Or.inl rfl) (pe_cal C_law_row (hr.mono (by decide)) (by rfl) (pa_cons (pe_cal C_law_cell (hr.mono (by decide)) (by rfl) (pa_cons (pv 0) (pa_cons pe_int pa_nil))) (pa_cons pe_int pa_nil))))
  (pss_cons (ps_if (pt_cmpR op_eq (pe_op op_mod (pe_ix (ixK (K := K)) (pv 1) pe_int (fun _ _ => rfl)) pe_int) pe_int (nomark _)) (pss_one (ps_set (i := 1) scLaw.nd rfl (Or.inl rfl) (pe_op op_cat (pe_lst (pa_cons (pe_callB (cr_max2 rfl) (by rfl) T.n_max (by decide +kernel) (pa_cons pe_int (pa_cons (pe_op op_mod (pe_ix (ixK (K := K)) (pv 1) pe_int (fun _ _ => rfl)) pe_int) pa_nil))) (pa_cons (pe_ix (ixK (K := K)) (pe_lst (pa_cons pe_int (pa_cons pe_int (pa_cons pe_int (pa_cons pe_int (pa_cons pe_int (pa_cons pe_int (pa_cons pe_int (pa_cons pe_int pa_nil))))))))) (pe_op op_mod (pe_ix (ixK (K := K)) (pv 1) pe_int (fun _ _ => rfl)) pe_int) (fun _ _ => rfl)) (pa_cons (pe_op op_mod (pe_ix (ixK (K := K)) (pv 1) pe_int (fun _ _ => rfl)) pe_int) (pa_cons (pe_ix (ixK (K := K)) (pv 1) pe_int (fun _ _ => rfl)) (pa_cons pe_int pa_nil)))))) (pe_slice sl_list (pv 1) (po_some pe_int) po_none)))) pss_nil)
  (pss_cons (ps_set (i := 2) scLaw.nd rfl (Or.inl rfl) (pe_ix (ixK (K := K)) (pe_lst (pa_cons pe_int (pa_cons pe_int (pa_cons pe_int (pa_cons pe_int (pa_cons pe_int (pa_cons pe_int (pa_cons pe_int (pa_cons pe_int pa_nil))))))))) (pe_op op_mod (pe_ix (ixK (K := K)) (pv 1) pe_int (fun _ _ => rfl)) pe_int) (fun _ _ => rfl)))
  (pss_cons (ps_set (i := 3) scLaw.nd rfl (Or.inl rfl) (pe_callB (cr_min2 rfl) (by rfl) T.n_min (by decide +kernel) (pa_cons (pe_op op_add pe_int (pe_op op_mod (pe_ix (ixK (K := K)) (pv 1) pe_int (fun _ _ => rfl)) pe_int)) (pa_cons (pe_ix (ixK (K := K)) (pe_lst (pa_cons pe_int (pa_cons pe_int (pa_cons pe_int (pa_cons pe_int pa_nil))))) (pv 2) (fun _ _ => rfl)) pa_nil))))
  (pss_cons (ps_set (i := 4) scLaw.nd rfl (Or.inl rfl) (pe_callB (cr_sortL (K := K) hr) (by rfl) T.n_sorted (by decide +kernel) (pa_cons (pe_slice sl_list (pe_cal C_law_addresses (hr.mono (by decide)) (by rfl) (pa_cons (pe_cal C_law_row (hr.mono (by decide)) (by rfl) (pa_cons (pe_cal C_law_cell (hr.mono (by decide)) (by rfl) (pa_cons (pv 0) (pa_cons pe_int pa_nil))) (pa_cons pe_int pa_nil))) pa_nil)) po_none (po_some (pv 3))) pa_nil)))
  (pss_cons (ps_set (i := 5) scLaw.nd rfl (Or.inl rfl) (pe_cal C_law_row (hr.mono (by decide)) (by rfl) (pa_cons (pe_cal C_law_cell (hr.mono (by decide)) (by rfl) (pa_cons (pv 0) (pa_cons pe_int pa_nil))) (pa_cons pe_int pa_nil))))
  (pss_cons (ps_set (i := 6) scLaw.nd rfl (Or.inl rfl) pe_dnewT)
  (pss_cons (ps_for PassesOwn.never rfl (pi_range1 rfl T.n_range (pa_cons (pv 3) pa_nil)) (pg_name (i := 7) scLaw.nd rfl (Or.inl rfl)) (pss_cons (ps_dput hu (pv 6) (pe_ix (ixK (K := K)) (pv 4) (pv 7) (fun _ _ => rfl)) (pe_tup (pa_cons (pe_op op_sub (pe_op op_mod (pe_ix (ixK (K := K)) (pv 5) (pe_op op_mulH pe_int (pv 7)) (fun _ _ => rfl)) pe_int) pe_int) (pa_cons pe_int pa_nil))) rfl)
  (pss_one (ps_if (pt_cmpR op_eq (pv 2) pe_int (nomark _)) (pss_one (ps_dput hu (pv 6) (pe_ix (ixK (K := K)) (pv 4) (pv 7) (fun _ _ => rfl)) (pe_cal C_law_amount (hr.mono (by decide)) (by rfl) (pa_cons (pe_op op_sub (pe_ix (ixK (K := K)) (pv 5) (pe_op op_mulH pe_int (pv 7)) (fun _ _ => rfl)) pe_int) (pa_cons (pe_ix (ixK (K := K)) (pe_lst (pa_cons pe_int (pa_cons pe_int (pa_cons pe_int (pa_cons pe_int pa_nil))))) (pe_op op_mod (pe_ix (ixK (K := K)) (pv 5) (pe_op op_add (pe_op op_mulH pe_int (pv 7)) pe_int) (fun _ _ => rfl)) pe_int) (fun _ _ => rfl)) pa_nil))) rfl)) pss_nil))))
  (pss_cons (ps_set (i := 8) scLaw.nd rfl (Or.inl rfl) (pe_cal C_law_entries (hr.mono (by decide)) (by rfl) (pa_cons (pv 0) (pa_cons (pv 1) (pa_cons (pv 4) (pa_cons (pv 2) (pa_cons (pv 6) pa_nil)))))))
  (pss_cons (ps_setLc (i := 9) (own := [("_law_entry", 14)]) rfl scLaw.nd rfl rfl (sw_true rfl rfl rfl (by decide +kernel)) (pi_seq (K := K) (pv 8)) (blkOk_by (own := [("_law_entry", 14)]) (N := nLaw) (sc := defScope sLaw) (by decide +kernel)) (fun _ _ _ _ _ => (pg_name (i := 14) scLaw.nd rfl (Or.inl rfl))) (fun _ _ _ _ _ => pts_nil) (fun _ _ _ _ _ => (pe_tup (pa_cons (pe_ix (ixK (K := K)) (pv 14) pe_int (fun _ _ => rfl)) (pa_cons (pe_ix (ixK (K := K)) (pv 14) pe_int (fun _ _ => rfl)) pa_nil)))))
  (pss_cons (ps_setLc (i := 10) (own := [("_law_entry", 14)]) rfl scLaw.nd rfl rfl (sw_true rfl rfl rfl (by decide +kernel)) (pi_seq (K := K) (pv 8)) (blkOk_by (own := [("_law_entry", 14)]) (N := nLaw) (sc := defScope sLaw) (by decide +kernel)) (fun _ _ _ _ _ => (pg_name (i := 14) scLaw.nd rfl (Or.inl rfl))) (fun _ _ _ _ _ => pts_nil) (fun _ _ _ _ _ => (pe_ix (ixK (K := K)) (pv 14) pe_int (fun _ _ => rfl))))
  (pss_cons (ps_set (i := 11) scLaw.nd rfl (Or.inl rfl) (pe_lst (pa_cons (pv 9) (pa_cons (pe_lc (own := [("_law_entry", 14)]) rfl scLaw.nd (pi_seq (K := K) (pv 8)) (blkOk_by (own := [("_law_entry", 14)]) (N := nLaw) (sc := defScope sLaw) (by decide +kernel)) (fun _ _ _ _ _ => (pg_name (i := 14) scLaw.nd rfl (Or.inl rfl))) (fun _ _ _ _ _ => pts_nil) (fun _ _ _ _ _ => (pe_tup (pa_cons (pe_ix (ixK (K := K)) (pv 14) pe_int (fun _ _ => rfl)) (pa_cons (pe_not (pe_ix (ixK (K := K)) (pv 14) pe_int (fun _ _ => rfl))) pa_nil))))) (pa_cons (pe_slice sl_list (pv 9) (po_some pe_int) po_none) pa_nil)))))
  (pss_cons (ps_set (i := 12) scLaw.nd rfl (Or.inl rfl) (pe_cal C_law_row (hr.mono (by decide)) (by rfl) (pa_cons (pe_cal C_law_cell (hr.mono (by decide)) (by rfl) (pa_cons (pv 0) (pa_cons pe_int pa_nil))) (pa_cons pe_int pa_nil))))
  (pss_cons (ps_if (pt_cmpR op_gt (pe_op op_mod (pe_ix (ixK (K := K)) (pv 1) pe_int (fun _ _ => rfl)) pe_int) pe_int (nomark _)) (pss_one (ps_set (i := 12) scLaw.nd rfl (Or.inl rfl) (pe_op op_rep (pe_lst (pa_cons (pe_op op_mod (pe_ix (ixK (K := K)) (pv 1) pe_int (fun _ _ => rfl)) pe_int) pa_nil)) pe_int))) pss_nil)
  (pss_cons (ps_set (i := 13) scLaw.nd rfl (Or.inl rfl) (pe_lst pa_nil))
  (pss_cons (ps_for PassesOwn.never rfl (pi_range1 rfl T.n_range (pa_cons pe_int pa_nil)) (pg_name (i := 7) scLaw.nd rfl (Or.inl rfl)) (pss_cons (ps_expr (pe_bm PySem.F.plainAttrs_list PySem.F.slot_list_append PySem.F.type_list_append mt_append (pv 13) (pa_cons (pe_cal C_law_solved hr (by rfl) (pa_cons (pe_ix (ixK (K := K)) (pv 11) (pv 7) (fun _ _ => rfl)) (pa_cons (pv 12) pa_nil))) pa_nil)))
  (pss_cons (ps_if (pt_cmpR op_isNo (pe_ix (ixK (K := K)) (pv 13) (pv 7) (fun _ _ => rfl)) pe_non (nomark _)) (pss_one (ps_ret pe_bl)) pss_nil)
  (pss_cons (ps_if (PW.pt (pw_and (pt_cmpR op_isNo (pe_ix (ixK (K := K)) (pe_ix (ixK (K := K)) (pv 13) (pv 7) (fun _ _ => rfl)) pe_int (fun _ _ => rfl)) pe_non (nomark _)) (pw_and1 (pt_val (pe_cal C_law_keeps (hr.mono (by decide)) (by rfl) (pa_cons (pe_ix (ixK (K := K)) (pv 11) (pv 7) (fun _ _ => rfl)) (pa_cons (pv 6) pa_nil))))))) (pss_one (ps_ret pe_bl)) pss_nil)
  (pss_cons (ps_if (PW.pt (pw_and (pt_cmpR op_isNo (pe_ix (ixK (K := K)) (pe_ix (ixK (K := K)) (pv 13) (pv 7) (fun _ _ => rfl)) pe_int (fun _ _ => rfl)) pe_non (nomark _)) (pw_and1 (pt_val (pe_cal C_law_refutes (hr.mono (by decide)) (by rfl) (pa_cons (pe_ix (ixK (K := K)) (pv 11) (pv 7) (fun _ _ => rfl)) (pa_cons (pe_ix (ixK (K := K)) (pe_lst (pa_cons (pv 10) (pa_cons (pv 10) (pa_cons (pe_slice sl_list (pv 10) (po_some pe_int) po_none) pa_nil)))) (pv 7) (fun _ _ => rfl)) pa_nil))))))) (pss_one (ps_ret pe_bl)) pss_nil)
  (pss_one (ps_if (pt_not (pt_val (pe_cal C_law_confirmed (hr.mono (by decide)) (by rfl) (pa_cons (pe_ix (ixK (K := K)) (pv 11) (pv 7) (fun _ _ => rfl)) (pa_cons (pe_ix (ixK (K := K)) (pv 13) (pv 7) (fun _ _ => rfl)) pa_nil))))) (pss_one (ps_ret pe_bl)) pss_nil)))))))
  (pss_cons (ps_for PassesOwn.never rfl (pi_range1 rfl T.n_range (pa_cons pe_int pa_nil)) (pg_name (i := 7) scLaw.nd rfl (Or.inl rfl)) (pss_one (ps_if (pt_cmpR (op_neX (K := K) hr) (pe_cal C_law_solved hr (by rfl) (pa_cons (pe_ix (ixK (K := K)) (pv 11) (pv 7) (fun _ _ => rfl)) (pa_cons (pe_op op_rep (pe_lst (pa_cons pe_int pa_nil)) pe_int) pa_nil))) (pe_ix (ixK (K := K)) (pv 13) (pv 7) (fun _ _ => rfl)) (nomark _)) (pss_one (ps_ret pe_bl)) pss_nil)))
  (pss_one (ps_ret pe_bl))))))))))))))))))), fun ns ha => ?_⟩
  clear ha
  try dsimp only [cxK]
  -- the plan
  refine q_asgP (ev_cellrow (k := 1) (n := 8) rfl evp_int evp_int (by decide) (by decide)) fun d hd => ?_
  obtain ⟨p0, rfl, hp0, _⟩ := hd
  refine q_ifI (fun δ' => ∃ p, RowR p 8 ∧ δ' = [some (.imm (.scr ns)), some (.imm (roI p)), none, none, none, none, none, none, none, none, none, none, none, none, none])
    (evb_test (ev_eqI (ev_mod (by decide) (ev_rowC 7 hp0 (by decide) (evp_var rfl)) evp_int) evp_int)) (fun _ => ?_) (fun _ => ⟨p0, hp0, rfl⟩) ?_
  · have md : ∀ (a : Int) {b : Int}, 0 < b → 0 ≤ a % b ∧ a % b < b := fun a b hb => ⟨Int.emod_nonneg _ (by omega), Int.emod_lt_of_pos _ hb⟩
    have a1 := md (rget p0 0) (b := 4) (by decide)
    have a2 := md (rget p0 2) (b := 2) (by decide)
    obtain ⟨_, r1, r2⟩ := hp0.at (k := 3) (by decide)
    obtain ⟨n, n1, n2⟩ := mod_nat (rget p0 1) 8 (by decide)
    have hn : n < ([0, 1, 0, 2, 0, 3, 6, 0] : List Int).length := by show n < 8; omega
    have hv := small_list hn (a := 0) (b := 6) (by decide)
    refine t_asg (A := Eq (roI ([(if rget p0 0 % 4 > 2 then rget p0 0 % 4 else 2), ([0, 1, 0, 2, 0, 3, 6, 0] : List Int).getD n 0, rget p0 2 % 2, rget p0 3, 1] ++ p0.drop 5))) (EvP.to (evp_op (evp_lst (eva_cons (evp_cb (eva_cons evp_int (eva_cons (ev_mod (by decide) (ev_rowC 0 hp0 (by decide) (evp_var rfl)) evp_int) eva_nil)) rc_max)
      (eva_cons (ev_ix (f := Dat.int) (getD_some hn 0) (EvP.to (evp_lst (by walk_at "ev") (by show 8 ≤ 100000; decide)) (by rfl)) ((ev_mod (by decide) (ev_rowC 1 hp0 (by decide) (evp_var rfl)) evp_int).to (by rw [n2])))
      (eva_cons (ev_mod (by decide) (ev_rowC 2 hp0 (by decide) (evp_var rfl)) evp_int) (eva_cons (ev_rowC 3 hp0 (by decide) (evp_var rfl)) (eva_cons evp_int eva_nil))))) (by show 5 ≤ 100000; decide)) (ev_from (l := p0) (f := Dat.int) (n := 5) (evp_var rfl) evp_int) (rv_cat ?_)) ?_) fun d e => ?_
    · rw [List.length_map, List.length_drop]
      have : p0.length = 8 := by assumption
      show 5 + _ ≤ 100000
      omega
    · unfold roI
      rw [List.map_append]
      rfl
    · subst e
      refine ⟨_, ⟨?_, fun i hi => ?_⟩, rfl⟩
      · have := hp0.len
        rw [List.length_append, List.length_drop]
        show 8 ≤ 5 + _
        omega
      · rcases List.mem_append.mp hi with h | h
        · simp only [List.mem_cons, List.not_mem_nil, or_false] at h
          rcases h with h | h | h | h | h
          · rw [h]; split <;> omega
          · rw [h]; omega
          · rw [h]; omega
          · rw [h]; omega
          · rw [h]; decide
        · exact hp0.rg i (List.mem_of_mem_drop h)
  rintro _ ⟨p, hp, rfl⟩
  -- the size
  obtain ⟨n, n1, n2⟩ := mod_nat (rget p 2) 8 (by decide)
  have hn : n < ([0, 1, 1, 0, 1, 2, 3, 1] : List Int).length := by show n < 8; omega
  have hv := small_list hn (a := 0) (b := 3) (by decide)
  have eg := getD_some hn 0
  obtain ⟨z, hz⟩ : ∃ z : Nat, ([0, 1, 1, 0, 1, 2, 3, 1] : List Int).getD n 0 = (z : Int) := ⟨(([0, 1, 1, 0, 1, 2, 3, 1] : List Int).getD n 0).toNat, by omega⟩
  rw [hz] at hv eg
  have hz3 : z ≤ 3 := by omega
  refine q_asg (d := .int (z : Int)) (ev_ix (f := Dat.int) eg (EvP.to (evp_lst (by walk_at "ev") (by show 8 ≤ 100000; decide)) (by rfl)) ((ev_mod (by decide) (ev_rowC 2 hp (by decide) (evp_var rfl)) evp_int).to (by rw [n2]))) ?_
  -- how many addresses
  have hn4 : z < ([4, 4, 3, 4] : List Int).length := by show z < 4; omega
  have hv4 := small_list hn4 (a := 3) (b := 4) (by decide)
  have eg4 := getD_some hn4 0
  have mp := Int.emod_nonneg (rget p 0) (b := 4) (by decide)
  have mp2 := Int.emod_lt_of_pos (rget p 0) (b := 4) (by decide)
  obtain ⟨few, hf1, hf2, hf3⟩ : ∃ few : Nat, (if ([4, 4, 3, 4] : List Int).getD z 0 < 1 + rget p 0 % 4 then ([4, 4, 3, 4] : List Int).getD z 0 else 1 + rget p 0 % 4) = (few : Int) ∧ 1 ≤ few ∧ few ≤ 4 := by
    refine ⟨(if ([4, 4, 3, 4] : List Int).getD z 0 < 1 + rget p 0 % 4 then ([4, 4, 3, 4] : List Int).getD z 0 else 1 + rget p 0 % 4).toNat, ?_, ?_, ?_⟩ <;> split <;> omega
  refine q_asg (d := .int (few : Int)) ((evp_cb (eva_cons (ev_add evp_int (ev_mod (by decide) (ev_rowC 0 hp (by decide) (evp_var rfl)) evp_int)) (eva_cons (ev_ix (f := Dat.int) eg4 (EvP.to (evp_lst (by walk_at "ev") (by show 4 ≤ 100000; decide)) (by rfl)) (evp_var rfl)) eva_nil)) rc_min).to (by rw [← hf1])) ?_
  -- the addresses
  refine q_asgP (A := fun d => ∃ ev, d = adsD ev ∧ AdsOk ev ∧ ev.length = few) (evp_cbP (eva_1 (ev_uptoP (f := adr) (A := fun l => AdsOk l ∧ 4 ≤ l.length ∧ l.length ≤ 9) (ev_callP (eva_1 (ev_cellrow (k := 0) (n := 30) rfl evp_int evp_int (by decide) (by decide))) fun ds hds => ?_) (evp_var (d := .int (few : Int)) rfl))) fun ds hds => ?_) fun d hd => ?_
  · obtain ⟨x, rfl, r, rfl, hr1, _⟩ := hds
    exact ⟨r, rfl, hr1, fun d hd => hd⟩
  · obtain ⟨x, rfl, l, rfl, hl, hl4, hl9⟩ := hds
    have mem : ∀ a ∈ sortA (l.take few), a ∈ l := fun a h => List.mem_of_mem_take ((sortA_perm _).mem_iff.mp h)
    refine rc_imp (rc_sortL (by rw [List.length_take]; omega) fun a h => hl.ne a (List.mem_of_mem_take h)) ⟨_, rfl, ⟨(sortA_perm _).nodup_iff.mpr (List.Nodup.sublist (List.take_sublist _ _) hl.nd), fun a h => hl.ne a (mem a h), fun a h => hl.ok a (mem a h), fun a h => hl.ln a (mem a h)⟩, ?_⟩
    rw [(sortA_perm _).length_eq, List.length_take]
    omega
  obtain ⟨ev, rfl, hev, hevl⟩ := hd
  -- the point
  refine q_asgP (ev_cellrow (k := 18) (n := 8) rfl evp_int evp_int (by decide) (by decide)) fun d hd => ?_
  obtain ⟨r, rfl, hr1, _⟩ := hd
  refine q_asgOT eo_dt fun kvs e => ?_
  subst e
  let st : Pnt → Option Sl → De := fun q x => [some (.imm (.scr ns)), some (.imm (roI p)), some (.imm (.int (z : Int))), some (.imm (.int (few : Int))), some (.imm (adsD ev)), some (.imm (roI r)), some (.ot (mapV am q)), x, none, none, none, none, none, none, none]
  refine q_forM (l := List.range few) (enc := fun k : Nat => .int (k : Int)) (fun pre δ' => ∃ (q : Pnt) (x : Option Sl), q.length ≤ 2 * pre.length ∧ (∀ j a, j < pre.length → ev[j]? = some a → ∃ v, aget q a = some v ∧ Pz 5 2 v) ∧ δ' = st q x)
    (evi_rangeN (eva_cons (evp_var rfl) eva_nil) (by omega)) ⟨[], _, by decide, (fun j a h => by simp at h), rfl⟩ ?_ ?_
  · rintro pre j _ hpre ⟨q, x, g1, g2, rfl⟩
    obtain ⟨rfl, hj⟩ := range_at hpre
    have hje : pre.length < ev.length := by omega
    have ea := List.getElem?_eq_getElem hje
    generalize ev[pre.length] = a at ea
    refine ⟨_, _, evg_name, ?_⟩
    have more : ∀ (q : Pnt) (v0 : Am), Pz 5 2 v0 → (∀ j a, j < pre.length → ev[j]? = some a → ∃ v, aget q a = some v ∧ Pz 5 2 v) → ∀ j b, j < (pre ++ [pre.length]).length → ev[j]? = some b → ∃ v, aget (aput q a v0) b = some v ∧ Pz 5 2 v := fun q v hv h j b hjl hb => by
      rw [aget_aput]
      by_cases c : b = a
      · rw [if_pos c]; exact ⟨v, rfl, hv⟩
      · rw [if_neg c]
        rw [List.length_append, List.length_singleton] at hjl
        refine h j b ?_ hb
        by_cases e : j = pre.length
        · subst e
          rw [ea] at hb
          exact absurd (Option.some.inj hb).symm c
        · omega
    have less : ∀ (q : Pnt) (v : Am), (aput q a v).length ≤ q.length + 1 := fun q v => aput_len q a v
    have m1 := Int.emod_nonneg (rget r (2 * pre.length)) (b := 7) (by decide)
    have m2 := Int.emod_lt_of_pos (rget r (2 * pre.length)) (b := 7) (by decide)
    have e2k : ∀ {δ : De}, δ[7]? = some (some (.imm (.int ((pre.length : Nat) : Int)))) → EvP K none (tOp (rI CMulH fun i j => .int (i * j)) (tC (.int 2)) (tVar 7)) δ (Eq (.int ((2 * pre.length : Nat) : Int))) := fun e => (ev_mul (cm40 (by omega) (by omega)) evp_int (evp_var e)).to (by congr 1)
    refine t_seq (t_putT (A := Eq (am (rget r (2 * pre.length) % 7 - 3, 1))) (l := mapV am q) (k := a) rfl (ev_am (ev_sub (ev_mod (by decide) (ev_row (k := 2 * pre.length) hr1 (by omega) (evp_var rfl) (e2k rfl)) evp_int) evp_int) evp_int) (ev_ix (f := adr) ea (evp_var (d := adsD ev) rfl) (evp_var rfl)) (by rw [mapV_len]; omega) fun d e => ?_)
    subst e
    rw [aput_mapV]
    have pv : Pz 5 2 (rget r (2 * pre.length) % 7 - 3, 1) := pz_of ⟨by show -(2 ^ 5) < rget r (2 * pre.length) % 7 - 3; omega, by show rget r (2 * pre.length) % 7 - 3 < 2 ^ 5; omega⟩ ⟨by show (0 : Int) < 1; decide, by show (1 : Int) ≤ 2 ^ 2; decide⟩
    generalize (rget r (2 * pre.length) % 7 - 3, (1 : Int)) = v1 at pv
    have l1 := less q v1
    refine t_when (evb_test (ev_eqI (evp_var rfl) evp_int)) (fun _ => ?_) fun _ => ⟨aput q a v1, _, by rw [List.length_append, List.length_singleton]; omega, more q v1 pv g2, rfl⟩
    obtain ⟨_, r1, r2⟩ := hr1.at (k := 2 * pre.length) (by omega)
    obtain ⟨i, i1, i2⟩ := mod_nat (rget r (2 * pre.length + 1)) 4 (by decide)
    have hi : i < ([1, 2, 3, 1] : List Int).length := by show i < 4; omega
    have hiv := small_list hi (a := 1) (b := 3) (by decide)
    have eig := getD_some hi 0
    generalize ([1, 2, 3, 1] : List Int).getD i 0 = lo at hiv eig
    refine t_putT (A := Eq (am (amt (rget r (2 * pre.length) - 30) lo))) (l := mapV am (aput q a v1)) (k := a) rfl (evp_callE (rget r (2 * pre.length) - 30, lo) (eva_cons (ev_sub (ev_row (k := 2 * pre.length) hr1 (by omega) (evp_var rfl) (e2k rfl)) evp_int) (eva_cons (ev_ix (f := Dat.int) eig (EvP.to (evp_lst (by walk_at "ev") (by show 4 ≤ 100000; decide)) (by rfl)) ((ev_mod (by decide) (ev_row (k := 2 * pre.length + 1) hr1 (by omega) (evp_var rfl) ((ev_add (e2k rfl) evp_int).to (by congr 1))) evp_int).to (by rw [i2]))) eva_nil)) ⟨by show 0 < lo; omega, lt2_le (le2_of (n := 2) ⟨by omega, by omega⟩) (by decide)⟩ fun d q => q) (ev_ix (f := adr) ea (evp_var (d := adsD ev) rfl) (evp_var rfl)) (by rw [mapV_len]; omega) fun d e => ?_
    subst e
    rw [aput_mapV]
    have pv2 : Pz 5 2 (amt (rget r (2 * pre.length) - 30) lo) := pzA ⟨by omega, by omega⟩ ⟨by omega, by omega⟩
    have l2 := less (aput q a v1) (amt (rget r (2 * pre.length) - 30) lo)
    exact ⟨aput (aput q a v1) a (amt (rget r (2 * pre.length) - 30) lo), _, by rw [List.length_append, List.length_singleton]; omega, more _ _ pv2 fun j b hjl hb => by
      rw [aget_aput]
      by_cases c : b = a
      · rw [if_pos c]; exact ⟨v1, rfl, pv⟩
      · rw [if_neg c]; exact g2 j b hjl hb, rfl⟩
  rintro _ ⟨q, x7, _, g2, rfl⟩
  rw [List.length_range] at g2
  refine t_freeze 6 rfl rfl ?_
  have hpt : PtG ev 5 2 q := ⟨fun a ha => by
    obtain ⟨j, hj⟩ := List.getElem?_of_mem ha
    exact g2 j a (by have := (List.getElem?_eq_some_iff.mp hj).1; omega) hj⟩
  -- the lot
  refine q_asgP (evp_call (ns, p, ev, z, q) (eva_cons (evp_var rfl) (eva_cons (evp_var rfl) (eva_cons (evp_var rfl) (eva_cons (evp_var rfl) (eva_cons (evp_var rfl) eva_nil))))) ⟨hp, hev, by show 1 ≤ ev.length; omega, by show ev.length ≤ 4; omega, hz3, hpt⟩) fun d hd => ?_
  obtain ⟨lot, rfl, ll, lg⟩ := hd
  have lg : ∀ e ∈ lot, EnF ev e := lg
  have en : ∀ {δ : De} {e : En} (c : Nat) {x : Dat}, δ[14]? = some (some (.imm (enD e))) → atI [smD e.1, .bl e.2.1, am e.2.2] (c : Int) = some x → EvP K none (tOp (rIx K) (tVar 14) (tC (.int (c : Int)))) δ (Eq x) := by
    intro δ e c x h1 h2
    exact evp_op (evp_var h1) evp_int (rv_ix (.lst _) h2)
  refine q_asg (d := bsD (lot.map fun e => (e.1, e.2.1))) ((evp_lcA (l := lot) (enc := enD) (fun e => bdD (e.1, e.2.1)) (evi_sq (evp_var rfl) (.lst _)) (fun _ _ => offm_none) (by omega) fun e _ => ⟨_, _, evg_name, by decide, ev_two (en 0 rfl rfl) (en 1 rfl rfl)⟩).to (by unfold bsD; rw [List.map_map]; rfl)) ?_
  refine q_asg (d := wsD (lot.map fun e => e.2.2)) ((evp_lcA (l := lot) (enc := enD) (fun e => am e.2.2) (evi_sq (evp_var rfl) (.lst _)) (fun _ _ => offm_none) (by omega) fun e _ => ⟨_, _, evg_name, by decide, en 2 rfl rfl⟩).to (by unfold wsD; rw [List.map_map]; rfl)) ?_
  have hb0 : ∀ b ∈ lot.map (fun e : En => (e.1, e.2.1)), SuG ev 500 250 b.1 := fun b hb => by obtain ⟨e, he, rfl⟩ := List.mem_map.mp hb; exact (lg e he).s
  have hb1 : ∀ b ∈ lot.map (fun e : En => (e.1, !e.2.1)), SuG ev 500 250 b.1 := fun b hb => by obtain ⟨e, he, rfl⟩ := List.mem_map.mp hb; exact (lg e he).s
  have hw0 : ∀ a ∈ lot.map (fun e : En => e.2.2), Pz 10 10 a := fun b hb => by obtain ⟨e, he, rfl⟩ := List.mem_map.mp hb; exact (lg e he).w
  have hl0 : (lot.map fun e : En => (e.1, e.2.1)).length = lot.length := List.length_map _
  have hl1 : (lot.map fun e : En => (e.1, !e.2.1)).length = lot.length := List.length_map _
  have hlw : (lot.map fun e : En => e.2.2).length = lot.length := List.length_map _
  refine q_asg (d := .lst ([lot.map (fun e : En => (e.1, e.2.1)), lot.map (fun e : En => (e.1, !e.2.1)), (lot.map (fun e : En => (e.1, e.2.1))).drop 1].map bsD)) (EvP.to (evp_lst (eva_cons (evp_var rfl) (eva_cons (evp_lcA (l := lot) (enc := enD) (fun e => bdD (e.1, !e.2.1)) (evi_sq (evp_var rfl) (.lst _)) (fun _ _ => offm_none) (by omega) fun e _ => ⟨_, _, evg_name, by decide, ev_two (en 0 rfl rfl) (evp_not (en 1 rfl rfl))⟩) (eva_cons (ev_from (l := lot.map fun e : En => (e.1, e.2.1)) (f := bdD) (n := 1) (evp_var rfl) evp_int) eva_nil))) (by show 3 ≤ 100000; decide)) ?_) ?_
  · show Dat.lst [_, _, _] = Dat.lst [_, _, _]
    unfold bsD
    rw [List.map_map (l := lot) (f := fun e : En => (e.1, !e.2.1))]
    rfl
  generalize lot.map (fun e : En => (e.1, e.2.1)) = b0 at hb0 hl0
  generalize lot.map (fun e : En => (e.1, !e.2.1)) = b1 at hb1 hl1
  generalize lot.map (fun e : En => e.2.2) = ws at hw0 hlw
  have F : AdsF ev := ⟨hev.ln⟩
  have pick : ∀ {k : Nat}, k < 3 → k = 0 ∨ k = 1 ∨ k = 2 := fun h => by omega
  have G0 : ∀ k, k < 3 → GoodS ev ([b0, b1, b0.drop 1].getD k []) := fun k hk => by
    have mk : ∀ bs : List Bd, (∀ b ∈ bs, SuG ev 500 250 b.1) → bs.length ≤ 16 → GoodS ev bs := fun bs h1 h2 => ⟨hev.ne, hev.ok, hev.nd, by omega, h1, h2⟩
    rcases pick hk with h | h | h <;> subst h
    · exact mk b0 hb0 (by omega)
    · exact mk b1 hb1 (by omega)
    · exact mk (b0.drop 1) (fun b hb => hb0 b (List.mem_of_mem_drop hb)) (by rw [List.length_drop]; omega)
  have W0 : ∀ k, k < 3 → ([ws, ws, ws.drop 1].getD k []).length = ([b0, b1, b0.drop 1].getD k []).length ∧ ∀ a ∈ [ws, ws, ws.drop 1].getD k [], Pz 10 10 a := fun k hk => by
    rcases pick hk with h | h | h <;> subst h
    · exact ⟨by show ws.length = b0.length; omega, hw0⟩
    · exact ⟨by show ws.length = b1.length; omega, hw0⟩
    · exact ⟨by show (ws.drop 1).length = (b0.drop 1).length; rw [List.length_drop, List.length_drop]; omega, fun a ha => hw0 a (List.mem_of_mem_drop ha)⟩
  obtain ⟨N, hE⟩ : ∃ N : Nat → Nat, ∀ k, k < 3 → EndS ev ([b0, b1, b0.drop 1].getD k []) (N k) := by
    have : ∀ k, ∃ n, k < 3 → EndS ev ([b0, b1, b0.drop 1].getD k []) n := fun k => by
      by_cases c : k < 3
      · obtain ⟨n, hn⟩ := (G0 k c).end
        exact ⟨n, fun _ => hn⟩
      · exact ⟨0, fun z => absurd z c⟩
    exact ⟨fun k => Classical.choose (this k), fun k => Classical.choose_spec (this k)⟩
  -- which tuples become lists
  refine q_asgP (ev_cellrow (k := 20) (n := 60) rfl evp_int evp_int (by decide) (by decide)) fun d hd => ?_
  obtain ⟨lr0, rfl, _, hlr0⟩ := hd
  let st2 : Dat → De := fun x => [some (.imm (.scr ns)), some (.imm (roI p)), some (.imm (.int (z : Int))), some (.imm (.int (few : Int))), some (.imm (adsD ev)), some (.imm (roI r)), some (.imm (ptD q)), x7, some (.imm (.lst (lot.map enD))), some (.imm (bsD b0)), some (.imm (wsD ws)), some (.imm (.lst ([b0, b1, b0.drop 1].map bsD))), some (.imm x), none, none]
  refine q_ifI (fun δ' => ∃ lr : List Int, lr.length = 60 ∧ δ' = st2 (.lst (lr.map .int))) (evb_test (ev_gt (ev_mod (by decide) (ev_rowC 6 hp (by decide) (evp_var rfl)) evp_int) evp_int)) (fun _ => ?_) (fun _ => ⟨lr0, hlr0, rfl⟩) ?_
  · refine t_asg (A := Eq (.lst ((List.replicate 60 (rget p 6 % 3)).map .int))) (EvP.to (evp_op (evp_lst (eva_cons (ev_mod (by decide) (ev_rowC 6 hp (by decide) (evp_var rfl)) evp_int) eva_nil) (by show 1 ≤ 100000; decide)) evp_int (rv_rep (by decide) (by decide) (by show 1 * 60 ≤ 100000; decide))) (by rfl)) fun d e => ?_
    subst e
    exact ⟨_, List.length_replicate, rfl⟩
  rintro _ ⟨lr, hlr, rfl⟩
  refine q_asgOL eo_nil ?_
  let td : Nat → Dat := fun k => toldD (toldR (endX ([b0, b1, b0.drop 1].getD k []) (N k)))
  let st3 : List Dat → Option Sl → De := fun t x => [some (.imm (.scr ns)), some (.imm (roI p)), some (.imm (.int (z : Int))), some (.imm (.int (few : Int))), some (.imm (adsD ev)), some (.imm (roI r)), some (.imm (ptD q)), x, some (.imm (.lst (lot.map enD))), some (.imm (bsD b0)), some (.imm (wsD ws)), some (.imm (.lst ([b0, b1, b0.drop 1].map bsD))), some (.imm (.lst (lr.map .int))), some (.ol t), none]
  have sysk : ∀ {δ : De} {k : Nat}, k < 3 → δ[11]? = some (some (.imm (.lst ([b0, b1, b0.drop 1].map bsD)))) → δ[7]? = some (some (.imm (.int ((k : Nat) : Int)))) → EvP K none (tOp (rIx K) (tVar 11) (tVar 7)) δ (Eq (bsD ([b0, b1, b0.drop 1].getD k []))) := fun h e1 e2 => ev_ix (f := bsD) (pick3 h) (evp_var e1) (evp_var e2)
  have tk : ∀ {δ : De} {k n : Nat}, k < n → δ[13]? = some (some (.ol ((List.range n).map td))) → δ[7]? = some (some (.imm (.int ((k : Nat) : Int)))) → EvP K none (tOp (rIx K) (tVar 13) (tVar 7)) δ (Eq (td k)) := fun h e1 e2 => evp_ixO (.inl e1) (evp_var e2) (len_ix (f := td) (List.getElem?_range h))
  refine q_forM (l := List.range 3) (enc := fun k : Nat => .int (k : Int)) (fun pre δ' => ∃ (x : Option Sl), δ' = st3 ((List.range pre.length).map td) x)
    (evi_rangeN (eva_cons evp_int eva_nil) (by decide)) ⟨_, rfl⟩ ?_ ?_
  · rintro pre j _ hpre ⟨x, rfl⟩
    obtain ⟨rfl, hk⟩ := range_at hpre
    generalize hkk : pre.length = k at hk
    have hnx : (pre ++ [k]).length = k + 1 := by rw [List.length_append, List.length_singleton, hkk]
    rw [hnx]
    have Ek := hE k hk
    obtain ⟨wl, wz⟩ := W0 k hk
    have Gk := G0 k hk
    refine ⟨_, _, evg_name, ?_⟩
    refine t_seq (t_app (i := 13) (ds := (List.range k).map td) rfl (A := Eq (td k)) (evp_callE ([b0, b1, b0.drop 1].getD k [], lr, N k) (eva_cons (sysk hk rfl rfl) (eva_cons (evp_var rfl) eva_nil)) (pre_so Gk F Ek hlr) fun d q => q) (by rw [List.length_map, List.length_range]; omega) fun d e => ?_)
    subst e
    have eL : (List.range k).map td ++ [td k] = (List.range (k + 1)).map td := by rw [List.range_succ, List.map_append]; rfl
    rw [eL]
    have etd : td k = toldD (toldR (endX ([b0, b1, b0.drop 1].getD k []) (N k))) := rfl
    refine q_skip (EvB.to (evb_test (evp_op (tk (k := k) (Nat.lt_succ_self k) rfl rfl) evp_non rv_isN)) (isNon_told _)) ?_
    have l16 := Gk.len
    have fin : ∀ {Pq : Pt} {δ : De}, δ[11]? = some (some (.imm (.lst ([b0, b1, b0.drop 1].map bsD)))) → δ[7]? = some (some (.imm (.int ((k : Nat) : Int)))) → δ[13]? = some (some (.ol ((List.range (k + 1)).map td))) → Pq.nx δ → Tf.T K none (tIfS (tNot (tB (tCall (SpCon K) [] E0 (tCons (tOp (rIx K) (tVar 11) (tVar 7)) (tCons (tOp (rIx K) (tVar 13) (tVar 7)) tNil))))) (tRet (tC (.bl false))) tNext) δ Pq := fun {Pq δ} e11 e7 e13 hq =>
      t_when (b := false) (EvB.to (evb_not (evb_B (evp_callE ([b0, b1, b0.drop 1].getD k [], toldR (endX ([b0, b1, b0.drop 1].getD k []) (N k))) (eva_cons (sysk hk e11 e7) (eva_cons (tk (Nat.lt_succ_self k) e13 e7) eva_nil)) Ek.conf fun d q => q))) (by show (!confS _ _) = false; rw [Ek.cyes]; rfl)) (fun c => nomatch c) fun _ => hq
    cases e : endX ([b0, b1, b0.drop 1].getD k []) (N k) with
    | inl wl2 =>
      have et : td k = .tup [.non, .tup (wl2.map am)] := by rw [etd, e]; rfl
      have t0 : ∀ {δ : De} (c : Nat) {y : Dat}, δ[13]? = some (some (.ol ((List.range (k + 1)).map td))) → δ[7]? = some (some (.imm (.int ((k : Nat) : Int)))) → atI [.non, .tup (wl2.map am)] (c : Int) = some y → EvP K none (tOp (rIx K) (tOp (rIx K) (tVar 13) (tVar 7)) (tC (.int (c : Int)))) δ (Eq y) := by
        intro δ c y e1 e2 h
        exact evp_op ((tk (Nat.lt_succ_self k) e1 e2).to et) evp_int (rv_ix (.tup _) h)
      refine q_skip (EvB.to (evb_and (evb_test (evp_op (t0 0 rfl rfl rfl) evp_non rv_isN)) fun _ => evb_B (evp_callE ([b0, b1, b0.drop 1].getD k [], q) (eva_cons (sysk hk rfl rfl) (eva_cons (evp_var rfl) eva_nil)) (fun b hb => pre_vaL (N := 600) (Gk.sg b hb) hpt Gk.e4 (by decide) (by decide) (by decide)) fun d q => q)) ?_) ?_
      · show (true && kepS ([b0, b1, b0.drop 1].getD k []) q) = false
        rw [Ek.nokeep _ e _ _ _ hpt]
        rfl
      refine q_skip (EvB.to (evb_and (b := true) (evb_test (evp_op (t0 1 rfl rfl rfl) evp_non rv_isN)) fun c => nomatch c) rfl) ?_
      exact fin rfl rfl rfl ⟨_, rfl⟩
    | inr pl =>
      have et : td k = .tup [.tup (((sortA (pl.map (·.1))).map fun k => (k, (aget pl k).getD (0, 1))).map tmD), .non] := by rw [etd, e]; rfl
      have t0 : ∀ {δ : De} (c : Nat) {y : Dat}, δ[13]? = some (some (.ol ((List.range (k + 1)).map td))) → δ[7]? = some (some (.imm (.int ((k : Nat) : Int)))) → atI [.tup (((sortA (pl.map (·.1))).map fun k => (k, (aget pl k).getD (0, 1))).map tmD), .non] (c : Int) = some y → EvP K none (tOp (rIx K) (tOp (rIx K) (tVar 13) (tVar 7)) (tC (.int (c : Int)))) δ (Eq y) := by
        intro δ c y e1 e2 h
        exact evp_op ((tk (Nat.lt_succ_self k) e1 e2).to et) evp_int (rv_ix (.tup _) h)
      refine q_skip (EvB.to (evb_and (b := true) (evb_test (evp_op (t0 0 rfl rfl rfl) evp_non rv_isN)) fun c => nomatch c) rfl) ?_
      have zl : (([b0, b1, b0.drop 1].getD k []).zip ([ws, ws, ws.drop 1].getD k [])).map (·.1) = [b0, b1, b0.drop 1].getD k [] := by
        rw [List.map_fst_zip]
        omega
      have zr : (([b0, b1, b0.drop 1].getD k []).zip ([ws, ws, ws.drop 1].getD k [])).map (·.2) = [ws, ws, ws.drop 1].getD k [] := by
        rw [List.map_snd_zip]
        omega
      have zlen : (([b0, b1, b0.drop 1].getD k []).zip ([ws, ws, ws.drop 1].getD k [])).length ≤ 16 := by
        rw [List.length_zip]
        omega
      have zz : ∀ p ∈ ([b0, b1, b0.drop 1].getD k []).zip ([ws, ws, ws.drop 1].getD k []), SuG ev 500 250 p.1.1 ∧ Pz 10 10 p.2 := fun p hp => ⟨Gk.sg _ (zip_fst hp).1, wz _ (zip_fst hp).2⟩
      generalize ([b0, b1, b0.drop 1].getD k []).zip ([ws, ws, ws.drop 1].getD k []) = zw at zl zr zlen zz
      have m1 := Nat.mul_le_mul_right (250 + 10 + 1) zlen
      have m2 := Nat.mul_le_mul_right (250 + 10) zlen
      refine q_skip (EvB.to (evb_and (evb_test (evp_op (t0 1 rfl rfl rfl) evp_non rv_isN)) fun _ => evb_B (evp_callE (zw, wsD ([ws, ws, ws.drop 1].getD k []), []) (eva_cons ((sysk hk rfl rfl).to ?_) (eva_cons (ev_ix (f := wsD) (pick3 hk) (EvP.to (evp_lst (eva_cons (evp_var rfl) (eva_cons (evp_var rfl) (eva_cons (ev_from (l := ws) (f := am) (n := 1) (evp_var rfl) evp_int) eva_nil))) (by show 3 ≤ 100000; decide)) (by rfl)) (evp_var rfl)) eva_nil)) ⟨?_, ?_, ?_⟩ fun d q => q)) ?_) ?_
      · show Dat.lst _ = Dat.lst _
        rw [← zl, List.map_map]
        rfl
      · show Sq (wsD _) _
        rw [List.append_nil, zr]
        exact .lst _
      · show zw.length ≤ 1000
        omega
      · show LrfOk zw _
        exact lrf_ok (n := 500) (k := 250) (nw := 10) (kw := 10) Gk.e0 Gk.e4 zw _ 600 0 ((sug_nil ev).mono (by decide) (by decide)) (by decide) (by decide) zz (by omega)
      · show (true && lrfG zw ([], (0, 1)) false) = false
        rw [Ek.noref _ e zw zl fun y hy => (zz y hy).2.pos]
        rfl
      exact fin rfl rfl rfl ⟨_, rfl⟩
  rintro _ ⟨x, rfl⟩
  rw [List.length_range]
  refine q_forM (l := List.range 3) (enc := fun k : Nat => .int (k : Int)) (fun pre δ' => ∃ (x : Option Sl), δ' = st3 ((List.range 3).map td) x)
    (evi_rangeN (eva_cons evp_int eva_nil) (by decide)) ⟨_, rfl⟩ ?_ ?_
  · rintro pre j _ hpre ⟨x, rfl⟩
    obtain ⟨hk0, hk⟩ := range_at hpre
    clear hk0
    have Ek := hE j hk
    have Gk := G0 j hk
    obtain ⟨n1, n2⟩ := told_ok Gk F Ek
    refine ⟨_, _, evg_name, ?_⟩
    refine t_when (b := false) (EvB.to (evb_test (evp_op (x := td j) (y := td j) (evp_callE ([b0, b1, b0.drop 1].getD j [], List.replicate 60 1, N j) (eva_cons (sysk hk rfl rfl) (eva_cons (EvP.to (evp_op (evp_lst (eva_cons evp_int eva_nil) (by show 1 ≤ 100000; decide)) evp_int (rv_rep (by decide) (by decide) (by show 1 * 60 ≤ 100000; decide))) (by rfl)) eva_nil)) (pre_so Gk F Ek List.length_replicate) fun d q => q) (tk hk rfl rfl) (rv_neSelf n1 n2))) rfl) (fun c => nomatch c) fun _ => ⟨_, rfl⟩
  · rintro _ ⟨x, rfl⟩
    exact t_retE evp_bl rfl
end
end Tf
/-! text TfAQ -/
/-! the join -/
namespace Tf
open PySem PySem.Spec PyProof.Rows L2
section
variable {P : Program} {w : World} {K : PySem.W.Frag} {mg : Str → Option Value} {base : Heap}
theorem all_ok (T : Tx P K mg base) {fl : Addr} {fdl : FuncData} (FL : FunD K "law" "law" (defArgs sLaw) (defBody sLaw) (defScope sLaw) [] [] fl fdl) : FnOk P w K mg base CX0 46 fl fdl ["_law_script"] (SpLaw K) := by
  have C_law_cell := ok_law_cell (w := w) T
  have C_law_row := ok_law_row (w := w) T
  have C_law_word := ok_law_word (w := w) T
  have C_law_addresses := ok_law_addresses (w := w) T C_law_word
  have C_law_amount := ok_law_amount (w := w) T
  have C_law_many := ok_law_many (w := w) T
  have C_law_number := ok_law_number (w := w) T
  have C_law_share := ok_law_share (w := w) T C_law_amount C_law_number
  have C_law_drawn := ok_law_drawn (w := w) T C_law_cell C_law_row C_law_share
  have C_law_plus := ok_law_plus (w := w) T C_law_amount
  have C_law_times := ok_law_times (w := w) T C_law_amount
  have C_law_value := ok_law_value (w := w) T C_law_plus C_law_times
  have C_law_fitted := ok_law_fitted (w := w) T C_law_plus C_law_value
  have C_law_gap := ok_law_gap (w := w) T
  have C_law_around := ok_law_around (w := w) T C_law_fitted C_law_gap
  have C_law_add := ok_law_add (w := w) T C_law_plus C_law_times
  have C_law_shift := ok_law_shift (w := w) T
  have C_law_hidden := ok_law_hidden (w := w) T C_law_add C_law_amount C_law_shift
  have C_law_thin := ok_law_thin (w := w) T C_law_add C_law_fitted C_law_shift
  have C_law_box := ok_law_box (w := w) T C_law_fitted C_law_gap
  have C_law_cycle := ok_law_cycle (w := w) T C_law_add C_law_plus C_law_shift
  have C_law_multiples := ok_law_multiples (w := w) T C_law_add C_law_shift
  have C_law_free := ok_law_free (w := w) T
  have C_law_turned := ok_law_turned (w := w) T C_law_add C_law_times
  have C_law_entries := ok_law_entries (w := w) T C_law_cell C_law_row C_law_many C_law_drawn C_law_around C_law_hidden C_law_thin C_law_box C_law_cycle C_law_multiples C_law_free C_law_turned
  have C_law_listed := ok_law_listed (w := w) T 7
  have C_law_ruined := ok_law_ruined (w := w) T 7
  have C_whole_scale := ok_whole_scale (w := w) T
  have C_slack_row := ok_slack_row (w := w) T C_whole_scale
  have C_slack_to_mend := ok_slack_to_mend (w := w) T
  have C_quantity_to_change := ok_quantity_to_change (w := w) T
  have C_without := ok_without (w := w) T
  have C_exchanged := ok_exchanged (w := w) T C_without
  have C_amount1 := ok_amount1 (w := w) T
  have C_weights_of := ok_weights_of (w := w) T C_whole_scale C_amount1
  have C_amount := ok_amount (w := w) T
  have C_compare := ok_compare (w := w) T
  have C_tiny_amount := ok_tiny_amount (w := w) T C_amount C_compare
  have C_plus := ok_plus (w := w) T C_amount
  have C_times := ok_times (w := w) T C_amount
  have C_over := ok_over (w := w) T C_amount
  have C_point_of := ok_point_of (w := w) T C_tiny_amount C_amount1 C_plus C_times C_over
  have C_solve := ok_solve (w := w) T C_slack_row C_slack_to_mend C_quantity_to_change C_exchanged C_weights_of C_point_of
  have C_law_whole := ok_law_whole (w := w) T
  have C_law_is_amount := ok_law_is_amount (w := w) T C_law_whole C_law_amount
  have C_law_refutes := ok_law_refutes (w := w) T C_law_add
  have C_law_occurring := ok_law_occurring (w := w) T
  have C_law_keeps := ok_law_keeps (w := w) T C_law_value
  have C_law_right := ok_law_right (w := w) T C_law_is_amount C_law_refutes C_law_occurring C_law_keeps
  have C_law_solved := ok_law_solved (w := w) T C_law_listed C_law_ruined C_solve C_law_right
  have C_sum_value := ok_sum_value (w := w) T C_plus C_times
  have C_holds := ok_holds (w := w) T C_sum_value
  have C_constant_sum := ok_constant_sum (w := w) T
  have C_add_sums := ok_add_sums (w := w) T C_plus
  have C_times_sum := ok_times_sum (w := w) T C_constant_sum C_times
  have C_refutes := ok_refutes (w := w) T C_constant_sum C_add_sums C_times_sum
  have C_law_confirmed := ok_law_confirmed (w := w) T C_holds C_refutes
  exact ok_law T FL C_law_cell C_law_row C_law_addresses C_law_amount C_law_entries C_law_solved C_law_keeps C_law_refutes C_law_confirmed
end
section
variable {K : PySem.W.Frag} {h base : Heap} {mg : Str → Option Value}
theorem tx_of (X : K.In h) (G : h.Ns mainGlobals mg) (c : He.SaysD faL fnL K) (e : extraK K = true) (S : base.NoSeer) : Tx lawR.prog K mg base where
  seer := S
  tree := rfl
  d_amount := at_of X G c 0 rfl rfl
  d_plus := at_of X G c 1 rfl rfl
  d_times := at_of X G c 2 rfl rfl
  d_over := at_of X G c 3 rfl rfl
  d_compare := at_of X G c 4 rfl rfl
  d_constant_sum := at_of X G c 5 rfl rfl
  d_add_sums := at_of X G c 6 rfl rfl
  d_times_sum := at_of X G c 7 rfl rfl
  d_sum_value := at_of X G c 8 rfl rfl
  d_holds := at_of X G c 9 rfl rfl
  d_refutes := at_of X G c 10 rfl rfl
  d_whole_scale := at_of X G c 11 rfl rfl
  d_slack_row := at_of X G c 12 rfl rfl
  d_slack_to_mend := at_of X G c 13 rfl rfl
  d_quantity_to_change := at_of X G c 14 rfl rfl
  d_without := at_of X G c 15 rfl rfl
  d_exchanged := at_of X G c 16 rfl rfl
  d_tiny_amount := at_of X G c 17 rfl rfl
  d_point_of := at_of X G c 18 rfl rfl
  d_weights_of := at_of X G c 19 rfl rfl
  d_solve := at_of X G c 20 rfl rfl
  d_law_whole := at_of X G c 21 rfl rfl
  d_law_cell := at_of X G c 22 rfl rfl
  d_law_row := at_of X G c 23 rfl rfl
  d_law_amount := at_of X G c 24 rfl rfl
  d_law_plus := at_of X G c 25 rfl rfl
  d_law_times := at_of X G c 26 rfl rfl
  d_law_add := at_of X G c 27 rfl rfl
  d_law_word := at_of X G c 28 rfl rfl
  d_law_addresses := at_of X G c 29 rfl rfl
  d_law_number := at_of X G c 30 rfl rfl
  d_law_share := at_of X G c 31 rfl rfl
  d_law_drawn := at_of X G c 32 rfl rfl
  d_law_value := at_of X G c 33 rfl rfl
  d_law_fitted := at_of X G c 34 rfl rfl
  d_law_gap := at_of X G c 35 rfl rfl
  d_law_shift := at_of X G c 36 rfl rfl
  d_law_around := at_of X G c 37 rfl rfl
  d_law_hidden := at_of X G c 38 rfl rfl
  d_law_thin := at_of X G c 39 rfl rfl
  d_law_box := at_of X G c 40 rfl rfl
  d_law_cycle := at_of X G c 41 rfl rfl
  d_law_multiples := at_of X G c 42 rfl rfl
  d_law_free := at_of X G c 43 rfl rfl
  d_law_turned := at_of X G c 44 rfl rfl
  d_law_many := at_of X G c 45 rfl rfl
  d_law_entries := at_of X G c 46 rfl rfl
  d_law_is_amount := at_of X G c 47 rfl rfl
  d_law_keeps := at_of X G c 48 rfl rfl
  d_law_refutes := at_of X G c 49 rfl rfl
  d_law_occurring := at_of X G c 50 rfl rfl
  d_law_right := at_of X G c 51 rfl rfl
  d_law_listed := at_of X G c 52 rfl rfl
  d_law_ruined := at_of X G c 53 rfl rfl
  d_law_solved := at_of X G c 54 rfl rfl
  d_law_confirmed := at_of X G c 55 rfl rfl
  d_law := at_of X G c 56 rfl rfl
  n_list := He.free_ok X G (c.fact 57 (f := .free "list") rfl)
  n_tuple := He.free_ok X G (c.fact 58 (f := .free "tuple") rfl)
  n_sorted := He.free_ok X G (c.fact 59 (f := .free "sorted") rfl)
  n_len := He.free_ok X G (c.fact 60 (f := .free "len") rfl)
  n_zip := He.free_ok X G (c.fact 61 (f := .free "zip") rfl)
  n_enumerate := He.free_ok X G (c.fact 62 (f := .free "enumerate") rfl)
  n_range := He.free_ok X G (c.fact 63 (f := .free "range") rfl)
  n_int := He.free_ok X G (c.fact 64 (f := .free "int") rfl)
  n_abs := He.free_ok X G (c.fact 65 (f := .free "abs") rfl)
  n_isinstance := He.free_ok X G (c.fact 66 (f := .free "isinstance") rfl)
  n_min := He.free_ok X G (c.fact 67 (f := .free "min") rfl)
  n_max := He.free_ok X G (c.fact 68 (f := .free "max") rfl)
  n_bool := He.free_ok X G (c.fact 69 (f := .free "bool") rfl)
  n_dict := He.free_ok X G (c.fact 70 (f := .free "dict") rfl)
  mgcd := PySem.W.mg_of X G (He.eqO_ok (extra_gl e).1)
  mlcm := PySem.W.mg_of X G (He.eqO_ok (extra_gl e).2)
  mUNIT := He.int_ok X G (c.fact 71 (f := .int "UNIT" 0) rfl)
  mTINY := He.int_ok X G (c.fact 72 (f := .int "TINY" 1) rfl)
  mZERO := ⟨_, He.glo_ok X G (c.fact 73 (f := .glo "ZERO") rfl), fun H => He.tupB_ok (vs := [.int 0, .int 1]) (extra_tu e).1 H⟩
  mONE := ⟨_, He.glo_ok X G (c.fact 74 (f := .glo "ONE") rfl), fun H => He.tupB_ok (vs := [.int 1, .int 1]) (extra_tu e).2 H⟩
end
/-! ### the law's call -/
theorem law_true {K : PySem.W.Frag} {H : Hp} {a : Addr} {ns : List Int} (hS : SqL K H a (ns.map V.int)) : SpLaw K [.ref a] H (fun v _ => v = .bl true) fun _ _ _ => False :=
  ⟨ns, H, Same.refl H, .cons (.scr hS) .nil, trivial, fun v H' Hs' d _ t e => by
    subst e
    exact t.bl_inv⟩
theorem walkA : PySem.W.WalkO (PySem.W.view lawR.prog [0, 68]) looseA (PySem.W.XL (PySem.W.view lawR.prog [0, 68]) []) hkA.says lawR.toRowW (HandSHeadRun.topDef lawR.prog 68) [] (fun f vs => PySem.call f vs) := by
  refine Att.attach_call (l := PySem.Challenge.rw_takenforms_k03_solve_whole) (n := 63) rfl (by kernel_rfl) ?_
  intro w s₀ s₁ mg mb fa o pm cd doc a vs ns G Y ho hd hcd hmg hobj hints hlen hg
  obtain ⟨K, X, c, e⟩ := Y
  have hm : mg ("law" : Str) = some (.ref fa) := by
    have q : (HandSHeadRun.topDef lawR.prog 68).name = ("law" : Str) := by kernel_rfl
    rw [← q]
    exact hmg
  have S : s₁.heap.NoSeer := G.T.seer (by kernel_rfl)
  obtain ⟨fd, FL⟩ := c.def_ 56 (d := ⟨("law", none), "law", "law", defArgs sLaw, defBody sLaw, defScope sLaw, [], []⟩) rfl
  have hga := He.glo_ok X G.T.g (c.fact 56 (f := .glo "law") rfl)
  have hfa : fa = He.ga K "law" := by
    rw [hm] at hga
    cases hga
    rfl
  subst hfa
  have hb := FunD.bindsA (ps := ["_law_script"]) FL fun _ _ _ _ _ _ us hl => match us, hl with | [_], _ => rfl
  refine law_call (sp := SpLaw K) (CX := CX0) (k := 46) (x := "_law_script") (fd := fd) X G.T.g G.T.b G.T.builtins G.T.nolimit hg hobj hints (Nat.le_trans hlen (by decide)) ⟨rfl, by decide, by decide⟩ ?_ (fun s v => hb s [v] rfl) (fun H _ hS => law_true hS) fun _ _ _ z => z
  intro base Y2 G2
  exact all_ok (tx_of X G.T.g c e (seer_move X Y2 (extra_cov e) S)) FL
end Tf
open PySem PySem.W PyProof.Rows
theorem PySem.Challenge.cw_takenforms_k03_solve_whole_holds : PySem.Challenge.rw_takenforms_k03_solve_whole.Holds := by
  w_on; o_law
  refine HandSHeadRun.head_imp (r := Tf.lawR) (q := view Tf.lawR.prog [0, 68]) (H := Tf.hkA) (ob := Tf.seeT) (M := 6000) (loose := Tf.looseA) (d := HandSHeadRun.topDef Tf.lawR.prog 68) (kwd := []) Tf.seeT_eq Tf.runA (by kernel_rfl) (by kernel_rfl) (by kernel_rfl) (by rfl)
    (by first | assumption | decide +kernel) (by decide +kernel) ⟨rfl, rfl, rfl, rfl, rfl, by decide +kernel⟩ ?hw ?hc
  case hw => w_witness2
  case hc => exact Tf.walkA
