import PyProof.Rows.All
import Wide.All
import OpenK.AllK
import Wide.FinOn
import HandS.ForMost
import HandS.ForExc
import HandS.More
import HandS.Defaults
import HandS.Lambda
import HandS.Star
import HandS.IsInst
import HandS.Gcd
import HandS.Conv
import HandS.NoneIn
import HandS.Zip
import HandS.DictComp
import PyProof.IsiBase
import PyProof.IsiH_set
import PyProof.AttrMiss
import KE.KIsAll
import KE.KSuperObj
import HandS.Style
import KE.KStateDown
import Lean
import HandS.EndTab
import HandS.Head0
import HandS.Head1
import HandS.Head2
import HandS.Head3
import HandS.HeadEnd
import HandS.HeadHook1
import HandS.HeadHook2
import HandS.HeadHook3
import HandS.HeadHook4
import HandS.HeadWalk
import PySem.Challenge.RW_anyload_k85_whole_plans_at_their_own
import HandS.TupSets
import HandS.SetBool
import HandS.Strs
import KE.GoesMore
import KE.GoesEnum
import PyProof.Draws
import PyProof.EnumMake
import PyProof.ReprRoads
import HandS.TupLe
import HandS.SortKw
import KE.DataMinKey
set_option Elab.async false
set_option linter.all false
set_option maxRecDepth 100000
set_option maxHeartbeats 4000000
set_option autoImplicit false
/-! Data without addresses (D), how it lies in the abstract heap (Rp), names that hold data or own an object (SV), the state's relation (Rel). -/
namespace Kz
open PySem PySem.Spec PyProof.Rows L2

inductive D where
  | non | bl (b : Bool) | int (i : Int) | str (x : Str)
  | lst (ds : List D) | tup (ds : List D)
  | dct (ks : List Int) (ds : List D)
  | net (many : Int) (links : D)
  | adr (a : Addr)
  | fn (a : Addr)
  | any
  | scr (ns : List Int)
/-- the written part, and where the class Net stands -/
structure RB where
  K : PySem.W.Frag
  C : Addr
  ta : Addr
  tq : Str
mutual
def Rp (Y : RB) (H : Hp) : D → V → Prop
  | .non, v => v = .non
  | .bl b, v => v = .bl b
  | .int i, v => v = .int i
  | .str x, v => v = .str x
  | .lst ds, v => ∃ a xs, v = .ref a ∧ H a = some (.lst xs) ∧ RpA Y H ds xs
  | .tup ds, v => ∃ a xs, v = .ref a ∧ H a = some (.tup xs) ∧ RpA Y H ds xs
  | .dct ks ds, v => ∃ a xs, v = .ref a ∧ H a = some (.dK ((ks.map Sum.inl).zip xs)) ∧ ks.length = xs.length ∧ RpA Y H ds xs
  | .net m l, v => ∃ a dx fs u, v = .ref a ∧ H a = some (.ins Y.C dx fs) ∧ fs.lookup ("many" : Str) = some (.int m) ∧ fs.lookup ("links" : Str) = some u ∧ Rp Y H l u
  | .adr a, v => v = .ref a
  | .fn a, v => v = .ref a ∧ PySem.W.typeIn Y.K (.ref a) = some (.type "function")
  | .any, v => ∃ a, v = .ref a
  | .scr ns, v => ∃ a, v = .ref a ∧ SqL Y.K H a (ns.map V.int)
def RpA (Y : RB) (H : Hp) : List D → List V → Prop
  | [], xs => xs = []
  | d :: ds, xs => ∃ x r, xs = x :: r ∧ Rp Y H d x ∧ RpA Y H ds r
end
theorem sqL_mono {K : PySem.W.Frag} {H H' : Hp} {a : Addr} {xs : List V} (e : Same H H') (h : SqL K H a xs) : SqL K H' a xs := by
  rcases h with (h | ⟨o, h⟩) | h
  · exact .inl (.inl (e _ _ h))
  · exact .inl (.inr ⟨o, e _ _ h⟩)
  · exact .inr h
theorem sqT_mono {K : PySem.W.Frag} {H H' : Hp} {a : Addr} {xs : List V} (e : Same H H') (h : SqT K H a xs) : SqT K H' a xs := by
  rcases h with (h | ⟨o, h⟩) | h
  · exact .inl (.inl (e _ _ h))
  · exact .inl (.inr ⟨o, e _ _ h⟩)
  · exact .inr h
mutual
theorem Rp.mono {Y : RB} {H H' : Hp} (e : Same H H') : ∀ (d : D) (v : V), Rp Y H d v → Rp Y H' d v
  | .non, _, h => h
  | .bl _, _, h => h
  | .int _, _, h => h
  | .str _, _, h => h
  | .lst ds, v, h => by
    unfold Rp at h ⊢
    obtain ⟨a, xs, e1, h1, h2⟩ := h
    exact ⟨a, xs, e1, e _ _ h1, RpA.mono e ds xs h2⟩
  | .tup ds, v, h => by
    unfold Rp at h ⊢
    obtain ⟨a, xs, e1, h1, h2⟩ := h
    exact ⟨a, xs, e1, e _ _ h1, RpA.mono e ds xs h2⟩
  | .dct ks ds, v, h => by
    unfold Rp at h ⊢
    obtain ⟨a, xs, e1, h1, h2, h3⟩ := h
    exact ⟨a, xs, e1, e _ _ h1, h2, RpA.mono e ds xs h3⟩
  | .net m l, v, h => by
    unfold Rp at h ⊢
    obtain ⟨a, dx, fs, u, e1, h1, h2, h3, h4⟩ := h
    exact ⟨a, dx, fs, u, e1, e _ _ h1, h2, h3, Rp.mono e l u h4⟩
  | .adr _, _, h => h
  | .fn _, _, h => h
  | .any, _, h => h
  | .scr ns, v, h => by
    unfold Rp at h ⊢
    obtain ⟨a, e1, h1⟩ := h
    exact ⟨a, e1, sqL_mono e h1⟩
theorem RpA.mono {Y : RB} {H H' : Hp} (e : Same H H') : ∀ (ds : List D) (xs : List V), RpA Y H ds xs → RpA Y H' ds xs
  | [], _, h => h
  | d :: ds, xs, h => by
    unfold RpA at h ⊢
    obtain ⟨x, r, e1, h1, h2⟩ := h
    exact ⟨x, r, e1, Rp.mono e d x h1, RpA.mono e ds r h2⟩
end
section
variable {Y : RB} {H H' : Hp}
theorem Rp.int_ {i : Int} {v : V} (h : Rp Y H (.int i) v) : v = .int i := by unfold Rp at h; exact h
theorem Rp.bl_ {b : Bool} {v : V} (h : Rp Y H (.bl b) v) : v = .bl b := by unfold Rp at h; exact h
theorem Rp.non_ {v : V} (h : Rp Y H .non v) : v = .non := by unfold Rp at h; exact h
theorem Rp.str_ {x : Str} {v : V} (h : Rp Y H (.str x) v) : v = .str x := by unfold Rp at h; exact h
theorem Rp.mk_int (i : Int) : Rp Y H (.int i) (.int i) := by unfold Rp; rfl
theorem Rp.mk_bl (b : Bool) : Rp Y H (.bl b) (.bl b) := by unfold Rp; rfl
theorem Rp.mk_non : Rp Y H .non .non := by unfold Rp; rfl
theorem Rp.mk_str (x : Str) : Rp Y H (.str x) (.str x) := by unfold Rp; rfl
theorem Rp.lst_ {ds : List D} {v : V} (h : Rp Y H (.lst ds) v) : ∃ a xs, v = .ref a ∧ H a = some (.lst xs) ∧ RpA Y H ds xs := by unfold Rp at h; exact h
theorem Rp.tup_ {ds : List D} {v : V} (h : Rp Y H (.tup ds) v) : ∃ a xs, v = .ref a ∧ H a = some (.tup xs) ∧ RpA Y H ds xs := by unfold Rp at h; exact h
theorem Rp.dct_ {ks : List Int} {ds : List D} {v : V} (h : Rp Y H (.dct ks ds) v) : ∃ a xs, v = .ref a ∧ H a = some (.dK ((ks.map Sum.inl).zip xs)) ∧ ks.length = xs.length ∧ RpA Y H ds xs := by unfold Rp at h; exact h
theorem Rp.net_ {m : Int} {l : D} {v : V} (h : Rp Y H (.net m l) v) : ∃ a dx fs u, v = .ref a ∧ H a = some (.ins Y.C dx fs) ∧ fs.lookup ("many" : Str) = some (.int m) ∧ fs.lookup ("links" : Str) = some u ∧ Rp Y H l u := by unfold Rp at h; exact h
theorem Rp.mk_lst {ds : List D} {a : Addr} {xs : List V} (h : H a = some (.lst xs)) (r : RpA Y H ds xs) : Rp Y H (.lst ds) (.ref a) := by unfold Rp; exact ⟨a, xs, rfl, h, r⟩
theorem Rp.mk_tup {ds : List D} {a : Addr} {xs : List V} (h : H a = some (.tup xs)) (r : RpA Y H ds xs) : Rp Y H (.tup ds) (.ref a) := by unfold Rp; exact ⟨a, xs, rfl, h, r⟩
theorem Rp.mk_dct {ks : List Int} {ds : List D} {a : Addr} {xs : List V} (h : H a = some (.dK ((ks.map Sum.inl).zip xs))) (hl : ks.length = xs.length) (r : RpA Y H ds xs) : Rp Y H (.dct ks ds) (.ref a) := by unfold Rp; exact ⟨a, xs, rfl, h, hl, r⟩
theorem RpA.nil_ {xs : List V} (h : RpA Y H [] xs) : xs = [] := by unfold RpA at h; exact h
theorem RpA.cons_ {d : D} {ds : List D} {xs : List V} (h : RpA Y H (d :: ds) xs) : ∃ x r, xs = x :: r ∧ Rp Y H d x ∧ RpA Y H ds r := by unfold RpA at h; exact h
theorem RpA.mk_nil : RpA Y H [] [] := by unfold RpA; rfl
theorem RpA.mk_cons {d : D} {ds : List D} {x : V} {xs : List V} (h : Rp Y H d x) (r : RpA Y H ds xs) : RpA Y H (d :: ds) (x :: xs) := by unfold RpA; exact ⟨x, xs, rfl, h, r⟩
theorem RpA.length : ∀ {ds : List D} {xs : List V}, RpA Y H ds xs → ds.length = xs.length
  | [], xs, h => by rw [h.nil_]; rfl
  | d :: ds, xs, h => by
    obtain ⟨x, r, rfl, _, h2⟩ := h.cons_
    rw [List.length_cons, List.length_cons, RpA.length h2]
theorem RpA.get : ∀ {ds : List D} {xs : List V} {i : Nat} {x : V}, RpA Y H ds xs → xs[i]? = some x → ∃ d, ds[i]? = some d ∧ Rp Y H d x
  | [], xs, i, x, h, e => by rw [h.nil_] at e; simp at e
  | d :: ds, xs, 0, x, h, e => by
    obtain ⟨y, r, rfl, h1, _⟩ := h.cons_
    simp at e; subst e
    exact ⟨d, rfl, h1⟩
  | d :: ds, xs, i + 1, x, h, e => by
    obtain ⟨y, r, rfl, _, h2⟩ := h.cons_
    obtain ⟨d', e1, r1⟩ := RpA.get (i := i) h2 (by simpa using e)
    exact ⟨d', by simpa using e1, r1⟩
theorem RpA.get' : ∀ {ds : List D} {xs : List V} {i : Nat} {d : D}, RpA Y H ds xs → ds[i]? = some d → ∃ x, xs[i]? = some x ∧ Rp Y H d x
  | [], xs, i, x, h, e => by simp at e
  | d :: ds, xs, 0, x, h, e => by
    obtain ⟨y, r, rfl, h1, _⟩ := h.cons_
    simp at e; subst e
    exact ⟨y, rfl, h1⟩
  | d :: ds, xs, i + 1, x, h, e => by
    obtain ⟨y, r, rfl, _, h2⟩ := h.cons_
    obtain ⟨d', e1, r1⟩ := RpA.get' (i := i) h2 (by simpa using e)
    exact ⟨d', by simpa using e1, r1⟩
theorem RpA.append : ∀ {ds es : List D} {xs ys : List V}, RpA Y H ds xs → RpA Y H es ys → RpA Y H (ds ++ es) (xs ++ ys)
  | [], _, xs, _, h, r => by rw [h.nil_]; exact r
  | d :: ds, _, xs, _, h, r => by
    obtain ⟨x, s, rfl, h1, h2⟩ := h.cons_
    exact RpA.mk_cons h1 (RpA.append h2 r)
theorem RpA.one {d : D} {x : V} (h : Rp Y H d x) : RpA Y H [d] [x] := RpA.mk_cons h RpA.mk_nil
theorem RpA.set {d : D} {x : V} (q : Rp Y H d x) : ∀ {ds : List D} {xs : List V} (i : Nat), RpA Y H ds xs → RpA Y H (ds.set i d) (xs.set i x)
  | [], xs, i, h => by rw [h.nil_]; exact RpA.mk_nil
  | e :: ds, xs, 0, h => by
    obtain ⟨y, r, rfl, h1, h2⟩ := h.cons_
    exact RpA.mk_cons q h2
  | e :: ds, xs, i + 1, h => by
    obtain ⟨y, r, rfl, h1, h2⟩ := h.cons_
    exact RpA.mk_cons h1 (RpA.set q i h2)
theorem RpA.take : ∀ {ds : List D} {xs : List V} (n : Nat), RpA Y H ds xs → RpA Y H (ds.take n) (xs.take n)
  | _, _, 0, _ => by rw [List.take_zero, List.take_zero]; exact RpA.mk_nil
  | [], xs, n + 1, h => by rw [h.nil_]; exact RpA.mk_nil
  | d :: ds, xs, n + 1, h => by
    obtain ⟨y, r, rfl, h1, h2⟩ := h.cons_
    exact RpA.mk_cons h1 (RpA.take n h2)
theorem RpA.drop : ∀ {ds : List D} {xs : List V} (n : Nat), RpA Y H ds xs → RpA Y H (ds.drop n) (xs.drop n)
  | _, _, 0, h => h
  | [], xs, n + 1, h => by rw [h.nil_]; exact RpA.mk_nil
  | d :: ds, xs, n + 1, h => by
    obtain ⟨y, r, rfl, h1, h2⟩ := h.cons_
    exact RpA.drop n h2
theorem RpA.eraseIdx : ∀ {ds : List D} {xs : List V} (n : Nat), RpA Y H ds xs → RpA Y H (ds.eraseIdx n) (xs.eraseIdx n)
  | [], xs, n, h => by rw [h.nil_]; exact RpA.mk_nil
  | d :: ds, xs, 0, h => by
    obtain ⟨y, r, rfl, h1, h2⟩ := h.cons_
    exact h2
  | d :: ds, xs, n + 1, h => by
    obtain ⟨y, r, rfl, h1, h2⟩ := h.cons_
    exact RpA.mk_cons h1 (RpA.eraseIdx n h2)
theorem RpA.ints : ∀ {is : List Int} {xs : List V}, RpA Y H (is.map .int) xs → xs = is.map .int
  | [], xs, h => h.nil_
  | i :: is, xs, h => by
    obtain ⟨y, r, rfl, h1, h2⟩ := RpA.cons_ h
    rw [h1.int_, RpA.ints h2]; rfl
theorem RpA.bls : ∀ {is : List Bool} {xs : List V}, RpA Y H (is.map .bl) xs → xs = is.map .bl
  | [], xs, h => h.nil_
  | i :: is, xs, h => by
    obtain ⟨y, r, rfl, h1, h2⟩ := RpA.cons_ h
    rw [h1.bl_, RpA.bls h2]; rfl
theorem RpA.mk_ints : ∀ (is : List Int), RpA Y H (is.map .int) (is.map V.int)
  | [] => RpA.mk_nil
  | i :: is => RpA.mk_cons (Rp.mk_int i) (RpA.mk_ints is)
end

/-! ### the state -/
/-- the stream: its great cells, its mix, its count, the cell that is read -/
structure Wd where
  great : List Int
  mix : Int
  cnt : Int
  cell : Int
  sa : Option Addr
inductive OD where
  | lst (ds : List D)
  | dct (ks : List Int) (ds : List D)
  | ins (dx : Addr) (ns : List Str) (ds : List D)
def netOf : Option D → Option D → D
  | some (.int m), some l => .net m l
  | _, _ => .any
def OD.d : OD → D
  | .lst ds => .lst ds
  | .dct ks ds => .dct ks ds
  | .ins _ ns ds => netOf ((ns.zip ds).lookup ("many" : Str)) ((ns.zip ds).lookup ("links" : Str))
inductive SV where
  | dat (d : D)
  | own (o : OD)
  | bor (d : D) (v : V)
structure Z where
  e : List (Option SV)
  w : Wd
/-- the surroundings of a body: H0 what stays as it is, D0 the data at the entry -/
structure RC where
  sa : Addr
  ga : Addr
  ta : Addr
  tq : Str
  on : Bool
  H0 : Hp
  D0 : Hp
def ObR (Y : RB) (H : Hp) : OD → HO → Prop
  | .lst ds, o => ∃ xs, o = .lst xs ∧ RpA Y H ds xs
  | .dct ks ds, o => ∃ xs, o = .dK ((ks.map Sum.inl).zip xs) ∧ ks.length = xs.length ∧ RpA Y H ds xs
  | .ins dx ns ds, o => ∃ xs, o = .ins Y.C dx (ns.zip xs) ∧ ns.length = xs.length ∧ RpA Y H ds xs
theorem zip_look {Y : RB} {H : Hp} {k : Str} {d : D} : ∀ {ns : List Str} {ds : List D} {xs : List V}, RpA Y H ds xs → (ns.zip ds).lookup k = some d → ∃ x, (ns.zip xs).lookup k = some x ∧ Rp Y H d x
  | [], _, _, _, e => by simp at e
  | n :: ns, [], _, _, e => by simp at e
  | n :: ns, d' :: ds, xs, r, e => by
    obtain ⟨x, r', rfl, h1, h2⟩ := r.cons_
    rw [List.zip_cons_cons, List.lookup_cons] at e ⊢
    cases q : k == n with
    | true => rw [q] at e; cases e; exact ⟨x, rfl, h1⟩
    | false => rw [q] at e; exact zip_look h2 e
theorem ObR.mono {Y : RB} {H H' : Hp} (e : Same H H') : ∀ {o : OD} {u : HO}, ObR Y H o u → ObR Y H' o u
  | .lst ds, u, ⟨xs, h1, h2⟩ => ⟨xs, h1, RpA.mono e _ _ h2⟩
  | .dct ks ds, u, ⟨xs, h1, h2, h3⟩ => ⟨xs, h1, h2, RpA.mono e _ _ h3⟩
  | .ins dx ns ds, u, ⟨xs, h1, h2, h3⟩ => ⟨xs, h1, h2, RpA.mono e _ _ h3⟩
theorem ObR.rp {Y : RB} {H : Hp} {o : OD} {u : HO} {p : Addr} (h : ObR Y H o u) (hp : H p = some u) : Rp Y H o.d (.ref p) := by
  cases o with
  | lst ds =>
    obtain ⟨xs, rfl, r⟩ := h
    exact Rp.mk_lst hp r
  | dct ks ds =>
    obtain ⟨xs, rfl, hl, r⟩ := h
    exact Rp.mk_dct hp hl r
  | ins dx ns ds =>
    obtain ⟨xs, rfl, hl, r⟩ := h
    have dflt : Rp Y H .any (.ref p) := by unfold Rp; exact ⟨p, rfl⟩
    show Rp Y H (netOf ((ns.zip ds).lookup ("many" : Str)) ((ns.zip ds).lookup ("links" : Str))) (.ref p)
    cases e1 : (ns.zip ds).lookup ("many" : Str) with
    | none => exact dflt
    | some m =>
      cases e2 : (ns.zip ds).lookup ("links" : Str) with
      | none => cases m <;> exact dflt
      | some l =>
        cases m with
        | int m =>
          obtain ⟨x, l1, rx⟩ := zip_look r e1
          obtain ⟨y, l2, ry⟩ := zip_look r e2
          show Rp Y H (.net m l) (.ref p)
          unfold Rp
          exact ⟨p, dx, _, y, rfl, hp, by rw [l1, rx.int_], l2, ry⟩
        | _ => exact dflt
theorem ObR.mut {Y : RB} {H : Hp} {o : OD} {u : HO} (h : ObR Y H o u) : Mut (some u) := by
  cases o with
  | lst ds => obtain ⟨xs, rfl, r⟩ := h; exact True.intro
  | dct ks ds => obtain ⟨xs, rfl, hl, r⟩ := h; exact True.intro
  | ins dx ns ds => obtain ⟨xs, rfl, hl, r⟩ := h; exact True.intro
theorem ObR.nx {Y : RB} {D : Hp} {o : OD} {c : Addr} {q : Str} {u : HO} (h : ObR Y D o u) : u ≠ LamX.CodeO c q ∧ ∀ ps, u ≠ .tbl ps := by
  unfold LamX.CodeO
  cases o with
  | lst ds => obtain ⟨xs, rfl, r⟩ := h; exact ⟨fun z => (by cases z), fun ps z => (by cases z)⟩
  | dct ks ds => obtain ⟨xs, rfl, hl, r⟩ := h; exact ⟨fun z => (by cases z), fun ps z => (by cases z)⟩
  | ins dx ns ds => obtain ⟨xs, rfl, hl, r⟩ := h; exact ⟨fun z => (by cases z), fun ps z => (by cases z)⟩
structure Wrel (B : RB) (Y : RC) (D : Hp) (w : Wd) (H : Hp) : Prop where
  s : Y.on = true → H Y.sa = some (.lst [.ref Y.ga, .int w.mix, .int w.cnt, .int w.cell])
  g : Y.on = true → H Y.ga = some (.lst (w.great.map V.int))
  ds : Y.on = true → D Y.sa = none
  dg : Y.on = true → D Y.ga = none
  hs : Y.on = true → Y.H0 Y.sa = none
  hg : Y.on = true → Y.H0 Y.ga = none
  ne : Y.on = true → Y.sa ≠ Y.ga
  t : Y.on = true → LamX.TabS H Y.ta Y.tq
  dt : Y.on = true → D Y.ta = none
  ht : Y.on = true → Y.H0 Y.ta = none
  a : ∀ p, w.sa = some p → Y.on = true ∧ Y.sa = p
  tb : Y.on = true → Y.ta = B.ta ∧ Y.tq = B.tq
/-- an address apart from the stream's -/
def Off (Y : RC) (p : Addr) : Prop := Y.on = true → p ≠ Y.sa ∧ p ≠ Y.ga ∧ p ≠ Y.ta
theorem tab_keep {H H' : Hp} {P : Addr} {q : Str} (t : LamX.TabS H P q) (e : ∀ b o, H b = some o → (b = P ∨ ∃ c, o = LamX.CodeO c q) → H' b = some o) : LamX.TabS H' P q := by
  obtain ⟨ps, h1, h2, h3⟩ := t
  refine ⟨ps, e _ _ h1 (.inl rfl), h2, fun pos cv hc => ?_⟩
  obtain ⟨c, e1, e2⟩ := h3 pos cv hc
  exact ⟨c, e1, e _ _ e2 (.inr ⟨c, rfl⟩)⟩
theorem tab_upd {H : Hp} {P p : Addr} {q : Str} {o u : HO} (t : LamX.TabS H P q) (hp : H p = some o) (n : p ≠ P) (nc : ∀ c, o ≠ LamX.CodeO c q) : LamX.TabS (upd H p u) P q :=
  tab_keep t fun b x e h => by
    have ne : b ≠ p := fun z => by
      rcases h with h | ⟨c, h⟩
      · exact n (by rw [← z, h])
      · rw [z, hp] at e; exact nc c (by rw [← h]; exact Option.some.inj e)
    rw [upd_ne ne]; exact e
theorem tab_new {H : Hp} {P p : Addr} {q : Str} {u : HO} (t : LamX.TabS H P q) (hp : H p = none) : LamX.TabS (upd H p u) P q :=
  t.ext fun b x e => by rw [upd_ne (fun z => by rw [z, hp] at e; cases e)]; exact e
def SlotR (B : RB) (Y : RC) (D H : Hp) : Option SV → Option V → Prop
  | none, _ => True
  | some (.dat d), v => ∃ x, v = some x ∧ Rp B D d x
  | some (.own o), v => ∃ p u, v = some (.ref p) ∧ H p = some u ∧ ObR B D o u ∧ D p = none ∧ Y.H0 p = none ∧ Off Y p
  | some (.bor d x), v => v = some x ∧ Rp B D d x
structure Rel (B : RB) (Y : RC) (D : Hp) (z : Z) (σ : L2.St) (H : Hp) : Prop where
  keep : Same Y.H0 H
  dat : Same D H
  dom : ∀ b, D b ≠ none → Y.D0 b ≠ none ∨ Y.H0 b = none
  wr : Wrel B Y D z.w H
  len : σ.length = z.e.length
  slot : ∀ (i : Nat) s, z.e[i]? = some s → ∃ v, σ[i]? = some v ∧ SlotR B Y D H s v
  inj : ∀ (i j : Nat) o o' p, z.e[i]? = some (some (.own o)) → z.e[j]? = some (some (.own o')) → σ[i]? = some (some (.ref p)) → σ[j]? = some (some (.ref p)) → i = j
section
variable {B : RB} {Y : RC} {D D' : Hp} {z : Z} {σ : L2.St} {H H' : Hp}
theorem SlotR.mono (e : Same D D') {s : Option SV} {v : Option V} (h : SlotR B Y D H s v) (k : ∀ p o, s = some (.own o) → v = some (.ref p) → H' p = H p ∧ D' p = none) : SlotR B Y D' H' s v := by
  cases s with
  | none => exact True.intro
  | some s =>
    cases s with
    | dat d =>
      obtain ⟨x, h1, h2⟩ := h
      exact ⟨x, h1, Rp.mono e _ _ h2⟩
    | own o =>
      obtain ⟨p, u, h1, h2, h3, h4, h5, h6⟩ := h
      obtain ⟨k1, k2⟩ := k p o rfl h1
      exact ⟨p, u, h1, k1.trans h2, h3.mono e, k2, h5, h6⟩
    | bor d x =>
      obtain ⟨h1, h2⟩ := h
      exact ⟨h1, Rp.mono e _ _ h2⟩
/-- behind a call, or where objects are laid: what was tracked stays (but the stream), the data is more -/
theorem Rel.more {w' : Wd} (R : Rel B Y D z σ H) (dd : Same D D') (k : ∀ b o, H b = some o → Off Y b → H' b = some o) (dat : Same D' H') (new : ∀ b, D' b ≠ none → D b ≠ none ∨ H b = none) (wr : Wrel B Y D' w' H') : Rel B Y D' ⟨z.e, w'⟩ σ H' := by
  have hd : ∀ p, H p ≠ none → D p = none → D' p = none := fun p h1 h2 => by
    cases q : D' p with
    | none => rfl
    | some o =>
      rcases new p (by rw [q]; simp) with x | x
      · exact (x h2).elim
      · exact (h1 x).elim
  refine ⟨fun b o e => k b o (R.keep b o e) fun ho => ⟨fun q => ?_, fun q => ?_, fun q => ?_⟩, dat, fun b hb => ?_, wr, R.len, fun i s e => ?_, R.inj⟩
  · rw [q, R.wr.hs ho] at e; cases e
  · rw [q, R.wr.hg ho] at e; cases e
  · rw [q, R.wr.ht ho] at e; cases e
  · rcases new b hb with x | x
    · exact R.dom b x
    · refine .inr ?_
      cases q : Y.H0 b with
      | none => rfl
      | some o => rw [R.keep b o q] at x; cases x
  · obtain ⟨v, h1, h2⟩ := R.slot i s e
    refine ⟨v, h1, h2.mono dd fun p o hs hv => ?_⟩
    subst hs hv
    obtain ⟨p', u, a1, a2, a3, a4, a5, a6⟩ := h2
    cases a1
    exact ⟨(k p u a2 a6).trans a2.symm, hd p (by rw [a2]; simp) a4⟩
/-- an object is laid, and is data -/
theorem Rel.laid {p : Addr} {o : HO} (R : Rel B Y D z σ H) (hn : H p = none) : Rel B Y (upd D p o) z σ (upd H p o) ∧ Same D (upd D p o) := by
  have dn : D p = none := R.dat.free hn
  have ne : ∀ b u, H b = some u → b ≠ p := fun b u e q => by rw [q, hn] at e; cases e
  have s1 : Same D (upd D p o) := fun b u e => by rw [upd_ne (ne b u (R.dat b u e))]; exact e
  have wr : Wrel B Y (upd D p o) z.w (upd H p o) := by
    refine ⟨fun h => ?_, fun h => ?_, fun h => ?_, fun h => ?_, R.wr.hs, R.wr.hg, R.wr.ne, fun h => tab_new (R.wr.t h) hn, fun h => ?_, R.wr.ht, R.wr.a, R.wr.tb⟩
    · rw [upd_ne (ne _ _ (R.wr.s h))]; exact R.wr.s h
    · rw [upd_ne (ne _ _ (R.wr.g h))]; exact R.wr.g h
    · rw [upd_ne (ne _ _ (R.wr.s h))]; exact R.wr.ds h
    · rw [upd_ne (ne _ _ (R.wr.g h))]; exact R.wr.dg h
    · obtain ⟨ps, e, _⟩ := R.wr.t h
      rw [upd_ne (ne _ _ e)]; exact R.wr.dt h
  refine ⟨R.more (w' := z.w) s1 (fun b u e _ => by rw [upd_ne (ne b u e)]; exact e) (fun b u e => ?_) (fun b hb => ?_) wr, s1⟩
  · by_cases q : b = p
    · subst q; rw [upd_same] at e ⊢; exact e
    · rw [upd_ne q] at e ⊢; exact R.dat b u e
  · by_cases q : b = p
    · subst q; exact .inr hn
    · rw [upd_ne q] at hb; exact .inl hb
/-- an object is laid, of no matter to the data -/
theorem Rel.aside {p : Addr} {o : HO} (R : Rel B Y D z σ H) (hn : H p = none) : Rel B Y D z σ (upd H p o) := by
  have ne : ∀ b u, H b = some u → b ≠ p := fun b u e q => by rw [q, hn] at e; cases e
  refine R.more (w' := z.w) (Same.refl _) (fun b u e _ => by rw [upd_ne (ne b u e)]; exact e) (fun b u e => ?_) (fun b hb => .inl hb) ⟨fun h => ?_, fun h => ?_, R.wr.ds, R.wr.dg, R.wr.hs, R.wr.hg, R.wr.ne, fun h => tab_new (R.wr.t h) hn, R.wr.dt, R.wr.ht, R.wr.a, R.wr.tb⟩
  · rw [upd_ne (ne b u (R.dat b u e))]; exact R.dat b u e
  · rw [upd_ne (ne _ _ (R.wr.s h))]; exact R.wr.s h
  · rw [upd_ne (ne _ _ (R.wr.g h))]; exact R.wr.g h
/-- a fresh object that is nobody's yet -/
structure Fresh (Y : RC) (D : Hp) (z : Z) (σ : L2.St) (H : Hp) (p : Addr) : Prop where
  d : D p = none
  h : Y.H0 p = none
  off : Off Y p
  own : ∀ (i : Nat) o, z.e[i]? = some (some (.own o)) → σ[i]? ≠ some (some (.ref p))
theorem Rel.fresh {p : Addr} (R : Rel B Y D z σ H) (hn : H p = none) : Fresh Y D z σ H p := by
  refine ⟨R.dat.free hn, R.keep.free hn, fun ho => ⟨fun q => ?_, fun q => ?_, fun q => ?_⟩, fun i o e q => ?_⟩
  · rw [q, R.wr.s ho] at hn; cases hn
  · rw [q, R.wr.g ho] at hn; cases hn
  · obtain ⟨ps, e, _⟩ := R.wr.t ho
    rw [q, e] at hn; cases hn
  · obtain ⟨v, h1, h2⟩ := R.slot i _ e
    obtain ⟨p', u, a1, a2, _⟩ := h2
    rw [q] at h1; cases h1; cases a1
    rw [hn] at a2; cases a2
/-- an own object changes -/
theorem Rel.write {i : Nat} {o o' : OD} {p : Addr} {u' : HO} (R : Rel B Y D z σ H) (he : z.e[i]? = some (some (.own o))) (hs : σ[i]? = some (some (.ref p))) (n : ObR B D o' u') :
    Rel B Y D ⟨z.e.set i (some (.own o')), z.w⟩ σ (upd H p u') := by
  obtain ⟨v, h1, h2⟩ := R.slot i _ he
  obtain ⟨p', u, a1, a2, a3, a4, a5, a6⟩ := h2
  rw [hs] at h1; cases h1; cases a1
  have lt : i < z.e.length := (List.getElem?_eq_some_iff.mp he).1
  have nsa : ∀ h : Y.on = true, Y.sa ≠ p ∧ Y.ga ≠ p := fun h => ⟨fun q => (a6 h).1 q.symm, fun q => (a6 h).2.1 q.symm⟩
  refine ⟨fun b o e => ?_, fun b o e => ?_, R.dom, ⟨fun h => ?_, fun h => ?_, R.wr.ds, R.wr.dg, R.wr.hs, R.wr.hg, R.wr.ne, fun h => tab_upd (R.wr.t h) a2 (a6 h).2.2 fun c => (a3.nx (c := c)).1, R.wr.dt, R.wr.ht, R.wr.a, R.wr.tb⟩, by rw [List.length_set]; exact R.len, fun j s e => ?_, fun j k oj ok q ej ek sj sk => ?_⟩
  · rw [upd_ne (by rintro rfl; rw [a5] at e; cases e)]; exact R.keep b o e
  · rw [upd_ne (by rintro rfl; rw [a4] at e; cases e)]; exact R.dat b o e
  · rw [upd_ne (nsa h).1]; exact R.wr.s h
  · rw [upd_ne (nsa h).2]; exact R.wr.g h
  · by_cases q : j = i
    · subst q
      rw [List.getElem?_set_self lt] at e
      cases e
      exact ⟨_, hs, p, u', rfl, upd_same, n, a4, a5, a6⟩
    · have e' : z.e[j]? = some s := by rw [← e]; exact (List.getElem?_set_ne (fun x => q x.symm)).symm
      obtain ⟨v, b1, b2⟩ := R.slot j s e'
      refine ⟨v, b1, b2.mono (Same.refl _) fun p2 o2 hs2 hv2 => ?_⟩
      subst hs2 hv2
      obtain ⟨p3, u3, c1, c2, c3, c4, c5, c6⟩ := b2
      cases c1
      have ne : p2 ≠ p := fun x => q (R.inj j i _ _ p2 e' he b1 (by rw [x]; exact hs))
      exact ⟨upd_ne ne, c4⟩
  · have base : ∀ {j : Nat} {oj : OD}, (z.e.set i (some (SV.own o')))[j]? = some (some (.own oj)) → ∃ o, z.e[j]? = some (some (.own o)) := fun {j oj} e => by
      by_cases q : j = i
      · subst q; exact ⟨_, he⟩
      · exact ⟨oj, by rw [← e]; exact (List.getElem?_set_ne (fun x => q x.symm)).symm⟩
    obtain ⟨o1, e1⟩ := base ej
    obtain ⟨o2, e2⟩ := base ek
    exact R.inj j k _ _ q e1 e2 sj sk
/-- a name takes data -/
theorem Rel.setDat {i : Nat} {d : Kz.D} {v : V} (R : Rel B Y D z σ H) (hd : Rp B D d v) : Rel B Y D ⟨z.e.set i (some (.dat d)), z.w⟩ (σ.set i (some v)) H := by
  refine ⟨R.keep, R.dat, R.dom, R.wr, by rw [List.length_set, List.length_set]; exact R.len, fun j s e => ?_, fun j k oj ok q ej ek sj sk => ?_⟩
  · by_cases q : i = j
    · subst q
      have lt : i < z.e.length := by
        have := (List.getElem?_eq_some_iff.mp e).1
        rwa [List.length_set] at this
      rw [List.getElem?_set_self lt] at e
      cases e
      exact ⟨_, List.getElem?_set_self (by rw [R.len]; exact lt), v, rfl, hd⟩
    · rw [List.getElem?_set_ne q] at e ⊢
      exact R.slot j s e
  · have base : ∀ {j : Nat} {oj : OD}, (z.e.set i (some (SV.dat d)))[j]? = some (some (.own oj)) → z.e[j]? = some (some (.own oj)) ∧ i ≠ j := fun {j oj} e => by
      by_cases q : i = j
      · subst q
        have lt : i < z.e.length := by
          have := (List.getElem?_eq_some_iff.mp e).1
          rwa [List.length_set] at this
        rw [List.getElem?_set_self lt] at e
        cases e
      · rw [List.getElem?_set_ne q] at e
        exact ⟨e, q⟩
    obtain ⟨e1, n1⟩ := base ej
    obtain ⟨e2, n2⟩ := base ek
    rw [List.getElem?_set_ne n1] at sj
    rw [List.getElem?_set_ne n2] at sk
    exact R.inj j k _ _ q e1 e2 sj sk
/-- a name takes a fresh object as its own -/
theorem Rel.setOwn {i : Nat} {o : OD} {p : Addr} {u : HO} (R : Rel B Y D z σ H) (F : Fresh Y D z σ H p) (hp : H p = some u) (ob : ObR B D o u) :
    Rel B Y D ⟨z.e.set i (some (.own o)), z.w⟩ (σ.set i (some (.ref p))) H := by
  refine ⟨R.keep, R.dat, R.dom, R.wr, by rw [List.length_set, List.length_set]; exact R.len, fun j s e => ?_, fun j k oj ok q ej ek sj sk => ?_⟩
  · by_cases q : i = j
    · subst q
      have lt : i < z.e.length := by
        have := (List.getElem?_eq_some_iff.mp e).1
        rwa [List.length_set] at this
      rw [List.getElem?_set_self lt] at e
      cases e
      exact ⟨_, List.getElem?_set_self (by rw [R.len]; exact lt), p, u, rfl, hp, ob, F.d, F.h, F.off⟩
    · rw [List.getElem?_set_ne q] at e ⊢
      exact R.slot j s e
  · have base : ∀ {j : Nat} {oj : OD}, (z.e.set i (some (SV.own o)))[j]? = some (some (.own oj)) → (i = j) ∨ (i ≠ j ∧ z.e[j]? = some (some (.own oj))) := fun {j oj} e => by
      by_cases q : i = j
      · exact .inl q
      · rw [List.getElem?_set_ne q] at e
        exact .inr ⟨q, e⟩
    have slt : ∀ {x : V}, (σ.set i (some (V.ref p)))[i]? = some (some x) → x = .ref p := fun {x} e => by
      have lt : i < σ.length := by
        have := (List.getElem?_eq_some_iff.mp e).1
        rwa [List.length_set] at this
      rw [List.getElem?_set_self lt] at e
      cases e; rfl
    rcases base ej with q1 | ⟨n1, e1⟩ <;> rcases base ek with q2 | ⟨n2, e2⟩
    · exact q1.symm.trans q2
    · subst q1
      have e := slt sj
      rw [List.getElem?_set_ne n2] at sk
      cases e
      exact (F.own k _ e2 sk).elim
    · subst q2
      have e := slt sk
      rw [List.getElem?_set_ne n1] at sj
      cases e
      exact (F.own j _ e1 sj).elim
    · rw [List.getElem?_set_ne n1] at sj
      rw [List.getElem?_set_ne n2] at sk
      exact R.inj j k _ _ q e1 e2 sj sk
/-- an own object becomes data -/
theorem Rel.freeze {i : Nat} {o : OD} {p : Addr} (R : Rel B Y D z σ H) (he : z.e[i]? = some (some (.own o))) (hs : σ[i]? = some (some (.ref p))) :
    ∃ u, H p = some u ∧ Rel B Y (upd D p u) ⟨z.e.set i (some (.dat o.d)), z.w⟩ σ H ∧ Same D (upd D p u) ∧ Rp B (upd D p u) o.d (.ref p) := by
  obtain ⟨v, h1, h2⟩ := R.slot i _ he
  obtain ⟨p', u, a1, a2, a3, a4, a5, a6⟩ := h2
  rw [hs] at h1; cases h1; cases a1
  have lt : i < z.e.length := (List.getElem?_eq_some_iff.mp he).1
  have s1 : Same D (upd D p u) := fun b x e => by rw [upd_ne (by rintro rfl; rw [a4] at e; cases e)]; exact e
  have rp : Rp B (upd D p u) o.d (.ref p) := (a3.mono s1).rp upd_same
  refine ⟨u, a2, ⟨R.keep, fun b x e => ?_, fun b hb => ?_, ⟨R.wr.s, R.wr.g, fun h => ?_, fun h => ?_, R.wr.hs, R.wr.hg, R.wr.ne, R.wr.t, fun h => by rw [upd_ne (fun q => (a6 h).2.2 q.symm)]; exact R.wr.dt h, R.wr.ht, R.wr.a, R.wr.tb⟩, by rw [List.length_set]; exact R.len, fun j s e => ?_, fun j k oj ok q ej ek sj sk => ?_⟩, s1, rp⟩
  · by_cases q : b = p
    · subst q; rw [upd_same] at e; cases e; exact a2
    · rw [upd_ne q] at e; exact R.dat b x e
  · by_cases q : b = p
    · subst q; exact .inr a5
    · rw [upd_ne q] at hb; exact R.dom b hb
  · rw [upd_ne (fun q => (a6 h).1 q.symm)]; exact R.wr.ds h
  · rw [upd_ne (fun q => (a6 h).2.1 q.symm)]; exact R.wr.dg h
  · by_cases q : i = j
    · subst q
      rw [List.getElem?_set_self lt] at e
      cases e
      exact ⟨_, hs, _, rfl, rp⟩
    · rw [List.getElem?_set_ne q] at e
      obtain ⟨v, b1, b2⟩ := R.slot j s e
      refine ⟨v, b1, b2.mono s1 fun p2 o2 hs2 hv2 => ?_⟩
      subst hs2 hv2
      obtain ⟨p3, u3, c1, c2, c3, c4, c5, c6⟩ := b2
      cases c1
      have ne : p2 ≠ p := fun x => q (R.inj i j _ _ p2 he e (by rw [x]; exact hs) b1)
      exact ⟨rfl, by rw [upd_ne ne]; exact c4⟩
  · have base : ∀ {j : Nat} {oj : OD}, (z.e.set i (some (SV.dat o.d)))[j]? = some (some (.own oj)) → z.e[j]? = some (some (.own oj)) := fun {j oj} e => by
      by_cases q : i = j
      · subst q
        rw [List.getElem?_set_self lt] at e
        cases e
      · rw [List.getElem?_set_ne q] at e
        exact e
    exact R.inj j k _ _ q (base ej) (base ek) sj sk
/-- a fresh object becomes data -/
theorem Rel.adopt0 {p : Addr} {u : HO} (R : Rel B Y D z σ H) (F : Fresh Y D z σ H p) (hp : H p = some u) :
    Rel B Y (upd D p u) z σ H ∧ Same D (upd D p u) := by
  have s1 : Same D (upd D p u) := fun b x e => by rw [upd_ne (by rintro rfl; rw [F.d] at e; cases e)]; exact e
  refine ⟨⟨R.keep, fun b x e => ?_, fun b hb => ?_, ⟨R.wr.s, R.wr.g, fun h => ?_, fun h => ?_, R.wr.hs, R.wr.hg, R.wr.ne, R.wr.t, fun h => by rw [upd_ne (fun q => (F.off h).2.2 q.symm)]; exact R.wr.dt h, R.wr.ht, R.wr.a, R.wr.tb⟩, R.len, fun j s e => ?_, R.inj⟩, s1⟩
  · by_cases q : b = p
    · subst q; rw [upd_same] at e; cases e; exact hp
    · rw [upd_ne q] at e; exact R.dat b x e
  · by_cases q : b = p
    · subst q; exact .inr F.h
    · rw [upd_ne q] at hb; exact R.dom b hb
  · rw [upd_ne (fun q => (F.off h).1 q.symm)]; exact R.wr.ds h
  · rw [upd_ne (fun q => (F.off h).2.1 q.symm)]; exact R.wr.dg h
  · obtain ⟨v, b1, b2⟩ := R.slot j s e
    refine ⟨v, b1, b2.mono s1 fun p2 o2 hs2 hv2 => ?_⟩
    subst hs2 hv2
    have ne : p2 ≠ p := fun x => F.own j o2 e (by rw [← x]; exact b1)
    obtain ⟨p3, u3, c1, c2, c3, c4, c5, c6⟩ := b2
    cases c1
    exact ⟨rfl, by rw [upd_ne ne]; exact c4⟩
theorem Rel.adopt {o : OD} {p : Addr} {u : HO} (R : Rel B Y D z σ H) (F : Fresh Y D z σ H p) (hp : H p = some u) (ob : ObR B D o u) :
    Rel B Y (upd D p u) z σ H ∧ Same D (upd D p u) ∧ Rp B (upd D p u) o.d (.ref p) :=
  let ⟨R', s1⟩ := R.adopt0 F hp
  ⟨R', s1, (ob.mono s1).rp upd_same⟩
/-- a name is forgotten -/
theorem Rel.drop {i : Nat} {v : Option V} (R : Rel B Y D z σ H) : Rel B Y D ⟨z.e.set i none, z.w⟩ (σ.set i v) H := by
  refine ⟨R.keep, R.dat, R.dom, R.wr, by rw [List.length_set, List.length_set]; exact R.len, fun j s e => ?_, fun j k oj ok q ej ek sj sk => ?_⟩
  · by_cases q : i = j
    · subst q
      have lt : i < z.e.length := by
        have := (List.getElem?_eq_some_iff.mp e).1
        rwa [List.length_set] at this
      rw [List.getElem?_set_self lt] at e
      cases e
      exact ⟨_, List.getElem?_set_self (by rw [R.len]; exact lt), True.intro⟩
    · rw [List.getElem?_set_ne q] at e ⊢
      exact R.slot j s e
  · have base : ∀ {j : Nat} {oj : OD}, (z.e.set i none)[j]? = some (some (.own oj)) → z.e[j]? = some (some (.own oj)) ∧ i ≠ j := fun {j oj} e => by
      by_cases q : i = j
      · subst q
        have lt : i < z.e.length := by
          have := (List.getElem?_eq_some_iff.mp e).1
          rwa [List.length_set] at this
        rw [List.getElem?_set_self lt] at e
        cases e
      · rw [List.getElem?_set_ne q] at e
        exact ⟨e, q⟩
    obtain ⟨e1, n1⟩ := base ej
    obtain ⟨e2, n2⟩ := base ek
    rw [List.getElem?_set_ne n1] at sj
    rw [List.getElem?_set_ne n2] at sk
    exact R.inj j k _ _ q e1 e2 sj sk
end
end Kz

set_option Elab.async false
set_option linter.all false
set_option maxRecDepth 100000
set_option maxHeartbeats 4000000
set_option autoImplicit false
/-! Expressions over data. -/
namespace Kz
open PySem PySem.Spec PyProof.Rows L2

/-- from one state of the reading to a later one (the slots' values stay) -/
structure Step (B : RB) (Y : RC) (D : Hp) (z : Z) (σ : L2.St) (H : Hp) (D' : Hp) (z' : Z) (H' : Hp) : Prop where
  rel : Rel B Y D' z' σ H'
  same : Same D D'
  grow : ∀ p, H' p = none → H p = none
  fr : ∀ p u, H p = some u → Fresh Y D z σ H p → H' p = some u ∧ Fresh Y D' z' σ H' p
section
variable {B : RB} {Y : RC} {D D' D2 : Hp} {z z' z2 : Z} {σ : L2.St} {H H' H2 : Hp} {p : Addr}
theorem Step.refl (R : Rel B Y D z σ H) : Step B Y D z σ H D z H := ⟨R, Same.refl _, fun _ h => h, fun _ _ h f => ⟨h, f⟩⟩
theorem Step.trans (a : Step B Y D z σ H D' z' H') (b : Step B Y D' z' σ H' D2 z2 H2) : Step B Y D z σ H D2 z2 H2 :=
  ⟨b.rel, a.same.trans b.same, fun p h => a.grow p (b.grow p h), fun p u h f => let ⟨h1, f1⟩ := a.fr p u h f; b.fr p u h1 f1⟩
theorem Fresh.to {D' : Hp} {z' : Z} {H' : Hp} (F : Fresh Y D z σ H p) (d : D' p = none) (k : ∀ (i : Nat) o, z'.e[i]? = some (some (.own o)) → ∃ o', z.e[i]? = some (some (.own o'))) : Fresh Y D' z' σ H' p :=
  ⟨d, F.h, F.off, fun i o e q => let ⟨o', e'⟩ := k i o e; F.own i o' e' q⟩
theorem Step.laid {o : HO} (R : Rel B Y D z σ H) (hn : H p = none) : Step B Y D z σ H (upd D p o) z (upd H p o) := by
  obtain ⟨R1, s1⟩ := R.laid (o := o) hn
  refine ⟨R1, s1, fun q h => ?_, fun q u h f => ?_⟩
  · by_cases e : q = p
    · rw [e]; exact hn
    · rw [upd_ne e] at h; exact h
  · have ne : q ≠ p := fun e => by rw [e, hn] at h; cases h
    exact ⟨by rw [upd_ne ne]; exact h, f.to (by rw [upd_ne ne]; exact f.d) fun i o e => ⟨o, e⟩⟩
theorem Step.aside {o : HO} (R : Rel B Y D z σ H) (hn : H p = none) : Step B Y D z σ H D z (upd H p o) := by
  refine ⟨R.aside hn, Same.refl _, fun q h => ?_, fun q u h f => ?_⟩
  · by_cases e : q = p
    · rw [e]; exact hn
    · rw [upd_ne e] at h; exact h
  · have ne : q ≠ p := fun e => by rw [e, hn] at h; cases h
    exact ⟨by rw [upd_ne ne]; exact h, f.to f.d fun i o e => ⟨o, e⟩⟩
theorem Step.write {i : Nat} {o o' : OD} {u' : HO} (R : Rel B Y D z σ H) (he : z.e[i]? = some (some (.own o))) (hs : σ[i]? = some (some (.ref p))) (n : ObR B D o' u') :
    Step B Y D z σ H D ⟨z.e.set i (some (.own o')), z.w⟩ (upd H p u') := by
  refine ⟨R.write he hs n, Same.refl _, fun q h => ?_, fun q u h f => ?_⟩
  · by_cases e : q = p
    · rw [e, upd_same] at h; cases h
    · rw [upd_ne e] at h; exact h
  · have ne : q ≠ p := fun e => f.own i o he (by rw [e]; exact hs)
    refine ⟨by rw [upd_ne ne]; exact h, f.to f.d fun j oj e => ?_⟩
    by_cases q : j = i
    · subst q; exact ⟨o, he⟩
    · exact ⟨oj, by rw [← e]; exact (List.getElem?_set_ne (fun x => q x.symm)).symm⟩
theorem Step.freeze {i : Nat} {o : OD} (R : Rel B Y D z σ H) (he : z.e[i]? = some (some (.own o))) (hs : σ[i]? = some (some (.ref p))) :
    ∃ D', Step B Y D z σ H D' ⟨z.e.set i (some (.dat o.d)), z.w⟩ H ∧ Rp B D' o.d (.ref p) := by
  obtain ⟨u, hu, R', s, r⟩ := R.freeze he hs
  refine ⟨upd D p u, ⟨R', s, fun _ h => h, fun q w h f => ⟨h, ?_⟩⟩, r⟩
  have lt : i < z.e.length := (List.getElem?_eq_some_iff.mp he).1
  have ne : q ≠ p := fun e => f.own i o he (by rw [e]; exact hs)
  refine f.to (by rw [upd_ne ne]; exact f.d) fun j oj e => ?_
  by_cases x : i = j
  · subst x
    rw [List.getElem?_set_self lt] at e
    cases e
  · rw [List.getElem?_set_ne x] at e
    exact ⟨oj, e⟩
theorem Step.adopt {o : OD} {u : HO} (R : Rel B Y D z σ H) (F : Fresh Y D z σ H p) (hp : H p = some u) (ob : ObR B D o u) :
    Rel B Y (upd D p u) z σ H ∧ Same D (upd D p u) ∧ Rp B (upd D p u) o.d (.ref p) ∧ ∀ q w, H q = some w → q ≠ p → Fresh Y D z σ H q → Fresh Y (upd D p u) z σ H q := by
  obtain ⟨R', s, r⟩ := R.adopt F hp ob
  exact ⟨R', s, r, fun q w h ne f => f.to (by rw [upd_ne ne]; exact f.d) fun j oj e => ⟨oj, e⟩⟩
end

/-! ### the judgements -/
abbrev ZE := Z → (D → Z → Prop) → Prop
abbrev ZM := Z → (SV → Z → Prop) → Prop
abbrev ZT := Z → (Bool → Z → Prop) → Prop
abbrev ZA := Z → (List D → Z → Prop) → Prop
def SV.d : SV → D
  | .dat d => d
  | .own o => o.d
  | .bor d _ => d
/-- a value: data, or an object that is new and nobody's -/
def VR (B : RB) (Y : RC) (D : Hp) (z : Z) (σ : L2.St) (Hs H : Hp) : SV → V → Prop
  | .dat d, v => Rp B D d v
  | .own o, v => ∃ p u, v = .ref p ∧ H p = some u ∧ Hs p = none ∧ Fresh Y D z σ H p ∧ ObR B D o u
  | .bor _ _, _ => False
def tZ (B : RB) (t : ZE) : TE := fun σ H Q => ∃ Y Dh z Q', Rel B Y Dh z σ H ∧ t z Q' ∧ ∀ d z', Q' d z' → ∀ v H' D', Step B Y Dh z σ H D' z' H' → Rp B D' d v → Q v H'
def tZM (B : RB) (t : ZM) : TE := fun σ H Q => ∃ Y Dh z Q', Rel B Y Dh z σ H ∧ t z Q' ∧ ∀ s z', Q' s z' → ∀ v H' D', Step B Y Dh z σ H D' z' H' → VR B Y D' z' σ H H' s v → Q v H'
def tZT (B : RB) (t : ZT) : TT := fun σ H Q => ∃ Y Dh z Q', Rel B Y Dh z σ H ∧ t z Q' ∧ ∀ b z', Q' b z' → ∀ H' D', Step B Y Dh z σ H D' z' H' → Q b H'
def tZA (B : RB) (t : ZA) : TA := fun σ H Q => ∃ Y Dh z Q', Rel B Y Dh z σ H ∧ t z Q' ∧ ∀ ds z', Q' ds z' → ∀ vs H' D', Step B Y Dh z σ H D' z' H' → RpA B D' ds vs → Q vs H'
abbrev DE (X : Cx) (B : RB) (e : Expr) (t : ZE) : Prop := PE X e (tZ B t)
abbrev DM (X : Cx) (B : RB) (e : Expr) (t : ZM) : Prop := PE X e (tZM B t)
abbrev DT (X : Cx) (B : RB) (e : Expr) (t : ZT) : Prop := PT X e (tZT B t)
abbrev DA (X : Cx) (B : RB) (es : List Expr) (t : ZA) : Prop := PA X es (tZA B t)
section
variable {X : Cx} {B : RB}
theorem pe_weak {e : Expr} {t t' : TE} (h : PE X e t) (k : ∀ σ H Q, t' σ H Q → t σ H Q) : PE X e t' := ⟨fun pins s σ H Q I hw => h.run pins s σ H Q I (k σ H Q hw)⟩
theorem pe_weakI {e : Expr} {t t' : TE} (h : PE X e t) (k : ∀ pins s σ H Q, Inv X pins σ H s → t' σ H Q → t σ H Q) : PE X e t' := ⟨fun pins s σ H Q I hw => h.run pins s σ H Q I (k pins s σ H Q I hw)⟩
theorem pt_weak {e : Expr} {t t' : TT} (h : PT X e t) (k : ∀ σ H Q, t' σ H Q → t σ H Q) : PT X e t' := ⟨fun pins s σ H Q I hw => h.run pins s σ H Q I (k σ H Q hw)⟩
theorem pw_weak {e : Expr} {t t' : TT} (h : PW X e t) (k : ∀ σ H Q, t' σ H Q → t σ H Q) : PW X e t' := ⟨fun wh pins s σ H Q I hw => h.run wh pins s σ H Q I (k σ H Q hw)⟩
theorem pa_weak {es : List Expr} {t t' : TA} (h : PA X es t) (k : ∀ σ H Q, t' σ H Q → t σ H Q) : PA X es t' := ⟨fun pos pins s σ H Q I hw => h.run pos pins s σ H Q I (k σ H Q hw)⟩
/-- new objects become data -/
def zAd (t : ZM) : ZE := fun z Q => t z fun s z' => Q s.d z'
theorem z_E {e : Expr} {t : ZM} (h : DM X B e t) : DE X B e (zAd t) := pe_weak h fun σ H Q ⟨Y, Dh, z, Q', R, ht, k⟩ =>
  ⟨Y, Dh, z, _, R, ht, fun s z' q v H' D' S vr => by
    cases s with
    | dat d => exact k d z' q v H' D' S vr
    | own o =>
      obtain ⟨p, u, rfl, hp, hn, F, ob⟩ := vr
      obtain ⟨R', s, r, fr⟩ := Step.adopt S.rel F hp ob
      refine k _ z' q _ H' _ ⟨R', S.same.trans s, S.grow, fun q w h f => ?_⟩ r
      obtain ⟨h1, f1⟩ := S.fr q w h f
      exact ⟨h1, fr q w h1 (fun e => by rw [e, hn] at h; cases h) f1⟩
    | bor d x => exact vr.elim⟩
def zMd (t : ZE) : ZM := fun z Q => t z fun d z' => Q (.dat d) z'
theorem z_M {e : Expr} {t : ZE} (h : DE X B e t) : DM X B e (zMd t) := pe_weak h fun σ H Q ⟨Y, Dh, z, Q', R, ht, k⟩ =>
  ⟨Y, Dh, z, _, R, ht, fun d z' q v H' D' S r => k (.dat d) z' q v H' D' S r⟩

/-! ### names, constants -/
def look : List (Option SV) → Nat → Option SV
  | [], _ => none
  | x :: _, 0 => x
  | _ :: r, n + 1 => look r n
theorem look_some : ∀ {l : List (Option SV)} {i : Nat} {s : SV}, look l i = some s → l[i]? = some (some s)
  | x :: r, 0, s, h => by show some x = _; rw [show x = some s from h]
  | x :: r, i + 1, s, h => look_some (l := r) h
theorem Rel.look_dat {Y : RC} {D : Hp} {z : Z} {σ : L2.St} {H : Hp} {i : Nat} {d : Kz.D} (R : Rel B Y D z σ H) (h : look z.e i = some (.dat d)) : ∃ v, σ[i]? = some (some v) ∧ Rp B D d v := by
  obtain ⟨v, h1, x, h2, h3⟩ := R.slot i _ (look_some h)
  exact ⟨x, by rw [h1, h2], h3⟩
theorem Rel.look_own {Y : RC} {D : Hp} {z : Z} {σ : L2.St} {H : Hp} {i : Nat} {o : OD} (R : Rel B Y D z σ H) (h : look z.e i = some (.own o)) : ∃ p u, σ[i]? = some (some (.ref p)) ∧ H p = some u ∧ ObR B D o u ∧ z.e[i]? = some (some (.own o)) := by
  obtain ⟨v, h1, p, u, h2, h3, h4, _⟩ := R.slot i _ (look_some h)
  exact ⟨p, u, by rw [h1, h2], h3, h4, look_some h⟩
/-- a name's value; an own object becomes data -/
def zVar (i : Nat) : ZE := fun z Q => match look z.e i with
  | some (.dat d) => Q d z
  | some (.own o) => Q o.d ⟨z.e.set i (some (.dat o.d)), z.w⟩
  | some (.bor d _) => Q d z
  | none => False
theorem zv (i : Nat) {x : Str} {pos : Pos} (hN : X.N[i]? = some x := by rfl) (hv : Vis X.env.scope x := by first | exact Or.inl rfl | exact Or.inr (Or.inl rfl) | exact Or.inr (Or.inr rfl)) (hd : (x == ("__debug__" : Str)) = false := by decide)
    (hcd : (x == ("__classdict__" : Str)) = false := by decide) : DE X B (.Name x pos) (zVar i) := pe_weak (pe_var hN hv hd hcd) fun σ H Q ⟨Y, Dh, z, Q', R, ht, k⟩ => by
  unfold zVar at ht
  cases e : look z.e i with
  | none => rw [e] at ht; exact ht.elim
  | some s =>
    rw [e] at ht
    cases s with
    | dat d =>
      obtain ⟨v, h1, h2⟩ := R.look_dat e
      exact ⟨v, h1, k d z ht v H Dh (Step.refl R) h2⟩
    | own o =>
      obtain ⟨p, u, h1, h2, h3, h4⟩ := R.look_own e
      obtain ⟨D', S, r⟩ := Step.freeze R h4 h1
      exact ⟨_, h1, k _ _ ht _ H D' S r⟩
    | bor d x =>
      obtain ⟨w, h1, h2, h3⟩ := R.slot i _ (look_some e)
      exact ⟨x, by rw [h1, h2], k d z ht x H Dh (Step.refl R) h3⟩
def zC (d : D) : ZE := fun z Q => Q d z
theorem zint {i : Int} {j pos} : DE X B (.Constant (.int i) j pos) (zC (.int i)) := pe_weak pe_int fun σ H Q ⟨Y, Dh, z, Q', R, ht, k⟩ => k _ z ht _ H Dh (Step.refl R) (Rp.mk_int i)
theorem zbl {b : Bool} {j pos} : DE X B (.Constant (.bool b) j pos) (zC (.bl b)) := pe_weak pe_bl fun σ H Q ⟨Y, Dh, z, Q', R, ht, k⟩ => k _ z ht _ H Dh (Step.refl R) (Rp.mk_bl b)
theorem znon {j pos} : DE X B (.Constant .none j pos) (zC .non) := pe_weak pe_non fun σ H Q ⟨Y, Dh, z, Q', R, ht, k⟩ => k _ z ht _ H Dh (Step.refl R) Rp.mk_non
theorem zstr {x : Str} {j pos} : DE X B (.Constant (.str x) j pos) (zC (.str x)) := pe_weak pe_str fun σ H Q ⟨Y, Dh, z, Q', R, ht, k⟩ => k _ z ht _ H Dh (Step.refl R) (Rp.mk_str x)
theorem zglob {x : Str} {a : Addr} {pos : Pos} (hg : Gl X x) (hm : X.mg x = some (.ref a)) (hf : PySem.W.typeIn B.K (.ref a) = some (.type "function")) (hd : (x == ("__debug__" : Str)) = false := by decide) : DE X B (.Name x pos) (zC (.fn a)) :=
  pe_weak (pe_glob (v := .ref a) hg hm rfl hd) fun σ H Q ⟨Y, Dh, z, Q', R, ht, k⟩ => k _ z ht _ H Dh (Step.refl R) (by unfold Rp; exact ⟨rfl, hf⟩)

/-! ### two operands -/
abbrev ZR2 := D → D → Z → (D → Z → Prop) → Prop
def zBin (R : ZR2) (ta tb : ZE) : ZE := fun z Q => ta z fun x z1 => tb z1 fun y z2 => R x y z2 Q
def Link (B : RB) (r : R2) (R : ZR2) : Prop := ∀ (Y : RC) (Dh : Hp) (z : Z) (σ : L2.St) (H : Hp) (x y : D) (v u : V) (Q' : D → Z → Prop) (Q : VK), Rel B Y Dh z σ H → Rp B Dh x v → Rp B Dh y u → R x y z Q' →
  (∀ d z', Q' d z' → ∀ v H' D', Step B Y Dh z σ H D' z' H' → Rp B D' d v → Q v H') → r v u H Q
theorem link2 {r : R2} {R : ZR2} {ta tb : ZE} (l : Link B r R) : ∀ σ H Q, tZ B (zBin R ta tb) σ H Q → tOp r (tZ B ta) (tZ B tb) σ H Q :=
  fun σ H Q ⟨Y, Dh, z, Q', R0, h, k⟩ => ⟨Y, Dh, z, _, R0, h, fun x z1 h1 v1 H1 D1 S1 r1 => ⟨Y, D1, z1, _, S1.rel, h1, fun y z2 h2 v2 H2 D2 S2 r2 =>
    l Y D2 z2 σ H2 x y v1 v2 Q' Q S2.rel (Rp.mono S2.same _ _ r1) r2 h2 fun d z' q v H' D' S rp => k d z' q v H' D' ((S1.trans S2).trans S) rp⟩⟩
theorem z_op {op : Operator} {r : R2} {R : ZR2} {a b : Expr} {ta tb : ZE} {pos : Pos} (ho : OpR X (binaryOp op) r) (l : Link B r R) (ha : DE X B a ta) (hb : DE X B b tb) : DE X B (.BinOp a op b pos) (zBin R ta tb) :=
  pe_weak (pe_op ho ha hb) (link2 l)
theorem z_cmp {op : CmpOp} {r : R2} {R : ZR2} {a b : Expr} {ta tb : ZE} {pos : Pos} (ho : OpR X (compareOp op) r) (l : Link B r R) (ha : DE X B a ta) (hb : DE X B b tb) (hm : behindInMarks op b = false) : DE X B (.Compare a [op] [b] pos) (zBin R ta tb) :=
  pe_weak (pe_cmpR ho ha hb hm) (link2 l)
/-- data that is a truth value -/
def zB (t : ZE) : ZT := fun z Q => t z fun d z1 => match d with
  | .bl b => Q b z1
  | _ => False
theorem z_cmpT {op : CmpOp} {r : R2} {R : ZR2} {a b : Expr} {ta tb : ZE} {pos : Pos} (ho : OpR X (compareOp op) r) (l : Link B r R) (ha : DE X B a ta) (hb : DE X B b tb) (hm : behindInMarks op b = false) : DT X B (.Compare a [op] [b] pos) (zB (zBin R ta tb)) :=
  pt_weak (pt_cmpR ho ha hb hm) fun σ H Q ⟨Y, Dh, z, Q', R0, h, k⟩ => link2 l σ H _ ⟨Y, Dh, z, _, R0, h, fun d z1 q v H' D' S rp => by
    cases d with
    | bl b => exact ⟨b, rp.bl_, k b z1 q H' D' S⟩
    | _ => exact q.elim⟩
/-- the value of an expression as a test -/
theorem z_val {e : Expr} {t : ZE} (h : DE X B e t) (he : ∀ whole, isTrue e X.env whole = (do let v ← whole; standAt e.pos; holding [v] (truthy v)) := by intro _; rfl) : DT X B e (zB t) :=
  pt_weak (pt_val h he) fun σ H Q ⟨Y, Dh, z, Q', R0, h, k⟩ => ⟨Y, Dh, z, _, R0, h, fun d z1 q v H' D' S rp => by
    cases d with
    | bl b => exact ⟨b, rp.bl_, k b z1 q H' D' S⟩
    | _ => exact q.elim⟩
/-! ints -/
def zI (c : Int → Int → Prop) (g : Int → Int → D) : ZR2 := fun x y z Q => match x, y with
  | .int i, .int j => c i j ∧ Q (g i j) z
  | _, _ => False
def zI0 (g : Int → Int → D) : ZR2 := fun x y z Q => match x, y with
  | .int i, .int j => Q (g i j) z
  | _, _ => False
theorem l_I {c : Int → Int → Prop} {g : Int → Int → Int} : Link B (rI c fun i j => .int (g i j)) (zI c fun i j => .int (g i j)) := fun Y Dh z σ H x y v u Q' Q R rx ry h k => by
  cases x with
  | int i =>
    cases y with
    | int j => exact ⟨i, j, rx.int_, ry.int_, h.1, k _ z h.2 _ H Dh (Step.refl R) (Rp.mk_int _)⟩
    | _ => exact h.elim
  | _ => exact h.elim
theorem l_I0 {g : Int → Int → Int} : Link B (rI0 fun i j => .int (g i j)) (zI0 fun i j => .int (g i j)) := fun Y Dh z σ H x y v u Q' Q R rx ry h k => by
  cases x with
  | int i =>
    cases y with
    | int j => exact ⟨i, j, rx.int_, ry.int_, k _ z h _ H Dh (Step.refl R) (Rp.mk_int _)⟩
    | _ => exact h.elim
  | _ => exact h.elim
theorem l_B0 {g : Int → Int → Bool} : Link B (rI0 fun i j => .bl (g i j)) (zI0 fun i j => .bl (g i j)) := fun Y Dh z σ H x y v u Q' Q R rx ry h k => by
  cases x with
  | int i =>
    cases y with
    | int j => exact ⟨i, j, rx.int_, ry.int_, k _ z h _ H Dh (Step.refl R) (Rp.mk_bl _)⟩
    | _ => exact h.elim
  | _ => exact h.elim
/-! == of flat values of one kind -/
def zEq (neg : Bool) : ZR2 := fun x y z Q => match x, y with
  | .int i, .int j => Q (.bl (neg != (i == j))) z
  | .bl i, .bl j => Q (.bl (neg != (i == j))) z
  | .str i, .str j => Q (.bl (neg != (i == j))) z
  | _, _ => False
theorem l_eq : Link B rEq (zEq false) := fun Y Dh z σ H x y v u Q' Q R rx ry h k => by
  cases x with
  | int i =>
    cases y with
    | int j =>
      rw [rx.int_, ry.int_]
      refine ⟨rfl, ?_⟩
      rw [dec_int]
      exact k _ z (by simpa [zEq] using h) _ H Dh (Step.refl R) (Rp.mk_bl _)
    | _ => exact h.elim
  | bl i =>
    cases y with
    | bl j =>
      rw [rx.bl_, ry.bl_]
      refine ⟨rfl, ?_⟩
      rw [dec_bl]
      exact k _ z (by simpa [zEq] using h) _ H Dh (Step.refl R) (Rp.mk_bl _)
    | _ => exact h.elim
  | str i =>
    cases y with
    | str j =>
      rw [rx.str_, ry.str_]
      refine ⟨rfl, ?_⟩
      rw [dec_str]
      exact k _ z (by simpa [zEq] using h) _ H Dh (Step.refl R) (Rp.mk_bl _)
    | _ => exact h.elim
  | _ => exact h.elim
theorem l_ne : Link B rNe (zEq true) := fun Y Dh z σ H x y v u Q' Q R rx ry h k => by
  cases x with
  | int i =>
    cases y with
    | int j =>
      rw [rx.int_, ry.int_]
      refine ⟨rfl, ?_⟩
      rw [dec_int]
      exact k _ z (by simpa [zEq] using h) _ H Dh (Step.refl R) (Rp.mk_bl _)
    | _ => exact h.elim
  | bl i =>
    cases y with
    | bl j =>
      rw [rx.bl_, ry.bl_]
      refine ⟨rfl, ?_⟩
      rw [dec_bl]
      exact k _ z (by simpa [zEq] using h) _ H Dh (Step.refl R) (Rp.mk_bl _)
    | _ => exact h.elim
  | str i =>
    cases y with
    | str j =>
      rw [rx.str_, ry.str_]
      refine ⟨rfl, ?_⟩
      rw [dec_str]
      exact k _ z (by simpa [zEq] using h) _ H Dh (Step.refl R) (Rp.mk_bl _)
    | _ => exact h.elim
  | _ => exact h.elim
end
end Kz

set_option Elab.async false
set_option linter.all false
set_option maxRecDepth 100000
set_option maxHeartbeats 4000000
set_option autoImplicit false
/-! Expressions over data, further: tests, arguments, displays, subscripts, calls. -/
namespace Kz
open PySem PySem.Spec PyProof.Rows L2
section
variable {X : Cx} {B : RB}
/-! ### and, or, not, if -/
def zNot (t : ZT) : ZT := fun z Q => t z fun b z1 => Q (!b) z1
def zAnd (t u : ZT) : ZT := fun z Q => t z fun b z1 => if b = true then u z1 Q else Q false z1
def zOr (t u : ZT) : ZT := fun z Q => t z fun b z1 => if b = true then Q true z1 else u z1 Q
abbrev DW (X : Cx) (B : RB) (e : Expr) (t : ZT) : Prop := PW X e (tZT B t)
theorem z_not {a : Expr} {t : ZT} {pos : Pos} (h : DT X B a t) : DT X B (.UnaryOp .Not a pos) (zNot t) := pt_weak (pt_not h) fun σ H Q ⟨Y, Dh, z, Q', R, h, k⟩ =>
  ⟨Y, Dh, z, _, R, h, fun b z1 q H' D' S => k _ z1 q H' D' S⟩
theorem z_and1 {a : Expr} {t : ZT} {pos : Pos} (h : DT X B a t) : DW X B (.BoolOp .And [a] pos) t := pw_and1 h
theorem z_or1 {a : Expr} {t : ZT} {pos : Pos} (h : DT X B a t) : DW X B (.BoolOp .Or [a] pos) t := pw_or1 h
theorem z_and {a b : Expr} {rest : List Expr} {t u : ZT} {pos : Pos} (h : DT X B a t) (h2 : DW X B (.BoolOp .And (b :: rest) pos) u) : DW X B (.BoolOp .And (a :: b :: rest) pos) (zAnd t u) :=
  pw_weak (pw_and h h2) fun σ H Q ⟨Y, Dh, z, Q', R, h, k⟩ => ⟨Y, Dh, z, _, R, h, fun b z1 q H1 D1 S1 => by
    cases b with
    | true => exact ⟨Y, D1, z1, Q', S1.rel, q, fun b z' q H' D' S => k b z' q H' D' (S1.trans S)⟩
    | false => exact k false z1 q H1 D1 S1⟩
theorem z_or {a b : Expr} {rest : List Expr} {t u : ZT} {pos : Pos} (h : DT X B a t) (h2 : DW X B (.BoolOp .Or (b :: rest) pos) u) : DW X B (.BoolOp .Or (a :: b :: rest) pos) (zOr t u) :=
  pw_weak (pw_or h h2) fun σ H Q ⟨Y, Dh, z, Q', R, h, k⟩ => ⟨Y, Dh, z, _, R, h, fun b z1 q H1 D1 S1 => by
    cases b with
    | true => exact k true z1 q H1 D1 S1
    | false => exact ⟨Y, D1, z1, Q', S1.rel, q, fun b z' q H' D' S => k b z' q H' D' (S1.trans S)⟩⟩
def zAndV (t u : ZE) : ZE := fun z Q => t z fun d z1 => match d with
  | .bl b => if b = true then u z1 Q else Q (.bl false) z1
  | _ => False
def zOrV (t u : ZE) : ZE := fun z Q => t z fun d z1 => match d with
  | .bl b => if b = true then Q (.bl true) z1 else u z1 Q
  | _ => False
def zNotV (t : ZE) : ZE := fun z Q => t z fun d z1 => match d with
  | .bl b => Q (.bl (!b)) z1
  | _ => False
theorem z_one {op : BoolOp} {a : Expr} {t : ZE} {pos : Pos} (h : DE X B a t) : DE X B (.BoolOp op [a] pos) t := pe_one h
theorem z_andV {a b : Expr} {rest : List Expr} {t u : ZE} {pos : Pos} (h : DE X B a t) (h2 : DE X B (.BoolOp .And (b :: rest) pos) u) : DE X B (.BoolOp .And (a :: b :: rest) pos) (zAndV t u) :=
  pe_weak (pe_and h h2) fun σ H Q ⟨Y, Dh, z, Q', R, h, k⟩ => ⟨Y, Dh, z, _, R, h, fun d z1 q v H1 D1 S1 r1 => by
    cases d with
    | bl b =>
      refine ⟨b, r1.bl_, ?_⟩
      cases b with
      | true => exact ⟨Y, D1, z1, Q', S1.rel, q, fun d z' q v H' D' S r => k d z' q v H' D' (S1.trans S) r⟩
      | false => exact k (.bl false) z1 q _ H1 D1 S1 (Rp.mk_bl _)
    | _ => exact q.elim⟩
theorem z_orV {a b : Expr} {rest : List Expr} {t u : ZE} {pos : Pos} (h : DE X B a t) (h2 : DE X B (.BoolOp .Or (b :: rest) pos) u) : DE X B (.BoolOp .Or (a :: b :: rest) pos) (zOrV t u) :=
  pe_weak (pe_or h h2) fun σ H Q ⟨Y, Dh, z, Q', R, h, k⟩ => ⟨Y, Dh, z, _, R, h, fun d z1 q v H1 D1 S1 r1 => by
    cases d with
    | bl b =>
      refine ⟨b, r1.bl_, ?_⟩
      cases b with
      | false => exact ⟨Y, D1, z1, Q', S1.rel, q, fun d z' q v H' D' S r => k d z' q v H' D' (S1.trans S) r⟩
      | true => exact k (.bl true) z1 q _ H1 D1 S1 (Rp.mk_bl _)
    | _ => exact q.elim⟩
theorem z_notV {a : Expr} {t : ZE} {pos : Pos} (h : DE X B a t) : DE X B (.UnaryOp .Not a pos) (zNotV t) := pe_weak (pe_not h) fun σ H Q ⟨Y, Dh, z, Q', R, h, k⟩ =>
  ⟨Y, Dh, z, _, R, h, fun d z1 q v H' D' S r => by
    cases d with
    | bl b => exact ⟨b, r.bl_, k _ z1 q _ H' D' S (Rp.mk_bl _)⟩
    | _ => exact q.elim⟩
def zIf (c : ZT) (t u : ZE) : ZE := fun z Q => c z fun b z1 => if b = true then t z1 Q else u z1 Q
theorem z_if {c a b : Expr} {tc : ZT} {ta tb : ZE} {pos : Pos} (hc : DT X B c tc) (ha : DE X B a ta) (hb : DE X B b tb) : DE X B (.IfExp c a b pos) (zIf tc ta tb) :=
  pe_weak (pe_ifExp hc ha hb) fun σ H Q ⟨Y, Dh, z, Q', R, h, k⟩ => ⟨Y, Dh, z, _, R, h, fun b z1 q H1 D1 S1 => by
    cases b with
    | true => exact ⟨Y, D1, z1, Q', S1.rel, q, fun d z' q v H' D' S r => k d z' q v H' D' (S1.trans S) r⟩
    | false => exact ⟨Y, D1, z1, Q', S1.rel, q, fun d z' q v H' D' S r => k d z' q v H' D' (S1.trans S) r⟩⟩
/-! -i, is None -/
def zNeg (t : ZE) : ZE := fun z Q => t z fun d z1 => match d with
  | .int i => Q (.int (-i)) z1
  | _ => False
theorem z_neg {a : Expr} {t : ZE} {pos : Pos} (h : DE X B a t) : DE X B (.UnaryOp .USub a pos) (zNeg t) := pe_weak (pe_un un_neg h) fun σ H Q ⟨Y, Dh, z, Q', R, h, k⟩ =>
  ⟨Y, Dh, z, _, R, h, fun d z1 q v H' D' S r => by
    cases d with
    | int i => exact ⟨i, r.int_, k _ z1 q _ H' D' S (Rp.mk_int _)⟩
    | _ => exact q.elim⟩
def isNon : D → Bool
  | .non => true
  | _ => false
theorem rp_isNon {H : Hp} {d : D} {v : V} (h : Rp B H d v) : decide (v = .non) = isNon d := by
  cases d with
  | non => rw [h.non_]; rfl
  | bl b => rw [h.bl_]; rfl
  | int b => rw [h.int_]; rfl
  | str b => rw [h.str_]; rfl
  | lst ds => obtain ⟨a, xs, rfl, _⟩ := h.lst_; rfl
  | tup ds => obtain ⟨a, xs, rfl, _⟩ := h.tup_; rfl
  | dct ks ds => obtain ⟨a, xs, rfl, _⟩ := h.dct_; rfl
  | net m l => obtain ⟨a, dx, fs, u, rfl, _⟩ := h.net_; rfl
  | adr a => unfold Rp at h; subst h; rfl
  | fn a => unfold Rp at h; rw [h.1]; rfl
  | any => unfold Rp at h; obtain ⟨a, rfl⟩ := h; rfl
  | scr ns => unfold Rp at h; obtain ⟨a, rfl, _⟩ := h; rfl
def zIsN (neg : Bool) (t : ZE) : ZE := fun z Q => t z fun d z1 => Q (.bl (neg != isNon d)) z1
theorem z_isN {a : Expr} {j : Nat} {pos p2 : Pos} {t : ZE} (h : DE X B a t) : DE X B (.Compare a [.Is] [.Constant .none j p2] pos) (zIsN false t) :=
  pe_weak (pe_cmp (pc_isN h) rfl) fun σ H Q ⟨Y, Dh, z, Q', R, h, k⟩ => ⟨Y, Dh, z, _, R, h, fun d z1 q v H' D' S r => by
    show Q (V.bl (decide (v = V.non))) H'
    rw [rp_isNon r]; exact k _ z1 (by simpa [zIsN] using q) _ H' D' S (Rp.mk_bl _)⟩
theorem z_notN {a : Expr} {j : Nat} {pos p2 : Pos} {t : ZE} (h : DE X B a t) : DE X B (.Compare a [.IsNot] [.Constant .none j p2] pos) (zIsN true t) :=
  pe_weak (pe_cmp (pc_notN h) rfl) fun σ H Q ⟨Y, Dh, z, Q', R, h, k⟩ => ⟨Y, Dh, z, _, R, h, fun d z1 q v H' D' S r => by
    show Q (V.bl (!decide (v = V.non))) H'
    rw [rp_isNon r]; exact k _ z1 (by simpa [zIsN] using q) _ H' D' S (Rp.mk_bl _)⟩
theorem z_isNT {a : Expr} {j : Nat} {pos p2 : Pos} {t : ZE} (h : DE X B a t) : DT X B (.Compare a [.Is] [.Constant .none j p2] pos) (zB (zIsN false t)) :=
  pt_weak (pt_cmp (pc_isN h) rfl) fun σ H Q ⟨Y, Dh, z, Q', R, h, k⟩ => ⟨Y, Dh, z, _, R, h, fun d z1 q v H' D' S r => ⟨_, rfl, by
    rw [rp_isNon r]; exact k _ z1 (by simpa [zIsN] using q) H' D' S⟩⟩
theorem z_notNT {a : Expr} {j : Nat} {pos p2 : Pos} {t : ZE} (h : DE X B a t) : DT X B (.Compare a [.IsNot] [.Constant .none j p2] pos) (zB (zIsN true t)) :=
  pt_weak (pt_cmp (pc_notN h) rfl) fun σ H Q ⟨Y, Dh, z, Q', R, h, k⟩ => ⟨Y, Dh, z, _, R, h, fun d z1 q v H' D' S r => ⟨_, rfl, by
    rw [rp_isNon r]; exact k _ z1 (by simpa [zIsN] using q) H' D' S⟩⟩

/-! ### arguments, displays -/
def zNil : ZA := fun z Q => Q [] z
def zCons (t : ZE) (r : ZA) : ZA := fun z Q => t z fun d z1 => r z1 fun ds z2 => Q (d :: ds) z2
def zStar (t : ZE) (r : ZA) : ZA := fun z Q => t z fun d z1 => match d with
  | .lst xs => r z1 fun ds z2 => Q (xs ++ ds) z2
  | .tup xs => r z1 fun ds z2 => Q (xs ++ ds) z2
  | _ => False
theorem za_nil : DA X B [] zNil := pa_weak pa_nil fun σ H Q ⟨Y, Dh, z, Q', R, h, k⟩ => k [] z h [] H Dh (Step.refl R) RpA.mk_nil
theorem za_cons {e : Expr} {es : List Expr} {t : ZE} {r : ZA} (he : DE X B e t) (hr : DA X B es r) (hs : starEach (e :: es) X.env = (false, eval e X.env) :: starEach es X.env := by rfl) : DA X B (e :: es) (zCons t r) :=
  pa_weak (pa_cons he hr hs) fun σ H Q ⟨Y, Dh, z, Q', R, h, k⟩ => ⟨Y, Dh, z, _, R, h, fun d z1 h1 v H1 D1 S1 r1 => ⟨Y, D1, z1, _, S1.rel, h1, fun ds z2 h2 vs H2 D2 S2 r2 =>
    k _ z2 h2 _ H2 D2 (S1.trans S2) (RpA.mk_cons (Rp.mono S2.same _ _ r1) r2)⟩⟩
theorem za_star {e : Expr} {es : List Expr} {t : ZE} {r : ZA} {p : Pos} (he : DE X B e t) (hr : DA X B es r) (hs : starEach (.Starred e p :: es) X.env = (true, eval e X.env) :: starEach es X.env := by rfl) : DA X B (.Starred e p :: es) (zStar t r) :=
  pa_weak (StX.pa_star he hr hs) fun σ H Q ⟨Y, Dh, z, Q', R, h, k⟩ => ⟨Y, Dh, z, _, R, h, fun d z1 h1 v H1 D1 S1 r1 => by
    cases d with
    | lst xs =>
      obtain ⟨a, us, rfl, ha, ra⟩ := r1.lst_
      exact ⟨a, us, rfl, .inr (SqL.of (S1.rel.dat _ _ ha)), Y, D1, z1, _, S1.rel, h1, fun ds z2 h2 vs H2 D2 S2 r2 => k _ z2 h2 _ H2 D2 (S1.trans S2) (RpA.append (RpA.mono S2.same _ _ ra) r2)⟩
    | tup xs =>
      obtain ⟨a, us, rfl, ha, ra⟩ := r1.tup_
      exact ⟨a, us, rfl, .inl (SqT.of (S1.rel.dat _ _ ha)), Y, D1, z1, _, S1.rel, h1, fun ds z2 h2 vs H2 D2 S2 r2 => k _ z2 h2 _ H2 D2 (S1.trans S2) (RpA.append (RpA.mono S2.same _ _ ra) r2)⟩
    | _ => exact h1.elim⟩
def zLst (t : ZA) : ZM := fun z Q => t z fun ds z1 => ds.length ≤ sizeLine ∧ Q (.own (.lst ds)) z1
theorem z_lst {es : List Expr} {t : ZA} {pos : Pos} (h : DA X B es t) : DM X B (.List es pos) (zLst t) := pe_weak (pe_lst h) fun σ H Q ⟨Y, Dh, z, Q', R, h, k⟩ =>
  ⟨Y, Dh, z, _, R, h, fun ds z1 ⟨h0, h1⟩ vs H1 D1 S1 r1 => ⟨by rw [← r1.length]; exact h0, fun p hp =>
    k _ z1 h1 _ _ D1 (S1.trans (Step.aside S1.rel hp)) ⟨p, _, rfl, upd_same, S1.grow p hp, S1.rel.fresh hp |>.to (S1.rel.fresh hp).d (fun i o e => ⟨o, e⟩), vs, rfl, r1⟩⟩⟩
def zTup (t : ZA) : ZE := fun z Q => t z fun ds z1 => ds.length ≤ sizeLine ∧ Q (.tup ds) z1
theorem z_tup {es : List Expr} {x1 : Nat} {t : ZA} {pos : Pos} (h : DA X B es t) : DE X B (.Tuple es x1 pos) (zTup t) := pe_weak (pe_tup h) fun σ H Q ⟨Y, Dh, z, Q', R, h, k⟩ =>
  ⟨Y, Dh, z, _, R, h, fun ds z1 ⟨h0, h1⟩ vs H1 D1 S1 r1 => ⟨by rw [← r1.length]; exact h0, fun p hp => by
    have S2 := Step.laid (o := .tup vs) S1.rel hp
    exact k _ z1 h1 _ _ _ (S1.trans S2) (Rp.mk_tup upd_same (RpA.mono S2.same _ _ r1))⟩⟩
/-- {} -/
def zEmp : ZM := fun z Q => Q (.own (.dct [] [])) z
theorem z_emp {pos : Pos} : DM X B (.Dict [] [] pos) zEmp := pe_weak pe_dnewK fun σ H Q ⟨Y, Dh, z, Q', R, h, k⟩ => fun p hp =>
  k _ z h _ _ Dh (Step.aside R hp) ⟨p, _, rfl, upd_same, hp, (R.fresh hp).to (R.fresh hp).d (fun i o e => ⟨o, e⟩), [], rfl, rfl, RpA.mk_nil⟩

/-! ### subscripts -/
def dAt (ds : List D) (i : Int) : Option D := atI ds i
def zIx : ZR2 := fun x y z Q => match x, y with
  | .lst ds, .int i => ∃ d, atI ds i = some d ∧ Q d z
  | .tup ds, .int i => ∃ d, atI ds i = some d ∧ Q d z
  | _, _ => False
theorem rpa_at {H : Hp} {ds : List D} {xs : List V} {i : Int} {d : D} (r : RpA B H ds xs) (h : atI ds i = some d) : ∃ x, atI xs i = some x ∧ Rp B H d x := by
  unfold atI at h ⊢
  rw [← r.length]
  cases e : ixN ds.length i with
  | none => rw [e] at h; cases h
  | some j =>
    rw [e] at h
    exact r.get' h
theorem l_ix (hB : B.K = X.K) : Link B (rIx X.K) zIx := fun Y Dh z σ H x y v u Q' Q R rx ry h k => by
  cases x with
  | lst ds =>
    cases y with
    | int i =>
      obtain ⟨d, h1, h2⟩ := h
      obtain ⟨a, xs, rfl, ha, ra⟩ := rx.lst_
      obtain ⟨w, hw, rw'⟩ := rpa_at ra h1
      exact .inl ⟨a, xs, i, w, rfl, ry.int_, SqL.of (R.dat _ _ ha), hw, k _ z h2 _ H Dh (Step.refl R) rw'⟩
    | _ => exact h.elim
  | tup ds =>
    cases y with
    | int i =>
      obtain ⟨d, h1, h2⟩ := h
      obtain ⟨a, xs, rfl, ha, ra⟩ := rx.tup_
      obtain ⟨w, hw, rw'⟩ := rpa_at ra h1
      exact .inr (.inl ⟨a, xs, i, w, rfl, ry.int_, SqT.of (R.dat _ _ ha), hw, k _ z h2 _ H Dh (Step.refl R) rw'⟩)
    | _ => exact h.elim
  | _ => exact h.elim
theorem z_ix {a b : Expr} {ta tb : ZE} {pos : Pos} (ha : DE X B a ta) (hb : DE X B b tb) (hs : PlainIx b := by intro _ _; rfl) (hB : B.K = X.K := by rfl) : DE X B (.Subscript a b pos) (zBin zIx ta tb) :=
  pe_weak (pe_ix ix_seq ha hb hs) (link2 (l_ix hB))
/-- x[e], x a name whose object is its own -/
def zIxN (i : Nat) (tb : ZE) : ZE := fun z Q => match look z.e i with
  | some (.own _) => tb z fun y z1 => match look z1.e i, y with
    | some (.own (.lst ds)), .int j => ∃ d, atI ds j = some d ∧ Q d z1
    | _, _ => False
  | _ => False
theorem z_ixN (i : Nat) {x : Str} {b : Expr} {tb : ZE} {pos p : Pos} (hb : DE X B b tb) (hN : X.N[i]? = some x := by rfl) (hv : Vis X.env.scope x := by first | exact Or.inl rfl | exact Or.inr (Or.inl rfl) | exact Or.inr (Or.inr rfl)) (hs : PlainIx b := by intro _ _; rfl)
    (hd : (x == ("__debug__" : Str)) = false := by decide) (hcd : (x == ("__classdict__" : Str)) = false := by decide) (hB : B.K = X.K := by rfl) : DE X B (.Subscript (.Name x p) b pos) (zIxN i tb) :=
  pe_weak (pe_ix ix_list (pe_var hN hv hd hcd) hb hs) fun σ H Q ⟨Y, Dh, z, Q', R, h, k⟩ => by
    unfold zIxN at h
    split at h
    · rename_i o e0
      obtain ⟨p0, u0, s0, _⟩ := R.look_own e0
      refine ⟨_, s0, Y, Dh, z, _, R, h, fun y z1 h1 v H1 D1 S1 r1 => ?_⟩
      split at h1
      · rename_i ds j e1
        obtain ⟨d, h1, h2⟩ := h1
        obtain ⟨p1, u1, s1, hu, ob, _⟩ := S1.rel.look_own e1
        rw [s0] at s1; cases s1
        obtain ⟨xs, rfl, ra⟩ := ob
        obtain ⟨w, hw, rw'⟩ := rpa_at ra h1
        exact ⟨p0, xs, j, w, rfl, r1.int_, SqL.of hu, hw, k _ z1 h2 _ H1 D1 S1 rw'⟩
      · exact h1.elim
    · exact h.elim
/-- a slice of a list -/
def cutD (ds : List D) (lo hi : Option Int) : List D := (ds.drop (HT.sIx ds.length 0 lo)).take (HT.sIx ds.length ds.length hi - HT.sIx ds.length 0 lo)
abbrev ZO := Z → (Option Int → Z → Prop) → Prop
def tZO (B : RB) (t : ZO) : TO := fun σ H Q => ∃ Y Dh z Q', Rel B Y Dh z σ H ∧ t z Q' ∧ ∀ o z', Q' o z' → ∀ H' D', Step B Y Dh z σ H D' z' H' → Q o H'
def zNoP : ZO := fun z Q => Q none z
def zPt (t : ZE) : ZO := fun z Q => t z fun d z1 => match d with
  | .int i => Q (some i) z1
  | _ => False
theorem po_weak {e : Option Expr} {t t' : TO} (h : PO X e t) (k : ∀ σ H Q, t' σ H Q → t σ H Q) : PO X e t' := ⟨fun pins s σ H Q I hw => h.run pins s σ H Q I (k σ H Q hw)⟩
theorem zo_none : PO X none (tZO B zNoP) := po_weak po_none fun σ H Q ⟨Y, Dh, z, Q', R, h, k⟩ => k none z h H Dh (Step.refl R)
theorem zo_some {e : Expr} {t : ZE} (h : DE X B e t) : PO X (some e) (tZO B (zPt t)) := po_weak (po_some h) fun σ H Q ⟨Y, Dh, z, Q', R, h, k⟩ =>
  ⟨Y, Dh, z, _, R, h, fun d z1 q v H' D' S r => by
    cases d with
    | int i => exact ⟨i, r.int_, k _ z1 q H' D' S⟩
    | _ => exact q.elim⟩
def zCut (t : ZE) (lo hi : ZO) : ZM := fun z Q => t z fun d z1 => lo z1 fun l z2 => hi z2 fun u z3 => match d with
  | .lst ds => Q (.own (.lst (cutD ds l u))) z3
  | _ => False
theorem z_cut {e : Expr} {lo hi : Option Expr} {t : ZE} {tl th : ZO} {pos p2 : Pos} (he : DE X B e t) (hl : PO X lo (tZO B tl)) (hh : PO X hi (tZO B th)) (hB : B.K = X.K := by rfl) : DM X B (.Subscript e (.Slice lo hi none p2) pos) (zCut t tl th) :=
  pe_weak (pe_slice sl_list he hl hh) fun σ H Q ⟨Y, Dh, z, Q', R, h, k⟩ => ⟨Y, Dh, z, _, R, h, fun d z1 h1 v H1 D1 S1 r1 => ⟨Y, D1, z1, _, S1.rel, h1, fun l z2 h2 H2 D2 S2 => ⟨Y, D2, z2, _, S2.rel, h2, fun u z3 h3 H3 D3 S3 => by
    cases d with
    | lst ds =>
      obtain ⟨a, xs, rfl, ha, ra⟩ := r1.lst_
      have ha3 := S3.rel.dat _ _ (S3.same _ _ (S2.same _ _ ha))
      have ra3 := RpA.mono S3.same _ _ (RpA.mono S2.same _ _ ra)
      refine ⟨a, xs, rfl, SqL.of ha3, fun p hp => ?_⟩
      have f := S3.rel.fresh hp
      refine k _ z3 h3 _ _ D3 (((S1.trans S2).trans S3).trans (Step.aside S3.rel hp)) ⟨p, _, rfl, upd_same, S1.grow p (S2.grow p (S3.grow p hp)), f.to f.d (fun i o e => ⟨o, e⟩), _, rfl, ?_⟩
      unfold cutV cutD
      rw [ra.length]
      exact RpA.take _ (RpA.drop _ ra3)
    | _ => exact h3.elim⟩⟩⟩
/-! ### lists: +, * -/
def zCat (ta tb : ZE) : ZM := fun z Q => ta z fun x z1 => tb z1 fun y z2 => match x, y with
  | .lst a, .lst b => a.length + b.length ≤ sizeLine ∧ Q (.own (.lst (a ++ b))) z2
  | _, _ => False
theorem z_cat {a b : Expr} {ta tb : ZE} {pos : Pos} (ha : DE X B a ta) (hb : DE X B b tb) : DM X B (.BinOp a .Add b pos) (zCat ta tb) :=
  pe_weak (pe_op op_cat ha hb) fun σ H Q ⟨Y, Dh, z, Q', R, h, k⟩ => ⟨Y, Dh, z, _, R, h, fun x z1 h1 v H1 D1 S1 r1 => ⟨Y, D1, z1, _, S1.rel, h1, fun y z2 h2 u H2 D2 S2 r2 => by
    cases x with
    | lst ds =>
      cases y with
      | lst es =>
        obtain ⟨h0, h2⟩ := h2
        obtain ⟨p1, xs, rfl, hp1, ra⟩ := r1.lst_
        obtain ⟨p2, ys, rfl, hp2, rb⟩ := r2.lst_
        refine ⟨p1, p2, xs, ys, rfl, rfl, S2.rel.dat _ _ (S2.same _ _ hp1), S2.rel.dat _ _ hp2, by rw [← ra.length, ← rb.length]; exact h0, fun p hp => ?_⟩
        have f := S2.rel.fresh hp
        exact k _ z2 h2 _ _ D2 ((S1.trans S2).trans (Step.aside S2.rel hp)) ⟨p, _, rfl, upd_same, S1.grow p (S2.grow p hp), f.to f.d (fun i o e => ⟨o, e⟩), _, rfl, RpA.append (RpA.mono S2.same _ _ ra) rb⟩
      | _ => exact h2.elim
    | _ => exact h2.elim⟩⟩
end
end Kz

set_option Elab.async false
set_option linter.all false
set_option maxRecDepth 100000
set_option maxHeartbeats 4000000
set_option autoImplicit false
/-! Statements over data; defs, their promises, calls. -/
namespace Kz
open PySem PySem.Spec PyProof.Rows L2

/-! ### what a def promises -/
abbrev ZF := List D → Wd → (SV → Wd → Prop) → Prop
/-- a value that is handed back: data, or an object that is nobody's -/
def VB (B : RB) (Y : RC) (D H : Hp) : SV → V → Prop
  | .dat d, v => Rp B D d v
  | .own o, v => ∃ p u, v = .ref p ∧ H p = some u ∧ D p = none ∧ Y.H0 p = none ∧ Off Y p ∧ ObR B D o u
  | .bor _ _, _ => False
def spZ (B : RB) (F : ZF) : Sp := fun vs H Q _ => ∃ Y Dh ds w Q', Rel B Y Dh ⟨[], w⟩ [] H ∧ RpA B Dh ds vs ∧ F ds w Q' ∧
  ∀ d w', Q' d w' → ∀ v H' D', Rel B Y D' ⟨[], w'⟩ [] H' → Same Dh D' → (∀ p, H' p = none → H p = none) → VB B Y D' H' d v → Q v H'
section
variable {B : RB} {Y : RC} {D D' : Hp} {z : Z} {σ : L2.St} {H H' : Hp}
theorem Rel.bare (R : Rel B Y D z σ H) : Rel B Y D ⟨[], z.w⟩ [] H := ⟨R.keep, R.dat, R.dom, R.wr, rfl, fun i s e => by simp at e, fun i j o o' p e => by simp at e⟩
/-- the surroundings of a callee -/
def callee (Y : RC) (D H : Hp) : RC := ⟨Y.sa, Y.ga, Y.ta, Y.tq, Y.on, fun b => if Y.on = true ∧ (b = Y.sa ∨ b = Y.ga ∨ b = Y.ta) then none else H b, D⟩
theorem callee_rel (R : Rel B Y D z σ H) : Rel B (callee Y D H) D ⟨[], z.w⟩ [] H := by
  refine ⟨fun b o e => ?_, R.dat, fun b h => .inl h, ⟨R.wr.s, R.wr.g, R.wr.ds, R.wr.dg, fun h => ?_, fun h => ?_, R.wr.ne, R.wr.t, R.wr.dt, fun h => ?_, R.wr.a, R.wr.tb⟩, rfl, fun i s e => by simp at e, fun i j o o' p e => by simp at e⟩
  · have e' : (if Y.on = true ∧ (b = Y.sa ∨ b = Y.ga ∨ b = Y.ta) then none else H b) = some o := e
    split at e'
    · cases e'
    · exact e'
  · exact if_pos ⟨h, .inl rfl⟩
  · exact if_pos ⟨h, .inr (.inl rfl)⟩
  · exact if_pos ⟨h, .inr (.inr rfl)⟩
theorem callee_step {w' : Wd} (R : Rel B Y D z σ H) (R' : Rel B (callee Y D H) D' ⟨[], w'⟩ [] H') (s : Same D D') (g : ∀ p, H' p = none → H p = none) : Step B Y D z σ H D' ⟨z.e, w'⟩ H' := by
  have off : ∀ b, ¬ (Y.on = true ∧ (b = Y.sa ∨ b = Y.ga ∨ b = Y.ta)) → (callee Y D H).H0 b = H b := fun b h => if_neg h
  have kk : ∀ b o, H b = some o → Off Y b → H' b = some o := fun b o e n => R'.keep b o (by
    rw [off b fun h => h.2.elim (n h.1).1 fun q => q.elim (n h.1).2.1 (n h.1).2.2]; exact e)
  have new : ∀ b, D' b ≠ none → D b ≠ none ∨ H b = none := fun b hb => by
    rcases R'.dom b hb with x | x
    · exact .inl x
    · by_cases h : Y.on = true ∧ (b = Y.sa ∨ b = Y.ga ∨ b = Y.ta)
      · exfalso
        rcases h.2 with q | q | q
        · exact hb (by rw [q]; exact R'.wr.ds h.1)
        · exact hb (by rw [q]; exact R'.wr.dg h.1)
        · exact hb (by rw [q]; exact R'.wr.dt h.1)
      · rw [off b h] at x; exact .inr x
  refine ⟨R.more s kk R'.dat new ⟨R'.wr.s, R'.wr.g, R'.wr.ds, R'.wr.dg, R.wr.hs, R.wr.hg, R.wr.ne, R'.wr.t, R'.wr.dt, R.wr.ht, R'.wr.a, R.wr.tb⟩, s, g, fun p u h f => ⟨kk p u h f.off, f.to ?_ fun i o e => ⟨o, e⟩⟩⟩
  cases x : D' p with
  | none => rfl
  | some y =>
    rcases new p (by rw [x]; simp) with q | q
    · exact (q f.d).elim
    · rw [h] at q; cases q
end
/-- the module's name x is a def that keeps F -/
structure ZDef (P : Program) (w : World) (K : PySem.W.Frag) (mg : Str → Option Value) (base : Heap) (B : RB) (x : Str) (k : Nat) (F : ZF) : Prop where
  ex : ∃ f fd ps, FnOk P w K mg base CX0 k f fd ps (spZ B F) ∧ mg x = some (.ref f) ∧ PySem.W.keepIn K (.ref f) = true ∧ Binds K fd ps []
theorem ZDef.mono {P : Program} {w : World} {K : PySem.W.Frag} {mg : Str → Option Value} {base : Heap} {B : RB} {x : Str} {j k : Nat} {F : ZF} (h : ZDef P w K mg base B x j F) (l : j ≤ k) : ZDef P w K mg base B x k F :=
  let ⟨f, fd, ps, G, a, b, c⟩ := h.ex; ⟨f, fd, ps, G.mono l, a, b, c⟩
section
variable {X : Cx} {B : RB}
theorem VB.vr {Y : RC} {D Dh H H' : Hp} {z : Z} {w' : Wd} {σ : L2.St} {s : SV} {v : V} (R : Rel B Y D z σ H) (r : VB B (callee Y D H) Dh H' s v) : VR B Y Dh ⟨z.e, w'⟩ σ H H' s v := by
  cases s with
  | dat d => exact r
  | own o =>
    obtain ⟨p, u, rfl, hp, hd, hh, off, ob⟩ := r
    have off' : Off Y p := off
    have e : H p = none := by
      have h2 : (if Y.on = true ∧ (p = Y.sa ∨ p = Y.ga ∨ p = Y.ta) then none else H p) = none := hh
      rw [if_neg fun h => h.2.elim (off' h.1).1 fun q => q.elim (off' h.1).2.1 (off' h.1).2.2] at h2
      exact h2
    exact ⟨p, u, rfl, hp, e, ⟨hd, (R.fresh e).h, off', (R.fresh e).own⟩, ob⟩
  | bor d x => exact r.elim
def zCall (F : ZF) (t : ZA) : ZM := fun z Q => t z fun ds z1 => F ds z1.w fun d w' => Q d ⟨z1.e, w'⟩
theorem z_call {x : Str} {k : Nat} {F : ZF} {e : Expr} {es : List Expr} {t : ZA} {p pos : Pos} (G : ZDef X.prog X.w X.K X.mg X.base B x k F) (hr : Room k X.A) (hg : Gl X x) (ha : DA X B (e :: es) t)
    (hdb : (x == ("__debug__" : Str)) = false := by decide) (he : starEach (e :: es) X.env = (false, eval e X.env) :: starEach es X.env := by rfl) (hpl : (backTo pos (starEach es X.env)).any (·.1) = false := by rfl) :
    DM X B (.Call (.Name x p) (e :: es) [] pos) (zCall F t) := by
  obtain ⟨f, fd, ps, G, hm, hk, hb⟩ := G.ex
  exact pe_weak (pe_call G hr hg hm hk hb .nil pass0 ha hdb he hpl) fun σ H Q ⟨Y, Dh, z, Q', R, h, k⟩ => ⟨Y, Dh, z, _, R, h, fun ds z1 h1 vs H1 D1 S1 r1 => by
    show spZ B F (vs ++ []) H1 Q _
    rw [List.append_nil]
    exact ⟨callee Y D1 H1, D1, ds, z1.w, _, callee_rel S1.rel, r1, h1, fun d w' q v H' D' R' s g rp => k d _ q v H' D' (S1.trans (callee_step S1.rel R' s g)) (by
      have r := rp.vr (w' := w') S1.rel
      cases d with
      | dat d => exact r
      | own o =>
        obtain ⟨p, u, e1, e2, e3, e4⟩ := r
        exact ⟨p, u, e1, e2, S1.grow p e3, e4⟩
      | bor d x => exact r.elim)⟩⟩
end

/-! ### statements -/
structure ZEnds where
  nx : Z → Prop
  rt : SV → Z → Prop
  bk : Z → Prop := fun _ => False
  ct : Z → Prop := fun _ => False
abbrev ZS := ZEnds → Z → Prop
structure Stp (B : RB) (Y : RC) (D H D' : Hp) (z' : Z) (σ' : L2.St) (H' : Hp) : Prop where
  rel : Rel B Y D' z' σ' H'
  same : Same D D'
  grow : ∀ p, H' p = none → H p = none
structure EndsOk (B : RB) (Y : RC) (D H : Hp) (E : ZEnds) (T : Ends) : Prop where
  nx : ∀ z', E.nx z' → ∀ σ' H' D', Stp B Y D H D' z' σ' H' → T.nx σ' H'
  rt : ∀ d z', E.rt d z' → ∀ v σ' H' D', Stp B Y D H D' z' σ' H' → VB B Y D' H' d v → T.rt v H'
  bk : ∀ z', E.bk z' → ∀ σ' H' D', Stp B Y D H D' z' σ' H' → T.bk σ' H'
  ct : ∀ z', E.ct z' → ∀ σ' H' D', Stp B Y D H D' z' σ' H' → T.ct σ' H'
def tZS (B : RB) (t : ZS) : TS := fun T σ H => ∃ Y D z E, Rel B Y D z σ H ∧ t E z ∧ EndsOk B Y D H E T
abbrev DS (X : Cx) (B : RB) (st : Stmt) (t : ZS) : Prop := PS X st (tZS B t)
abbrev DSs (X : Cx) (B : RB) (st : List Stmt) (t : ZS) : Prop := PSs X st (tZS B t)
section
variable {X : Cx} {B : RB}
theorem Stp.refl {Y : RC} {D H : Hp} {z : Z} {σ : L2.St} (R : Rel B Y D z σ H) : Stp B Y D H D z σ H := ⟨R, Same.refl _, fun _ h => h⟩
theorem Step.stp {Y : RC} {D H D' H' : Hp} {z z' : Z} {σ : L2.St} (S : Step B Y D z σ H D' z' H') : Stp B Y D H D' z' σ H' := ⟨S.rel, S.same, S.grow⟩
theorem Stp.trans {Y : RC} {D H D' H' D2 H2 : Hp} {z z' : Z} {σ σ' : L2.St} (a : Stp B Y D H D' z σ H') (b : Stp B Y D' H' D2 z' σ' H2) : Stp B Y D H D2 z' σ' H2 := ⟨b.rel, a.same.trans b.same, fun p h => a.grow p (b.grow p h)⟩
theorem EndsOk.from {Y : RC} {D H D1 H1 : Hp} {E : ZEnds} {T : Ends} {z : Z} {σ : L2.St} (k : EndsOk B Y D H E T) (a : Stp B Y D H D1 z σ H1) : EndsOk B Y D1 H1 E T :=
  ⟨fun z' q σ' H' D' S => k.nx z' q σ' H' D' (a.trans S), fun d z' q v σ' H' D' S r => k.rt d z' q v σ' H' D' (a.trans S) r, fun z' q σ' H' D' S => k.bk z' q σ' H' D' (a.trans S), fun z' q σ' H' D' S => k.ct z' q σ' H' D' (a.trans S)⟩
theorem ps_weak {st : Stmt} {t t' : TS} (h : PS X st t) (k : ∀ T σ H, t' T σ H → t T σ H) : PS X st t' := ⟨fun pins s σ H T I hw => h.run pins s σ H T I (k T σ H hw)⟩
theorem pss_weak {st : List Stmt} {t t' : TS} (h : PSs X st t) (k : ∀ T σ H, t' T σ H → t T σ H) : PSs X st t' := ⟨fun pins s σ H T I hw => h.run pins s σ H T I (k T σ H hw)⟩
def zNext : ZS := fun E z => E.nx z
def zSeq (t u : ZS) : ZS := fun E z => t { E with nx := u E } z
theorem zs_nil : DSs X B [] zNext := pss_weak pss_nil fun T σ H ⟨Y, D, z, E, R, h, k⟩ => k.nx z h σ H D (Stp.refl R)
theorem zs_cons {st : Stmt} {rest : List Stmt} {t u : ZS} (h1 : DS X B st t) (h2 : DSs X B rest u) : DSs X B (st :: rest) (zSeq t u) :=
  pss_weak (pss_cons h1 h2) fun T σ H ⟨Y, D, z, E, R, h, k⟩ => ⟨Y, D, z, _, R, h, ⟨fun z' q σ' H' D' S => ⟨Y, D', z', E, S.rel, q, k.from S⟩, k.rt, k.bk, k.ct⟩⟩
theorem zs_one {st : Stmt} {t : ZS} (h1 : DS X B st t) : DSs X B [st] t := pss_one h1
def zNever : ZS := fun _ _ => False
theorem zs_never {st : Stmt} : DS X B st zNever := ps_weak ps_never fun T σ H ⟨Y, D, z, E, R, h, k⟩ => h.elim
def zPass : ZS := fun E z => E.nx z
theorem zs_pass {pos : Pos} : DS X B (.Pass pos) zPass := ps_weak ps_pass fun T σ H ⟨Y, D, z, E, R, h, k⟩ => k.nx z h σ H D (Stp.refl R)
def zRet (t : ZE) : ZS := fun E z => t z fun d z' => E.rt (.dat d) z'
theorem zs_ret {e : Expr} {t : ZE} {pos : Pos} (h : DE X B e t) : DS X B (.Return (some e) pos) (zRet t) := ps_weak (ps_ret h) fun T σ H ⟨Y, D, z, E, R, h, k⟩ =>
  ⟨Y, D, z, _, R, h, fun d z' q v H' D' S r => k.rt (.dat d) z' q v σ H' D' S.stp r⟩
/-- return of what is new -/
def zRetM (t : ZM) : ZS := fun E z => t z fun d z' => E.rt d z'
theorem zs_retM {e : Expr} {t : ZM} {pos : Pos} (h : DM X B e t) : DS X B (.Return (some e) pos) (zRetM t) := ps_weak (ps_ret h) fun T σ H ⟨Y, D, z, E, R, h, k⟩ =>
  ⟨Y, D, z, _, R, h, fun d z' q v H' D' S r => k.rt d z' q v σ H' D' S.stp (by
    cases d with
    | dat d => exact r
    | own o =>
      obtain ⟨p, u, e1, e2, e3, F, ob⟩ := r
      exact ⟨p, u, e1, e2, F.d, F.h, F.off, ob⟩
    | bor d x => exact r.elim)⟩
/-- return of a name's own object -/
def zRetO (i : Nat) : ZS := fun E z => match look z.e i with
  | some (.own o) => E.rt (.own o) z
  | _ => False
theorem zs_retO (i : Nat) {x : Str} {pos p : Pos} (hN : X.N[i]? = some x := by rfl) (hv : Vis X.env.scope x := by first | exact Or.inl rfl | exact Or.inr (Or.inl rfl) | exact Or.inr (Or.inr rfl)) (hd : (x == ("__debug__" : Str)) = false := by decide)
    (hcd : (x == ("__classdict__" : Str)) = false := by decide) : DS X B (.Return (some (.Name x p)) pos) (zRetO i) := ps_weak (ps_ret (pe_var hN hv hd hcd)) fun T σ H ⟨Y, D, z, E, R, h, k⟩ => by
  unfold zRetO at h
  split at h
  · rename_i o e
    obtain ⟨v, h1, p, u, h2, h3, h4, h5, h6, h7⟩ := R.slot i _ (look_some e)
    exact ⟨.ref p, by rw [h1, h2], k.rt _ z h _ σ H D (Stp.refl R) ⟨p, u, rfl, h3, h5, h6, h7, h4⟩⟩
  · exact h.elim
def zIfS (c : ZT) (t u : ZS) : ZS := fun E z => c z fun b z1 => if b = true then t E z1 else u E z1
theorem zs_if {c : Expr} {a b : List Stmt} {tc : ZT} {t u : ZS} {pos : Pos} (hc : DT X B c tc) (ha : DSs X B a t) (hb : DSs X B b u) : DS X B (.If c a b pos) (zIfS tc t u) :=
  ps_weak (ps_if hc ha hb) fun T σ H ⟨Y, D, z, E, R, h, k⟩ => ⟨Y, D, z, _, R, h, fun b z1 q H1 D1 S1 => by
    cases b with
    | true => exact ⟨Y, D1, z1, E, S1.rel, q, k.from S1.stp⟩
    | false => exact ⟨Y, D1, z1, E, S1.rel, q, k.from S1.stp⟩⟩
/-- a statement of an expression -/
def zDrop (t : ZE) : ZS := fun E z => t z fun _ z' => E.nx z'
theorem zs_expr {e : Expr} {t : ZE} {pos : Pos} (h : DE X B e t) (hs : swapsWith e none pos.line X.env = pure false := by rfl) : DS X B (.Expr e pos) (zDrop t) := ps_weak (ps_expr h hs) fun T σ H ⟨Y, D, z, E, R, h, k⟩ =>
  ⟨Y, D, z, _, R, h, fun d z' q v H' D' S r => k.nx z' q σ H' D' S.stp⟩
/-- name = e -/
def zSet (i : Nat) (t : ZM) : ZS := fun E z => t z fun s z1 => E.nx ⟨z1.e.set i (some s), z1.w⟩
theorem Rel.setVR {Y : RC} {D Hs H : Hp} {z : Z} {σ : L2.St} {i : Nat} {s : SV} {v : V} (R : Rel B Y D z σ H) (r : VR B Y D z σ Hs H s v) : Rel B Y D ⟨z.e.set i (some s), z.w⟩ (σ.set i (some v)) H := by
  cases s with
  | dat d => exact R.setDat r
  | own o =>
    obtain ⟨p, u, rfl, hp, hn, F, ob⟩ := r
    exact R.setOwn F hp ob
  | bor d x => exact r.elim
theorem zs_set {i : Nat} {x : Str} {e : Expr} {t : ZM} {pos pos' : Pos} (h : DM X B e t) (hN : X.N.Nodup) (hi : X.N[i]? = some x := by rfl) (hx : Loc X.env.scope x := by first | exact Or.inl rfl | exact Or.inr rfl) (hs : swapsWith e (some (.Name x pos')) pos.line X.env = pure false := by rfl)
    (hf : X.fn x = true ∨ X.env.scope.names.lookup x = some .local := by first | exact .inl rfl | exact .inr rfl | assumption) : DS X B (.Assign [.Name x pos'] e pos) (zSet i t) :=
  ps_weak (ps_set (i := i) hN hi hx h hs hf) fun T σ H ⟨Y, D, z, E, R, h, k⟩ => ⟨Y, D, z, _, R, h, fun s z1 q v H1 D1 S1 r1 => k.nx _ q _ H1 D1 ⟨S1.rel.setVR r1, S1.same, S1.grow⟩⟩
/-- a, b = e1, e2 -/
def zPar (i j : Nat) (t u : ZM) : ZS := fun E z => t z fun s1 z1 => u z1 fun s2 z2 => E.nx ⟨(z2.e.set i (some s1)).set j (some s2), z2.w⟩
theorem VR.step {Y : RC} {D Hs H D' H' : Hp} {z z' : Z} {σ : L2.St} {s : SV} {v : V} (r : VR B Y D z σ Hs H s v) (S : Step B Y D z σ H D' z' H') : VR B Y D' z' σ Hs H' s v := by
  cases s with
  | dat d => exact Rp.mono S.same _ _ r
  | own o =>
    obtain ⟨p, u, rfl, hp, hn, F, ob⟩ := r
    obtain ⟨h1, f1⟩ := S.fr p u hp F
    exact ⟨p, u, rfl, h1, hn, f1, ob.mono S.same⟩
  | bor d x => exact r.elim
theorem VR.set {Y : RC} {D Hs H : Hp} {z : Z} {σ : L2.St} {s s2 : SV} {v v2 : V} {i : Nat} (r : VR B Y D z σ Hs H s v) (ne : ∀ o o2 p, s = .own o → s2 = .own o2 → v2 = .ref p → v ≠ .ref p) : VR B Y D ⟨z.e.set i (some s2), z.w⟩ (σ.set i (some v2)) Hs H s v := by
  cases s with
  | dat d => exact r
  | own o =>
    obtain ⟨p, u, rfl, hp, hn, F, ob⟩ := r
    refine ⟨p, u, rfl, hp, hn, ⟨F.d, F.h, F.off, fun j oj e q => ?_⟩, ob⟩
    by_cases x : i = j
    · subst x
      have lt : i < z.e.length := by
        have := (List.getElem?_eq_some_iff.mp e).1
        rwa [List.length_set] at this
      rw [List.getElem?_set_self lt] at e
      have lt2 : i < σ.length := by
        have := (List.getElem?_eq_some_iff.mp q).1
        rwa [List.length_set] at this
      rw [List.getElem?_set_self lt2] at q
      cases e
      cases q
      exact ne o oj p rfl rfl rfl rfl
    · rw [List.getElem?_set_ne x] at e q
      exact F.own j oj e q
  | bor d x => exact r.elim
theorem zs_par {i j : Nat} {x y : Str} {a b : Expr} {t u : ZM} {px py pt : Pos} {kt k2 : Nat} {pt2 pos : Pos} (ha : DM X B a t) (hb : DM X B b u) (hN : X.N.Nodup) (hc : X.calm = true := by rfl) (hi : X.N[i]? = some x := by rfl) (hj : X.N[j]? = some y := by rfl) (hij : i ≠ j := by decide)
    (hx : X.env.scope.names.lookup x = some .local := by rfl) (hy : X.env.scope.names.lookup y = some .local := by rfl)
    (hw : swappedStores [.Tuple [.Name x px, .Name y py] kt pt] (.Tuple [a, b] k2 pt2) X.env = pure (some [x, y]) := by rfl)
    (hs : swapsWithSole [.Tuple [.Name x px, .Name y py] kt pt] (.Tuple [a, b] k2 pt2) pos.line X.env = pure false := by rfl)
    (s1 : starEach (a :: [b]) X.env = (false, eval a X.env) :: starEach [b] X.env := by rfl) (s2 : starEach (b :: []) X.env = (false, eval b X.env) :: starEach [] X.env := by rfl) :
    DS X B (.Assign [.Tuple [.Name x px, .Name y py] kt pt] (.Tuple [a, b] k2 pt2) pos) (zPar i j t u) :=
  ps_weak (ps_par (i := i) (j := j) hc hN hi hj hij hx hy (pa_cons ha (pa_cons hb pa_nil s2) s1) hw hs) fun T σ H ⟨Y, D, z, E, R, h, k⟩ => ⟨Y, D, z, _, R, h, fun sv1 z1 h1 v1 H1 D1 S1 r1 => ⟨Y, D1, z1, _, S1.rel, h1, fun sv2 z2 h2 v2 H2 D2 S2 r2 => ⟨v1, v2, rfl, by
    have r1' := r1.step S2
    refine k.nx _ h2 _ H2 D2 ⟨?_, S1.same.trans S2.same, fun p h => S1.grow p (S2.grow p h)⟩
    have A := S2.rel.setVR (i := i) r1'
    refine A.setVR (Hs := H1) (r2.set fun o2 o1 p e0 e1 e2 => ?_)
    subst e0 e1 e2
    intro e
    subst e
    obtain ⟨p1, u1, q1, hp1, _⟩ := r1
    cases q1
    obtain ⟨p2, u2, q2, hp2, hn2, _⟩ := r2
    cases q2
    rw [hp1] at hn2; cases hn2⟩⟩⟩
end
end Kz

set_option Elab.async false
set_option linter.all false
set_option maxRecDepth 100000
set_option maxHeartbeats 4000000
set_option autoImplicit false
/-! Targets, what is walked, loops, comprehensions over data. -/
namespace Kz
open PySem PySem.Spec PyProof.Rows L2

/-- as Step, where names take data -/
structure GStep (B : RB) (Y : RC) (D : Hp) (z : Z) (σ : L2.St) (H : Hp) (D' : Hp) (z' : Z) (σ' : L2.St) (H' : Hp) : Prop where
  rel : Rel B Y D' z' σ' H'
  same : Same D D'
  grow : ∀ p, H' p = none → H p = none
  fr : ∀ p u, H p = some u → Fresh Y D z σ H p → H' p = some u ∧ Fresh Y D' z' σ' H' p
section
variable {B : RB} {Y : RC} {D D' D2 : Hp} {z z' z2 : Z} {σ σ' σ2 : L2.St} {H H' H2 : Hp} {p : Addr}
theorem Step.g (a : Step B Y D z σ H D' z' H') : GStep B Y D z σ H D' z' σ H' := ⟨a.rel, a.same, a.grow, a.fr⟩
theorem GStep.trans (a : GStep B Y D z σ H D' z' σ' H') (b : GStep B Y D' z' σ' H' D2 z2 σ2 H2) : GStep B Y D z σ H D2 z2 σ2 H2 :=
  ⟨b.rel, a.same.trans b.same, fun p h => a.grow p (b.grow p h), fun p u h f => let ⟨h1, f1⟩ := a.fr p u h f; b.fr p u h1 f1⟩
theorem GStep.stp (a : GStep B Y D z σ H D' z' σ' H') : Stp B Y D H D' z' σ' H' := ⟨a.rel, a.same, a.grow⟩
theorem GStep.setDat {i : Nat} {d : Kz.D} {v : V} (R : Rel B Y D z σ H) (hd : Rp B D d v) : GStep B Y D z σ H D ⟨z.e.set i (some (.dat d)), z.w⟩ (σ.set i (some v)) H := by
  refine ⟨R.setDat hd, Same.refl _, fun _ h => h, fun p u h f => ⟨h, f.d, f.h, f.off, fun j o e q => ?_⟩⟩
  by_cases x : i = j
  · subst x
    have lt : i < z.e.length := by
      have := (List.getElem?_eq_some_iff.mp e).1
      rwa [List.length_set] at this
    rw [List.getElem?_set_self lt] at e
    cases e
  · rw [List.getElem?_set_ne x] at e q
    exact f.own j o e q
end
abbrev ZG := D → Z → (Z → Prop) → Prop
/-- the slots are as they were outside of these -/
def Out (is : List Nat) (σ σ' : L2.St) : Prop := σ'.length = σ.length ∧ ∀ j, j ∉ is → σ'[j]? = σ[j]?
theorem Out.refl (is : List Nat) (σ : L2.St) : Out is σ σ := ⟨rfl, fun _ _ => rfl⟩
theorem Out.trans {is js : List Nat} {σ σ1 σ2 : L2.St} (a : Out is σ σ1) (b : Out js σ1 σ2) : Out (is ++ js) σ σ2 :=
  ⟨b.1.trans a.1, fun j h => (b.2 j fun m => h (List.mem_append_right _ m)).trans (a.2 j fun m => h (List.mem_append_left _ m))⟩
theorem Out.set (i : Nat) (σ : L2.St) (v : Option V) : Out [i] σ (σ.set i v) := ⟨List.length_set, fun j h => List.getElem?_set_ne fun e => h (by rw [e]; exact List.mem_singleton.mpr rfl)⟩
abbrev ZGs := List D → Z → (Z → Prop) → Prop
def tZG (B : RB) (is : List Nat) (t : ZG) : TG := fun v σ H Q => ∃ Y D z d Q', Rel B Y D z σ H ∧ Rp B D d v ∧ t d z Q' ∧ ∀ z', Q' z' → ∀ σ' H' D', GStep B Y D z σ H D' z' σ' H' → Out is σ σ' → Q σ' H'
def tZGs (B : RB) (is : List Nat) (t : ZGs) : TGs := fun vs σ H Q => ∃ Y D z ds Q', Rel B Y D z σ H ∧ RpA B D ds vs ∧ t ds z Q' ∧ ∀ z', Q' z' → ∀ σ' H' D', GStep B Y D z σ H D' z' σ' H' → Out is σ σ' → Q σ' H'
abbrev DG (X : Cx) (B : RB) (is : List Nat) (e : Expr) (t : ZG) : Prop := PG X e (tZG B is t)
abbrev DGs (X : Cx) (B : RB) (is : List Nat) (es : List Expr) (t : ZGs) : Prop := PGs X es (tZGs B is t)
section
variable {X : Cx} {B : RB}
theorem pg_weak {e : Expr} {t t' : TG} (h : PG X e t) (k : ∀ v σ H Q, t' v σ H Q → t v σ H Q) : PG X e t' := ⟨fun pins s σ H v u Q I r hw => h.run pins s σ H v u Q I r (k v σ H Q hw)⟩
theorem pgs_weak {es : List Expr} {t t' : TGs} (h : PGs X es t) (k : ∀ v σ H Q, t' v σ H Q → t v σ H Q) : PGs X es t' := ⟨fun pins s σ H v u Q I r hw => h.run pins s σ H v u Q I r (k v σ H Q hw)⟩
def zgN (i : Nat) : ZG := fun d z Q => Q ⟨z.e.set i (some (.dat d)), z.w⟩
theorem zg_name (i : Nat) {x : Str} {pos : Pos} (hN : X.N.Nodup) (hi : X.N[i]? = some x := by rfl) (hx : Loc X.env.scope x := by first | exact Or.inl rfl | exact Or.inr rfl) (hf : X.fn x = true ∨ X.env.scope.names.lookup x = some .local := by first | exact .inl rfl | exact .inr rfl | assumption) : DG X B [i] (.Name x pos) (zgN i) :=
  pg_weak (pg_name (i := i) hN hi hx hf) fun v σ H Q ⟨Y, D, z, d, Q', R, r, h, k⟩ => k _ h _ H D (GStep.setDat R r) (Out.set _ _ _)
def zgNil : ZGs := fun ds z Q => ds = [] ∧ Q z
def zgCons (t : ZG) (u : ZGs) : ZGs := fun ds z Q => match ds with
  | d :: r => t d z fun z1 => u r z1 Q
  | [] => False
theorem zg_nil : DGs X B [] [] zgNil := pgs_weak pgs_nil fun v σ H Q ⟨Y, D, z, ds, Q', R, r, ⟨e, h⟩, k⟩ => by
  subst e
  exact ⟨r.nil_, k z h σ H D (Step.refl R).g (Out.refl _ _)⟩
theorem zg_cons {e : Expr} {es : List Expr} {t : ZG} {u : ZGs} {is js : List Nat} (h1 : DG X B is e t) (h2 : DGs X B js es u) (hs : (assignEach (e :: es) X.env).map (·.2) = assign e X.env :: (assignEach es X.env).map (·.2) := by rfl) : DGs X B (is ++ js) (e :: es) (zgCons t u) :=
  pgs_weak (pgs_cons h1 h2 hs) fun v σ H Q ⟨Y, D, z, ds, Q', R, r, h, k⟩ => by
    cases ds with
    | nil => exact h.elim
    | cons d ds =>
      obtain ⟨x, xs, rfl, r1, r2⟩ := r.cons_
      exact ⟨x, xs, rfl, Y, D, z, d, _, R, r1, h, fun z1 q σ1 H1 D1 S1 o1 => ⟨Y, D1, z1, ds, _, S1.rel, RpA.mono S1.same _ _ r2, q, fun z' q' σ' H' D' S o => k z' q' σ' H' D' (S1.trans S) (o1.trans o)⟩⟩
/-- (a, b, ..) = a list or a tuple of that length -/
def zgTup (n : Nat) (u : ZGs) : ZG := fun d z Q => match d with
  | .lst ds => ds.length = n ∧ u ds z Q
  | .tup ds => ds.length = n ∧ u ds z Q
  | _ => False
theorem pg_or {e : Expr} {t t' : TG} (h : PG X e t) (h' : PG X e t') : PG X e (fun v σ H Q => t v σ H Q ∨ t' v σ H Q) := ⟨fun pins s σ H v u Q I r hw => hw.elim (h.run pins s σ H v u Q I r) (h'.run pins s σ H v u Q I r)⟩
theorem zg_tup {es : List Expr} {k n : Nat} {u : ZGs} {pos : Pos} {is : List Nat} (h : DGs X B is es u) (hc : X.calm = true := by rfl) (hn : (assignEach es X.env).length = n := by rfl) (hst : (assignEach es X.env).findIdx? (·.1) = none := by rfl) : DG X B is (.Tuple es k pos) (zgTup n u) :=
  pg_weak (pg_or (pg_tup hc h hn hst) (pg_unl hc h hn hst)) fun v σ H Q ⟨Y, D, z, d, Q', R, r, h, k⟩ => by
    cases d with
    | lst ds =>
      obtain ⟨a, xs, rfl, ha, ra⟩ := r.lst_
      exact .inr ⟨a, xs, rfl, SqL.of (R.dat _ _ ha), by rw [← ra.length]; exact h.1, Y, D, z, ds, Q', R, ra, h.2, k⟩
    | tup ds =>
      obtain ⟨a, xs, rfl, ha, ra⟩ := r.tup_
      exact .inl ⟨a, xs, rfl, SqT.of (R.dat _ _ ha), by rw [← ra.length]; exact h.1, Y, D, z, ds, Q', R, ra, h.2, k⟩
    | _ => exact h.elim
/-- target = e -/
def zAsg (t : ZE) (g : ZG) : ZS := fun E z => t z fun d z1 => g d z1 E.nx
theorem zs_asg {tg e : Expr} {t : ZE} {g : ZG} {pos : Pos} {is : List Nat} (he : DE X B e t) (hg : DG X B is tg g) (hs : swapsWithSole [tg] e pos.line X.env = pure false := by rfl) (hw : swappedStores [tg] e X.env = pure none := by rfl)
    (h1 : (assignEach [tg] X.env).map (·.2) = [assign tg X.env] := by rfl) : DS X B (.Assign [tg] e pos) (zAsg t g) :=
  ps_weak (ps_asg he hg hs hw h1) fun T σ H ⟨Y, D, z, E, R, h, k⟩ => ⟨Y, D, z, _, R, h, fun d z1 q v H1 D1 S1 r1 => ⟨Y, D1, z1, d, _, S1.rel, r1, q, fun z' q' σ' H' D' S _ => k.nx z' q' σ' H' D' (S1.stp.trans S.stp)⟩⟩

/-! ### what is walked -/
structure Yields (B : RB) (Y : RC) (D0 : Hp) (J : It) (ds : List Kz.D) : Prop where
  go : ∀ (i : Nat) D z σ H, Rel B Y D z σ H → Same D0 D → i < ds.length → J.go i H
  stop : ∀ D z σ H, Rel B Y D z σ H → Same D0 D → J.stop ds.length H
  yld : ∀ (i : Nat) D z σ H x H', Rel B Y D z σ H → Same D0 D → i < ds.length → J.yld i H x H' → ∃ D' d, ds[i]? = some d ∧ Step B Y D z σ H D' z H' ∧ Rp B D' d x
abbrev ZI := Z → (List D → Z → Prop) → Prop
def tZI (B : RB) (t : ZI) : TI := fun σ H R => ∃ Y D z Q', Rel B Y D z σ H ∧ t z Q' ∧ ∀ ds z', Q' ds z' → ∀ J H' D', Step B Y D z σ H D' z' H' → Yields B Y D' J ds → R J H'
abbrev DI (X : Cx) (B : RB) (tg iter : Expr) (t : ZI) : Prop := PI X tg iter (tZI B t)
theorem pi_weak {tg e : Expr} {t t' : TI} (h : PI X tg e t) (k : ∀ σ H R, t' σ H R → t σ H R) : PI X tg e t' := ⟨fun pins s σ H R I hw => h.run pins s σ H R I (k σ H R hw)⟩
/-- a list or a tuple; it is not too long -/
def iSeq (K : PySem.W.Frag) (tl : TE) : TI := fun σ H R => tl σ H fun x H1 => ∃ a xs, x = .ref a ∧ ((SqL K H1 a xs ∧ (xs.length ≤ sizeLine → R (Itl K a) H1)) ∨ (SqT K H1 a xs ∧ (xs.length ≤ sizeLine → R (Itt K a) H1)))
theorem pi_seq {tg l : Expr} {tl : TE} (hl : PE X l tl) : PI X tg l (iSeq X.K tl) := by
  refine ⟨fun pins s σ H R I h => ?_⟩
  refine thn (hl.run pins s σ H _ I h) fun v s1 ⟨x, H1, I1, r1, q1⟩ => ?_
  obtain ⟨a, xs, e, q⟩ := q1
  subst e
  cases r1
  have fp : ∀ b ∈ [s1.heap.objs.size], FpOk X pins H1 b := fun b hb => by
    have e : b = s1.heap.objs.size := by simpa using hb
    subst e
    exact I1.fpOk (Nat.le_refl _) (I1.hok.fresh (Nat.le_refl _))
  rcases q with ⟨hq, q⟩ | ⟨hq, q⟩
  · obtain ⟨its, rv, p, hz⟩ := I1.list hq
    refine wpAny_pyIter_list p.isList ?_
    exact ⟨s1.heap.objs.size, [s1.heap.objs.size], _, _, H1, rfl, I1.kept (t' := s1.toks) fun b o e => Heap.get?_push_of_some _ e, turn_list a _, ⟨_, Heap.get?_push_size _ rfl, rfl, rfl⟩, fp, q hz⟩
  · obtain ⟨its, rv, p, hz⟩ := I1.tuple hq
    refine wpAny_pyIter_tuple (show s1.heap.IsTuple a its.toArray from p) ?_
    exact ⟨s1.heap.objs.size, [s1.heap.objs.size], _, _, H1, rfl, I1.kept (t' := s1.toks) fun b o e => Heap.get?_push_of_some _ e, turn_tuple a _, ⟨_, Heap.get?_push_size _ rfl, rfl, rfl⟩, fp, q hz⟩
theorem yields_lst {Y : RC} {D0 : Hp} {a : Addr} {xs : List V} {ds : List Kz.D} {K : PySem.W.Frag} (h : D0 a = some (.lst xs)) (r : RpA B D0 ds xs) : Yields B Y D0 (Itl K a) ds where
  go := fun i D z σ H R s hi => by
    have hx : i < xs.length := by rw [← r.length]; exact hi
    exact ⟨xs, xs[i], SqL.of (R.dat _ _ (s _ _ h)), by simp [hx]⟩
  stop := fun D z σ H R s => ⟨xs, SqL.of (R.dat _ _ (s _ _ h)), by rw [r.length]; exact Nat.le_refl _⟩
  yld := fun i D z σ H x H' R s hi y => by
    obtain ⟨e, y⟩ := y
    subst e
    have hx := y xs (SqL.of (R.dat _ _ (s _ _ h)))
    obtain ⟨d, h1, h2⟩ := r.get hx
    exact ⟨D, d, h1, Step.refl R, Rp.mono s _ _ h2⟩
theorem yields_tup {Y : RC} {D0 : Hp} {a : Addr} {xs : List V} {ds : List Kz.D} {K : PySem.W.Frag} (h : D0 a = some (.tup xs)) (r : RpA B D0 ds xs) : Yields B Y D0 (Itt K a) ds where
  go := fun i D z σ H R s hi => by
    have hx : i < xs.length := by rw [← r.length]; exact hi
    exact ⟨xs, xs[i], SqT.of (R.dat _ _ (s _ _ h)), by simp [hx]⟩
  stop := fun D z σ H R s => ⟨xs, SqT.of (R.dat _ _ (s _ _ h)), by rw [r.length]; exact Nat.le_refl _⟩
  yld := fun i D z σ H x H' R s hi y => by
    obtain ⟨e, y⟩ := y
    subst e
    have hx := y xs (SqT.of (R.dat _ _ (s _ _ h)))
    obtain ⟨d, h1, h2⟩ := r.get hx
    exact ⟨D, d, h1, Step.refl R, Rp.mono s _ _ h2⟩
def ziSeq (t : ZE) : ZI := fun z Q => t z fun d z1 => match d with
  | .lst ds => ds.length ≤ sizeLine → Q ds z1
  | .tup ds => ds.length ≤ sizeLine → Q ds z1
  | _ => False
theorem zi_seq {tg l : Expr} {t : ZE} (h : DE X B l t) : DI X B tg l (ziSeq t) := pi_weak (pi_seq h) fun σ H R ⟨Y, D, z, Q', R0, h, k⟩ =>
  ⟨Y, D, z, _, R0, h, fun d z1 q v H1 D1 S1 r => by
    cases d with
    | lst ds =>
      obtain ⟨a, xs, rfl, ha, ra⟩ := r.lst_
      exact ⟨a, xs, rfl, .inl ⟨SqL.of (S1.rel.dat _ _ ha), fun hz => k ds z1 (q (by rw [ra.length]; exact hz)) _ H1 D1 S1 (yields_lst ha ra)⟩⟩
    | tup ds =>
      obtain ⟨a, xs, rfl, ha, ra⟩ := r.tup_
      exact ⟨a, xs, rfl, .inr ⟨SqT.of (S1.rel.dat _ _ ha), fun hz => k ds z1 (q (by rw [ra.length]; exact hz)) _ H1 D1 S1 (yields_tup ha ra)⟩⟩
    | _ => exact q.elim⟩
def ziScr (t : ZE) : ZI := fun z Q => t z fun d z1 => match d with
  | .scr ns => ns.length ≤ sizeLine → Q (ns.map D.int) z1
  | _ => False
theorem yields_scr {Y : RC} {D0 : Hp} {a : Addr} {ns : List Int} (h : SqL B.K D0 a (ns.map V.int)) : Yields B Y D0 (Itl B.K a) (ns.map D.int) where
  go := fun i D z σ H R s hi => by
    have hx : i < ns.length := by rw [List.length_map] at hi; exact hi
    exact ⟨_, .int ns[i], sqL_mono (fun b o e => R.dat b o (s b o e)) h, by simp [hx]⟩
  stop := fun D z σ H R s => ⟨_, sqL_mono (fun b o e => R.dat b o (s b o e)) h, by rw [List.length_map, List.length_map]; exact Nat.le_refl _⟩
  yld := fun i D z σ H x H' R s hi y => by
    obtain ⟨e, y⟩ := y
    subst e
    have hx := y _ (sqL_mono (fun b o e => R.dat b o (s b o e)) h)
    rw [List.getElem?_map] at hx
    cases hn : ns[i]? with
    | none => rw [hn] at hx; cases hx
    | some n =>
      rw [hn] at hx
      cases hx
      exact ⟨D, .int n, by rw [List.getElem?_map, hn]; rfl, Step.refl R, Rp.mk_int _⟩
theorem zi_scr {tg l : Expr} {t : ZE} (h : DE X B l t) (hB : B.K = X.K := by rfl) : DI X B tg l (ziScr t) := pi_weak (pi_seq h) fun σ H R ⟨Y, D, z, Q', R0, h, k⟩ =>
  ⟨Y, D, z, _, R0, h, fun d z1 q v H1 D1 S1 r => by
    cases d with
    | scr ns =>
      unfold Rp at r
      obtain ⟨a, rfl, ha⟩ := r
      exact ⟨a, _, rfl, .inl ⟨hB ▸ sqL_mono (fun b o e => S1.rel.dat b o e) ha, fun hz => hB ▸ k _ z1 (q (by rw [List.length_map] at hz; exact hz)) _ H1 D1 S1 (yields_scr ha)⟩⟩
    | _ => exact q.elim⟩
/-- lo, lo + 1, .. (n of them) -/
def rangeD (lo : Int) : Nat → List D
  | 0 => []
  | n + 1 => rangeD lo n ++ [.int (lo + (n : Int))]
theorem rangeD_length (lo : Int) : ∀ n, (rangeD lo n).length = n
  | 0 => rfl
  | n + 1 => by rw [rangeD, List.length_append, rangeD_length lo n]; rfl
theorem rangeD_get (lo : Int) : ∀ {n i : Nat}, i < n → (rangeD lo n)[i]? = some (.int (lo + (i : Int)))
  | 0, _, h => absurd h (Nat.not_lt_zero _)
  | n + 1, i, h => by
    rw [rangeD]
    by_cases q : i < n
    · rw [List.getElem?_append_left (by rw [rangeD_length]; exact q)]
      exact rangeD_get lo q
    · have e : i = n := by omega
      subst e
      rw [List.getElem?_append_right (by rw [rangeD_length]; exact Nat.le_refl _), rangeD_length]
      simp
theorem yields_rng {Y : RC} {D0 : Hp} {lo : Int} {n : Nat} : Yields B Y D0 (Itr lo n) (rangeD lo n) where
  go := fun i D z σ H R s hi => by rw [rangeD_length] at hi; exact hi
  stop := fun D z σ H R s => by rw [rangeD_length]; exact Nat.le_refl _
  yld := fun i D z σ H x H' R s hi y => by
    obtain ⟨e, y⟩ := y
    subst e y
    rw [rangeD_length] at hi
    exact ⟨D, _, rangeD_get lo hi, Step.refl R, Rp.mk_int _⟩
def ziRng1 (t : ZE) : ZI := fun z Q => t z fun d z1 => match d with
  | .int j => -(2 ^ 62) ≤ j ∧ j < 2 ^ 62 ∧ Q (rangeD 0 j.toNat) z1
  | _ => False
theorem zi_rng1 {tg a : Expr} {t : ZE} {p pos : Pos} (ha : DE X B a t) (hm : X.mg "range" = none) (hg : Gl X "range" := by rfl) (hs : starEach [a] X.env = (false, eval a X.env) :: starEach [] X.env := by rfl) (hs2 : starEach [a] X.env = [(false, eval a X.env)] := by rfl) : DI X B tg (.Call (.Name "range" p) [a] [] pos) (ziRng1 t) :=
  pi_weak (pi_range1 hg hm (pa_cons ha pa_nil hs) hs2) fun σ H R ⟨Y, D, z, Q', R0, h, k⟩ => ⟨Y, D, z, _, R0, h, fun d z1 q v H1 D1 S1 r => by
    cases d with
    | int j => exact ⟨j, by rw [r.int_], q.1, q.2.1, k _ z1 q.2.2 _ H1 D1 S1 yields_rng⟩
    | _ => exact q.elim⟩
def ziRng2 (t u : ZE) : ZI := fun z Q => t z fun d z1 => u z1 fun d2 z2 => match d, d2 with
  | .int i, .int j => (-(2 ^ 62) ≤ i ∧ i < 2 ^ 62 ∧ -(2 ^ 62) ≤ j ∧ j < 2 ^ 62) ∧ Q (rangeD i (j - i).toNat) z2
  | _, _ => False
theorem zi_rng2 {tg a b : Expr} {t u : ZE} {p pos : Pos} (ha : DE X B a t) (hb : DE X B b u) (hm : X.mg "range" = none) (hg : Gl X "range" := by rfl) (s1 : starEach [a, b] X.env = (false, eval a X.env) :: starEach [b] X.env := by rfl) (s2 : starEach [b] X.env = (false, eval b X.env) :: starEach [] X.env := by rfl)
    (hs : starEach [a, b] X.env = [(false, eval a X.env), (false, eval b X.env)] := by rfl) (hs2 : starEach [b] X.env = [(false, eval b X.env)] := by rfl) : DI X B tg (.Call (.Name "range" p) [a, b] [] pos) (ziRng2 t u) :=
  pi_weak (pi_range2 hg hm (pa_cons ha (pa_cons hb pa_nil s2) s1) hs hs2) fun σ H R ⟨Y, D, z, Q', R0, h, k⟩ => ⟨Y, D, z, _, R0, h, fun d z1 q v H1 D1 S1 r => ⟨Y, D1, z1, _, S1.rel, q, fun d2 z2 q v2 H2 D2 S2 r2 => by
    cases d with
    | int i =>
      cases d2 with
      | int j => exact ⟨i, j, by rw [r.int_, r2.int_], q.1, k _ z2 q.2 _ H2 D2 (S1.trans S2) yields_rng⟩
      | _ => exact q.elim
    | _ => exact q.elim⟩⟩
/-- enumerate(xs) -/
theorem yields_enum {Y : RC} {D0 : Hp} {a : Addr} {xs : List V} {ds : List Kz.D} {K : PySem.W.Frag} (h : D0 a = some (.lst xs)) (r : RpA B D0 ds xs) : Yields B Y D0 (Ite K a) (ds.mapIdx fun i d => .tup [.int (i : Int), d]) where
  go := fun i D z σ H R s hi => by
    have hx : i < xs.length := by rw [← r.length]; simpa using hi
    exact ⟨xs, xs[i], SqL.of (R.dat _ _ (s _ _ h)), by simp [hx]⟩
  stop := fun D z σ H R s => ⟨xs, SqL.of (R.dat _ _ (s _ _ h)), by rw [← r.length]; simp⟩
  yld := fun i D z σ H x H' R s hi y => by
    obtain ⟨T, v, e1, e2, e3, y⟩ := y
    subst e1 e3
    have hx := y xs (SqL.of (R.dat _ _ (s _ _ h)))
    obtain ⟨d, h1, h2⟩ := r.get hx
    have S := Step.laid (o := .tup [.int (i : Nat), v]) R e2
    refine ⟨_, .tup [.int (i : Int), d], by rw [List.getElem?_mapIdx, h1]; rfl, S, ?_⟩
    exact Rp.mk_tup upd_same (RpA.mk_cons (Rp.mk_int _) (RpA.mk_cons (Rp.mono (s.trans S.same) _ _ h2) RpA.mk_nil))
def ziEnum (t : ZE) : ZI := fun z Q => t z fun d z1 => match d with
  | .lst ds => Q (ds.mapIdx fun i d => .tup [.int (i : Int), d]) z1
  | _ => False
theorem zi_enum {e : Expr} {t : ZE} {p pos tpos : Pos} {elts : List Expr} {kk : Nat} (ha : DE X B e t) (hm : X.mg "enumerate" = none) (hg : Gl X "enumerate" := by rfl) (s1 : starEach [e] X.env = (false, eval e X.env) :: starEach [] X.env := by rfl) (hs : starEach [e] X.env = [(false, eval e X.env)] := by rfl) :
    DI X B (.Tuple elts kk tpos) (.Call (.Name "enumerate" p) [e] [] pos) (ziEnum t) :=
  pi_weak (pi_enum hg hm (pa_cons ha pa_nil s1) hs) fun σ H R ⟨Y, D, z, Q', R0, h, k⟩ => ⟨Y, D, z, _, R0, h, fun d z1 q v H1 D1 S1 r => by
    cases d with
    | lst ds =>
      obtain ⟨a, xs, rfl, ha, ra⟩ := r.lst_
      exact ⟨a, xs, rfl, SqL.of (S1.rel.dat _ _ ha), k _ z1 q _ H1 D1 S1 (yields_enum ha ra)⟩
    | _ => exact q.elim⟩
/-- zip(xs, ys), lists of one length -/
theorem yields_zip {Y : RC} {D0 : Hp} {a b : Addr} {xs ys : List V} {ds es : List Kz.D} {K : PySem.W.Frag} (h : D0 a = some (.lst xs)) (r : RpA B D0 ds xs) (h' : D0 b = some (.lst ys)) (r' : RpA B D0 es ys) : Yields B Y D0 (Itz K a b) (ds.zipWith (fun x y => .tup [x, y]) es) where
  go := fun i D z σ H R s hi => by
    rw [List.length_zipWith] at hi
    have hx : i < xs.length := by rw [← r.length]; omega
    have hy : i < ys.length := by rw [← r'.length]; omega
    exact ⟨xs, ys, xs[i], ys[i], SqL.of (R.dat _ _ (s _ _ h)), SqL.of (R.dat _ _ (s _ _ h')), by simp [hx], by simp [hy]⟩
  stop := fun D z σ H R s => ⟨xs, ys, SqL.of (R.dat _ _ (s _ _ h)), SqL.of (R.dat _ _ (s _ _ h')), by
    rw [List.length_zipWith, r.length, r'.length]; omega⟩
  yld := fun i D z σ H x H' R s hi y => by
    obtain ⟨T, v, w, e1, e2, e3, y, y'⟩ := y
    subst e1 e3
    obtain ⟨d, h1, h2⟩ := r.get (y xs (SqL.of (R.dat _ _ (s _ _ h))))
    obtain ⟨d', h1', h2'⟩ := r'.get (y' ys (SqL.of (R.dat _ _ (s _ _ h'))))
    have S := Step.laid (o := .tup [v, w]) R e2
    refine ⟨_, .tup [d, d'], by rw [List.getElem?_zipWith, h1, h1'], S, ?_⟩
    exact Rp.mk_tup upd_same (RpA.mk_cons (Rp.mono (s.trans S.same) _ _ h2) (RpA.mk_cons (Rp.mono (s.trans S.same) _ _ h2') RpA.mk_nil))
theorem yields_zipT {Y : RC} {D0 : Hp} {a b : Addr} {xs ys : List V} {ds es : List Kz.D} {K : PySem.W.Frag} (h : D0 a = some (.tup xs)) (r : RpA B D0 ds xs) (h' : D0 b = some (.tup ys)) (r' : RpA B D0 es ys) : Yields B Y D0 (RZ.ItzT K a b) (ds.zipWith (fun x y => .tup [x, y]) es) where
  go := fun i D z σ H R s hi => by
    rw [List.length_zipWith] at hi
    have hx : i < xs.length := by rw [← r.length]; omega
    have hy : i < ys.length := by rw [← r'.length]; omega
    exact ⟨xs, ys, xs[i], ys[i], SqT.of (R.dat _ _ (s _ _ h)), SqT.of (R.dat _ _ (s _ _ h')), by simp [hx], by simp [hy]⟩
  stop := fun D z σ H R s => ⟨xs, ys, SqT.of (R.dat _ _ (s _ _ h)), SqT.of (R.dat _ _ (s _ _ h')), by
    rw [List.length_zipWith, r.length, r'.length]; omega⟩
  yld := fun i D z σ H x H' R s hi y => by
    obtain ⟨T, v, w, e1, e2, e3, y, y'⟩ := y
    subst e1 e3
    obtain ⟨d, h1, h2⟩ := r.get (y xs (SqT.of (R.dat _ _ (s _ _ h))))
    obtain ⟨d', h1', h2'⟩ := r'.get (y' ys (SqT.of (R.dat _ _ (s _ _ h'))))
    have S := Step.laid (o := .tup [v, w]) R e2
    refine ⟨_, .tup [d, d'], by rw [List.getElem?_zipWith, h1, h1'], S, ?_⟩
    exact Rp.mk_tup upd_same (RpA.mk_cons (Rp.mono (s.trans S.same) _ _ h2) (RpA.mk_cons (Rp.mono (s.trans S.same) _ _ h2') RpA.mk_nil))
def ziZip (t u : ZE) : ZI := fun z Q => t z fun d z1 => u z1 fun d2 z2 => match d, d2 with
  | .lst ds, .lst es => Q (ds.zipWith (fun x y => .tup [x, y]) es) z2
  | .tup ds, .tup es => Q (ds.zipWith (fun x y => .tup [x, y]) es) z2
  | _, _ => False
theorem zi_zip {e e2 : Expr} {t u : ZE} {p pos tpos : Pos} {elts : List Expr} {kk : Nat} (ha : DE X B e t) (hb : DE X B e2 u) (hm : X.mg "zip" = none) (hg : Gl X "zip" := by rfl)
    (s1 : starEach [e, e2] X.env = (false, eval e X.env) :: starEach [e2] X.env := by rfl) (s2 : starEach [e2] X.env = (false, eval e2 X.env) :: starEach [] X.env := by rfl) (hpl : (backTo pos (starEach [e2] X.env)).any (·.1) = false := by rfl) :
    DI X B (.Tuple elts kk tpos) (.Call (.Name "zip" p) [e, e2] [] pos) (ziZip t u) :=
  pi_weak (RZ.pi_zipA hg hm (pa_cons ha (pa_cons hb pa_nil s2) s1) s1 hpl) fun σ H R ⟨Y, D, z, Q', R0, h, k⟩ => ⟨Y, D, z, _, R0, h, fun d z1 q v H1 D1 S1 r => ⟨Y, D1, z1, _, S1.rel, q, fun d2 z2 q v2 H2 D2 S2 r2 => by
    cases d with
    | lst ds =>
      cases d2 with
      | lst es =>
        obtain ⟨a, xs, rfl, ha, ra⟩ := r.lst_
        obtain ⟨b, ys, rfl, hb, rb⟩ := r2.lst_
        exact ⟨a, b, xs, ys, rfl, .inl ⟨SqL.of (S2.rel.dat _ _ (S2.same _ _ ha)), SqL.of (S2.rel.dat _ _ hb), k _ z2 q _ H2 D2 (S1.trans S2) (yields_zip (S2.same _ _ ha) (RpA.mono S2.same _ _ ra) hb rb)⟩⟩
      | _ => exact q.elim
    | tup ds =>
      cases d2 with
      | tup es =>
        obtain ⟨a, xs, rfl, ha, ra⟩ := r.tup_
        obtain ⟨b, ys, rfl, hb, rb⟩ := r2.tup_
        exact ⟨a, b, xs, ys, rfl, .inr ⟨SqT.of (S2.rel.dat _ _ (S2.same _ _ ha)), SqT.of (S2.rel.dat _ _ hb), k _ z2 q _ H2 D2 (S1.trans S2) (yields_zipT (S2.same _ _ ha) (RpA.mono S2.same _ _ ra) hb rb)⟩⟩
      | _ => exact q.elim
    | _ => exact q.elim⟩⟩

/-! ### for, while -/
def zFor (ti : ZI) (g : ZG) (tb : ZS) : ZS := fun E z => ti z fun ds z1 => ∃ I : Nat → Z → Prop, I 0 z1 ∧
  (∀ i d z, ds[i]? = some d → I i z → g d z fun z2 => tb ⟨I (i + 1), E.rt, E.nx, I (i + 1)⟩ z2) ∧ ∀ z, I ds.length z → E.nx z
theorem zs_for {tg iter : Expr} {body : List Stmt} {ti : ZI} {g : ZG} {tb : ZS} {pos : Pos} {is : List Nat} (hi : DI X B tg iter ti) (hg : DG X B is tg g) (hb : DSs X B body tb) (hp : PassesOwn (model X.prog X.w) X.A X.env X.xe := by exact PassesOwn.never) (hc : X.calm = true := by rfl)
    (hs : ∀ x, foldedSetIterable iter X.env x = pure x := by intro _; rfl) : DS X B (.For tg iter body [] pos) (zFor ti g tb) :=
  ps_weak (ps_for hp hc hi hg hb hs) fun T σ H ⟨Y, D, z, E, R, h, k⟩ => ⟨Y, D, z, _, R, h, fun ds z1 ⟨I, i0, it, ie⟩ J H1 D1 S1 yl => by
    refine ⟨fun i m σ' H' => m = ds.length - i ∧ i ≤ ds.length ∧ ∃ z' D', Stp B Y D1 H1 D' z' σ' H' ∧ I i z', ⟨ds.length, by simp, Nat.zero_le _, z1, D1, Stp.refl S1.rel, i0⟩, ?_⟩
    rintro i m σ' H' ⟨rfl, hi, z', D', S', w⟩
    by_cases lt : i < ds.length
    · refine .inr ⟨yl.go i _ _ _ _ S'.rel S'.same lt, fun σ2 H2 => ∃ z2 D2, Stp B Y D1 H1 D2 z2 σ2 H2 ∧ I (i + 1) z2, fun σ2 H2 ⟨z2, D2, S2, w2⟩ => ⟨ds.length - (i + 1), by omega, rfl, lt, z2, D2, S2, w2⟩, fun x H2 y => ?_⟩
      obtain ⟨D2, d, hd, S2, r2⟩ := yl.yld i _ _ _ _ x H2 S'.rel S'.same lt y
      refine ⟨Y, D2, z', d, _, S2.rel, r2, it i d z' hd w, fun z3 q σ3 H3 D3 S3 _ => ⟨Y, D3, z3, _, S3.rel, q, ?_⟩⟩
      have kk := k.from (S1.stp.trans (S'.trans (S2.stp.trans S3.stp)))
      have back : ∀ {z4 : Z} {σ4 : L2.St} {H4 D4 : Hp}, I (i + 1) z4 → Stp B Y D3 H3 D4 z4 σ4 H4 → ∃ z2 D2, Stp B Y D1 H1 D2 z2 σ4 H4 ∧ I (i + 1) z2 := fun {z4 σ4 H4 D4} q4 S4 => ⟨z4, D4, S'.trans (S2.stp.trans (S3.stp.trans S4)), q4⟩
      exact ⟨fun z4 q4 σ4 H4 D4 S4 => back q4 S4, kk.rt, kk.nx, fun z4 q4 σ4 H4 D4 S4 => back q4 S4⟩
    · have e : i = ds.length := by omega
      subst e
      exact .inl ⟨yl.stop _ _ _ _ S'.rel S'.same, k.nx z' (ie z' w) σ' H' D' (S1.stp.trans S')⟩⟩
def zWhile (c : ZT) (tb : ZS) : ZS := fun E z => ∃ (I : Z → Prop) (μ : Z → Nat), I z ∧ ∀ z, I z → c z fun b z1 => if b = true then tb ⟨fun z' => I z' ∧ μ z' < μ z, E.rt, E.nx, fun z' => I z' ∧ μ z' < μ z⟩ z1 else E.nx z1
theorem zs_while {c : Expr} {body : List Stmt} {tc : ZT} {tb : ZS} {pos : Pos} (hc : DT X B c tc) (hb : DSs X B body tb) (hp : PassesOwn (model X.prog X.w) X.A X.env X.xe := by exact PassesOwn.never) : DS X B (.While c body [] pos) (zWhile tc tb) :=
  ps_weak (ps_while hp hc hb) fun T σ H ⟨Y, D, z, E, R, ⟨I, μ, i0, it⟩, k⟩ => by
    refine ⟨fun m σ' H' => ∃ z' D', m = μ z' ∧ Stp B Y D H D' z' σ' H' ∧ I z', ⟨μ z, z, D, rfl, Stp.refl R, i0⟩, ?_⟩
    rintro m σ' H' ⟨z', D', rfl, S', w⟩
    refine ⟨Y, D', z', _, S'.rel, it z' w, fun b z1 q H1 D1 S1 => ?_⟩
    have kk := k.from (S'.trans S1.stp)
    cases b with
    | true =>
      refine ⟨fun σ2 H2 => ∃ z2 D2, Stp B Y D H D2 z2 σ2 H2 ∧ I z2 ∧ μ z2 < μ z', fun σ2 H2 ⟨z2, D2, S2, w2, l⟩ => ⟨μ z2, l, z2, D2, rfl, S2, w2⟩, Y, D1, z1, _, S1.rel, q, ?_⟩
      have back : ∀ {z4 : Z} {σ4 : L2.St} {H4 D4 : Hp}, I z4 ∧ μ z4 < μ z' → Stp B Y D1 H1 D4 z4 σ4 H4 → ∃ z2 D2, Stp B Y D H D2 z2 σ4 H4 ∧ I z2 ∧ μ z2 < μ z' := fun {z4 σ4 H4 D4} q4 S4 => ⟨z4, D4, S'.trans (S1.stp.trans S4), q4⟩
      exact ⟨fun z4 q4 σ4 H4 D4 S4 => back q4 S4, kk.rt, kk.nx, fun z4 q4 σ4 H4 D4 S4 => back q4 S4⟩
    | false => exact kk.nx z1 q σ' H1 D1 (Stp.refl S1.rel)
end
end Kz

set_option Elab.async false
set_option linter.all false
set_option maxRecDepth 100000
set_option maxHeartbeats 4000000
set_option autoImplicit false
/-! Comprehensions over data. -/
namespace Kz
open PySem PySem.Spec PyProof.Rows L2

def wipeE (e : List (Option SV)) : List Nat → List (Option SV)
  | [] => e
  | v :: vs => (wipeE e vs).set v none
/-- none of these names owns an object -/
def noOwn (e : List (Option SV)) : List Nat → Bool
  | [] => true
  | v :: vs => (match look e v with
    | some (.own _) => false
    | _ => true) && noOwn e vs
theorem wipeE_length (e : List (Option SV)) : ∀ vs, (wipeE e vs).length = e.length
  | [] => rfl
  | v :: vs => by unfold wipeE; rw [List.length_set, wipeE_length e vs]
theorem wipeE_out {e : List (Option SV)} {i : Nat} : ∀ {vs : List Nat}, i ∉ vs → (wipeE e vs)[i]? = e[i]?
  | [], _ => rfl
  | v :: vs, h => by
    have h1 : v ≠ i := fun e => h (by rw [e]; exact List.mem_cons_self)
    have h2 : i ∉ vs := fun m => h (List.mem_cons_of_mem _ m)
    unfold wipeE
    rw [List.getElem?_set_ne h1]
    exact wipeE_out h2
theorem wipeE_own {e : List (Option SV)} {i : Nat} {o : OD} : ∀ {vs : List Nat}, (wipeE e vs)[i]? = some (some (.own o)) → e[i]? = some (some (.own o)) ∧ i ∉ vs
  | [], h => ⟨h, by simp⟩
  | v :: vs, h => by
    unfold wipeE at h
    by_cases q : v = i
    · subst q
      have lt : v < (wipeE e vs).length := by
        have := (List.getElem?_eq_some_iff.mp h).1
        rwa [List.length_set] at this
      rw [List.getElem?_set_self lt] at h
      cases h
    · rw [List.getElem?_set_ne q] at h
      obtain ⟨h1, h2⟩ := wipeE_own h
      exact ⟨h1, fun m => (List.mem_cons.mp m).elim (fun z => q z.symm) h2⟩
theorem some_look : ∀ {l : List (Option SV)} {i : Nat} {s : SV}, l[i]? = some (some s) → look l i = some s
  | [], _, _, h => by simp at h
  | x :: r, 0, s, h => by simp at h; subst h; rfl
  | x :: r, i + 1, s, h => some_look (l := r) (by simpa using h)
theorem noOwn_mem {e : List (Option SV)} {i : Nat} {o : OD} : ∀ {vs : List Nat}, noOwn e vs = true → i ∈ vs → e[i]? ≠ some (some (.own o))
  | v :: vs, h, m, q => by
    unfold noOwn at h
    rw [Bool.and_eq_true] at h
    rcases List.mem_cons.mp m with rfl | m
    · rw [some_look q] at h
      exact absurd h.1 Bool.false_ne_true
    · exact noOwn_mem h.2 m q
theorem wipe_in {σ : L2.St} {i : Nat} : ∀ {vs : List Nat}, i ∈ vs → i < σ.length → (L2.wipe σ vs)[i]? = some none
  | v :: vs, m, lt => by
    unfold L2.wipe
    by_cases q : v = i
    · subst q
      exact List.getElem?_set_self (by rw [wipe_length]; exact lt)
    · rw [List.getElem?_set_ne q]
      exact wipe_in ((List.mem_cons.mp m).resolve_left fun e => q e.symm) lt
theorem Out.wipe {is vs : List Nat} {σ σ' : L2.St} (o : Out is (L2.wipe σ vs) σ') (s : ∀ i ∈ is, i ∈ vs) : L2.wipe σ' vs = L2.wipe σ vs := by
  have hl : σ'.length = σ.length := by rw [o.1, wipe_length]
  refine List.ext_getElem? fun i => ?_
  by_cases m : i ∈ vs
  · by_cases lt : i < σ.length
    · rw [wipe_in m lt, wipe_in m (by rw [hl]; exact lt)]
    · rw [List.getElem?_eq_none_iff.mpr (by rw [wipe_length]; omega), List.getElem?_eq_none_iff.mpr (by rw [wipe_length]; omega)]
  · rw [wipe_out m, o.2 i fun h => m (s i h)]
section
variable {B : RB} {Y : RC} {D D' : Hp} {z : Z} {σ σ2 : L2.St} {H H' : Hp}
theorem Rel.wipe (vs : List Nat) (R : Rel B Y D z σ H) : Rel B Y D ⟨wipeE z.e vs, z.w⟩ (wipe σ vs) H := by
  induction vs with
  | nil => exact R
  | cons v vs ih =>
    show Rel B Y D ⟨(wipeE z.e vs).set v none, z.w⟩ ((L2.wipe σ vs).set v none) H
    exact Rel.drop (v := none) ih
/-- the names that a comprehension made its own come back -/
theorem Rel.unwipe {vs : List Nat} {e4 : List (Option SV)} {w w4 : Wd} {D4 H4 : Hp} (R : Rel B Y D ⟨z.e, w⟩ σ H) (R4 : Rel B Y D4 ⟨e4, w4⟩ σ2 H4) (s : Same D D4) (he : wipeE e4 vs = wipeE z.e vs) (hσ : L2.wipe σ2 vs = L2.wipe σ vs) (no : noOwn z.e vs = true) :
    Rel B Y D4 ⟨z.e, w4⟩ σ H4 := by
  have ee : ∀ i, i ∉ vs → e4[i]? = z.e[i]? := fun i hi => by rw [← wipeE_out hi, he, wipeE_out hi]
  have es : ∀ i, i ∉ vs → σ2[i]? = σ[i]? := fun i hi => by rw [← wipe_out hi, hσ, wipe_out hi]
  refine ⟨R4.keep, R4.dat, R4.dom, R4.wr, R.len, fun i sv e => ?_, fun i j o o' p ei ej si sj => ?_⟩
  · by_cases hi : i ∈ vs
    · obtain ⟨v, h1, h2⟩ := R.slot i sv e
      refine ⟨v, h1, ?_⟩
      cases sv with
      | none => exact True.intro
      | some x =>
        cases x with
        | dat d =>
          obtain ⟨x, e1, e2⟩ := h2
          exact ⟨x, e1, Rp.mono s _ _ e2⟩
        | own o => exact (noOwn_mem no hi e).elim
        | bor d x => exact ⟨h2.1, Rp.mono s _ _ h2.2⟩
    · obtain ⟨v, h1, h2⟩ := R4.slot i sv (by rw [ee i hi]; exact e)
      exact ⟨v, by rw [← es i hi]; exact h1, h2⟩
  · have hi : i ∉ vs := fun m => noOwn_mem no m ei
    have hj : j ∉ vs := fun m => noOwn_mem no m ej
    exact R4.inj i j o o' p (by rw [ee i hi]; exact ei) (by rw [ee j hj]; exact ej) (by rw [es i hi]; exact si) (by rw [es j hj]; exact sj)
theorem Fresh.wipe (vs : List Nat) {p : Addr} (F : Fresh Y D z σ H p) : Fresh Y D ⟨wipeE z.e vs, z.w⟩ (L2.wipe σ vs) H p := by
  refine ⟨F.d, F.h, F.off, fun i o e q => ?_⟩
  obtain ⟨e', hi⟩ := wipeE_own e
  exact F.own i o e' (by rw [← wipe_out hi]; exact q)
theorem Fresh.unwipe {vs : List Nat} {e4 : List (Option SV)} {w4 : Wd} {D4 H4 : Hp} {p : Addr} (F : Fresh Y D4 ⟨e4, w4⟩ σ2 H4 p) (he : wipeE e4 vs = wipeE z.e vs) (hσ : L2.wipe σ2 vs = L2.wipe σ vs) (no : noOwn z.e vs = true) : Fresh Y D4 ⟨z.e, w4⟩ σ H4 p := by
  refine ⟨F.d, F.h, F.off, fun i o e q => ?_⟩
  have hi : i ∉ vs := fun m => noOwn_mem no m e
  exact F.own i o (by rw [← wipeE_out hi, he, wipeE_out hi]; exact e) (by rw [← wipe_out hi, hσ, wipe_out hi]; exact q)
/-- a whole turn of a comprehension, seen from outside -/
theorem Step.turn {vs : List Nat} {e4 : List (Option SV)} {w w4 : Wd} {D4 H4 : Hp} (R : Rel B Y D ⟨z.e, w⟩ σ H) (G : GStep B Y D ⟨wipeE z.e vs, w⟩ (L2.wipe σ vs) H D4 ⟨e4, w4⟩ σ2 H4) (he : wipeE e4 vs = wipeE z.e vs) (hσ : L2.wipe σ2 vs = L2.wipe σ vs) (no : noOwn z.e vs = true) :
    Step B Y D ⟨z.e, w⟩ σ H D4 ⟨z.e, w4⟩ H4 :=
  ⟨R.unwipe G.rel G.same he hσ no, G.same, G.grow, fun p u h f => by
    obtain ⟨h1, f1⟩ := G.fr p u h (f.wipe vs)
    exact ⟨h1, f1.unwipe he hσ no⟩⟩
end
section
variable {X : Cx} {B : RB}
def zYes : ZT := fun z Q => Q true z
abbrev DTs (X : Cx) (B : RB) (ifs : List Expr) (t : ZT) : Prop := PTs X ifs (tZT B t)
theorem zts_nil : DTs X B [] zYes := ⟨fun pins s σ H Q I ⟨Y, D, z, Q', R, h, k⟩ => (pts_nil (X := X)).run pins s σ H Q I (k true z h H D (Step.refl R))⟩
theorem zts_one {c : Expr} {t : ZT} (h : DT X B c t) : DTs X B [c] t := pts_one h
/-- the object under way: fresh, and apart from what is newly laid -/
theorem Fresh.new {Y : RC} {D H : Hp} {z : Z} {σ : L2.St} {p : Addr} {o : HO} (R : Rel B Y D z σ H) (hn : H p = none) : Step B Y D z σ H D z (upd H p o) ∧ Fresh Y D z σ (upd H p o) p :=
  ⟨Step.aside R hn, (R.fresh hn).to (R.fresh hn).d fun i o e => ⟨o, e⟩⟩
theorem Step.acc {Y : RC} {D H : Hp} {z : Z} {σ : L2.St} {p : Addr} {o o' : HO} (R : Rel B Y D z σ H) (F : Fresh Y D z σ H p) (hp : H p = some o) (nc : ∀ c, o ≠ LamX.CodeO c Y.tq := by first | (intro c z; unfold LamX.CodeO at z; cases z) | assumption) : Rel B Y D z σ (upd H p o') := by
  have nd : ∀ b u, D b = some u → b ≠ p := fun b u e q => by rw [q, F.d] at e; cases e
  refine ⟨fun b u e => ?_, fun b u e => ?_, R.dom, ⟨fun h => ?_, fun h => ?_, R.wr.ds, R.wr.dg, R.wr.hs, R.wr.hg, R.wr.ne, fun h => tab_upd (R.wr.t h) hp (F.off h).2.2 nc, R.wr.dt, R.wr.ht, R.wr.a, R.wr.tb⟩, R.len, fun i s e => ?_, R.inj⟩
  · rw [upd_ne (fun q => by rw [q, F.h] at e; cases e)]; exact R.keep b u e
  · rw [upd_ne (nd b u e)]; exact R.dat b u e
  · rw [upd_ne (fun q => (F.off h).1 q.symm)]; exact R.wr.s h
  · rw [upd_ne (fun q => (F.off h).2.1 q.symm)]; exact R.wr.g h
  · obtain ⟨v, h1, h2⟩ := R.slot i s e
    refine ⟨v, h1, h2.mono (Same.refl _) fun q oq hs hv => ?_⟩
    subst hs hv
    obtain ⟨p', u, c1, c2, c3, c4, c5, c6⟩ := h2
    cases c1
    exact ⟨upd_ne fun x => F.own i oq e (by rw [← x]; exact h1), c4⟩
def zComp (ti : ZI) (g : ZG) (tt : ZT) (te : ZE) (vs : List Nat) : ZM := fun z Q => ti z fun ds z1 => ds.length ≤ sizeLine ∧ noOwn z1.e vs = true ∧ ∃ I : Nat → List D → Wd → Prop, I 0 [] z1.w ∧
  (∀ i d acc w, ds[i]? = some d → I i acc w → g d ⟨wipeE z1.e vs, w⟩ fun z2 => wipeE z2.e vs = wipeE z1.e vs ∧ tt z2 fun b z3 => z3.e = z2.e ∧ if b = true then te z3 fun y z4 => z4.e = z2.e ∧ I (i + 1) (acc ++ [y]) z4.w else I (i + 1) acc z3.w) ∧
  ∀ acc w, I ds.length acc w → Q (.own (.lst acc)) ⟨z1.e, w⟩
theorem comp_core {ti : ZI} {g : ZG} {tt : ZT} {te : ZE} {vs is : List Nat} (sub : ∀ i ∈ is, i ∈ vs) : ∀ σ H Q, tZM B (zComp ti g tt te vs) σ H Q → tLc (tZI B ti) (tZG B is g) (tZT B tt) (tZ B te) vs σ H Q :=
  fun σ H Q ⟨Y, D, z, Q', R, h, k⟩ => ⟨Y, D, z, _, R, h, fun ds z1 ⟨hlen, no, I, i0, it, ie⟩ J H1 D1 S1 yl => fun p hp => by
    obtain ⟨A0, F0⟩ := Fresh.new (o := .lst []) S1.rel hp
    have nz : ∀ {H2 : Hp} {D2 : Hp} {w : Wd}, Step B Y D1 z1 σ (upd H1 p (.lst [])) D2 ⟨z1.e, w⟩ H2 → ∀ q, H2 q = none → H1 q = none := fun S q e => A0.grow q (S.grow q e)
    refine ⟨fun i m H2 => m = ds.length - i ∧ i ≤ ds.length ∧ ∃ acc w D2 xs, acc.length ≤ i ∧ I i acc w ∧ H2 p = some (.lst xs) ∧ RpA B D2 acc xs ∧ Rel B Y D2 ⟨z1.e, w⟩ σ H2 ∧ Same D1 D2 ∧ Fresh Y D2 ⟨z1.e, w⟩ σ H2 p ∧ (∀ q, H2 q = none → H1 q = none) ∧ (∀ q u, H1 q = some u → Fresh Y D1 z1 σ H1 q → H2 q = some u ∧ Fresh Y D2 ⟨z1.e, w⟩ σ H2 q),
      ⟨ds.length, by simp, Nat.zero_le _, [], z1.w, D1, [], Nat.le_refl _, i0, upd_same, RpA.mk_nil, A0.rel, Same.refl _, F0, A0.grow, A0.fr⟩, ?_⟩
    rintro i m H2 ⟨rfl, hi, acc, w, D2, xs, hl, inv, hp2, ra, R2, s2, F2, gr, fr⟩
    by_cases lt : i < ds.length
    · refine .inr ⟨yl.go i _ _ _ _ R2 s2 lt, fun H5 => i + 1 ≤ ds.length ∧ ∃ acc w D2 xs, acc.length ≤ i + 1 ∧ I (i + 1) acc w ∧ H5 p = some (.lst xs) ∧ RpA B D2 acc xs ∧ Rel B Y D2 ⟨z1.e, w⟩ σ H5 ∧ Same D1 D2 ∧ Fresh Y D2 ⟨z1.e, w⟩ σ H5 p ∧ (∀ q, H5 q = none → H1 q = none) ∧ (∀ q u, H1 q = some u → Fresh Y D1 z1 σ H1 q → H5 q = some u ∧ Fresh Y D2 ⟨z1.e, w⟩ σ H5 q),
        fun H5 q5 => ⟨ds.length - (i + 1), by omega, rfl, q5⟩, fun x H3 y => ?_⟩
      obtain ⟨D3, d, hd, S3, r3⟩ := yl.yld i _ _ _ _ x H3 R2 s2 lt y
      have R3w := S3.rel.wipe vs
      refine ⟨Y, D3, ⟨wipeE z1.e vs, w⟩, d, _, R3w, r3, it i d acc w hd inv, fun z4 ⟨we, q4⟩ σ4 H4 D4 G4 og => ?_⟩
      -- the slots' values outside the block's own names stay
      have hσ : L2.wipe σ4 vs = L2.wipe σ vs := og.wipe sub
      refine ⟨hσ, Y, D4, z4, _, G4.rel, q4, fun b z5 ⟨e5, q5⟩ H5 D5 S5 => ?_⟩
      have fin : ∀ {z6 : Z} {H6 D6 : Hp}, z6.e = z4.e → Step B Y D4 z4 σ4 H4 D6 z6 H6 → Step B Y D2 ⟨z1.e, w⟩ σ H2 D6 ⟨z1.e, z6.w⟩ H6 := fun {z6 H6 D6} e6 S6 => by
        refine S3.trans (Step.turn S3.rel (e4 := z6.e) (w4 := z6.w) (σ2 := σ4) (G4.trans S6.g) (by rw [e6]; exact we) hσ no)
      cases b with
      | true =>
        rw [if_pos rfl] at q5
        refine iteT ?_
        refine ⟨Y, D5, z5, _, S5.rel, q5, fun yv z6 ⟨e6, q6⟩ vv H6 D6 S6 r6 => ?_⟩
        have T := fin e6 (S5.trans S6)
        obtain ⟨hp6, F6⟩ := T.fr p _ hp2 F2
        refine ⟨xs, hp6, by rw [← ra.length]; omega, lt, acc ++ [yv], z6.w, D6, xs ++ [vv], by rw [List.length_append, List.length_singleton]; omega, q6, upd_same, RpA.append (RpA.mono T.same _ _ ra) (RpA.one r6), Step.acc T.rel F6 hp6, s2.trans T.same, F6.to F6.d fun i o e => ⟨o, e⟩, fun q e => ?_, fun q u h f => ?_⟩
        · by_cases qp : q = p
          · rw [qp, upd_same] at e; cases e
          · rw [upd_ne qp] at e; exact gr q (T.grow q e)
        · obtain ⟨h1, f1⟩ := fr q u h f
          obtain ⟨h2, f2⟩ := T.fr q u h1 f1
          have qp : q ≠ p := fun x => by rw [x, hp] at h; cases h
          exact ⟨by rw [upd_ne qp]; exact h2, f2.to f2.d fun i o e => ⟨o, e⟩⟩
      | false =>
        rw [if_neg Bool.false_ne_true] at q5
        refine iteF ?_
        have T := fin e5 S5
        obtain ⟨hp6, F6⟩ := T.fr p _ hp2 F2
        refine ⟨lt, acc, z5.w, D5, xs, by omega, q5, hp6, RpA.mono T.same _ _ ra, T.rel, s2.trans T.same, F6, fun q e => gr q (T.grow q e), fun q u h f => ?_⟩
        obtain ⟨h1, f1⟩ := fr q u h f
        exact T.fr q u h1 f1
    · have e : i = ds.length := by omega
      subst e
      refine .inl ⟨yl.stop _ _ _ _ R2 s2, k _ _ (ie acc w inv) _ H2 D2 (S1.trans ⟨R2, s2, gr, fr⟩) ⟨p, _, rfl, hp2, S1.grow p hp, F2, xs, rfl, ra⟩⟩⟩
theorem z_comp {elt tg iter : Expr} {ifs : List Expr} {scope : Scope} {own : List (Str × Nat)} {pos : Pos} {ti : ZI} {g : ZG} {tt : ZT} {te : ZE} {is : List Nat} (hi : DI X B tg iter ti) (ok : BlkOk X.N X.env.scope scope own)
    (hg : ∀ (s : Shared) (H : Hp) (C : Addr) (cl : List (Str × Addr)) (fp : List Addr), DG (X.blk s H scope (compEnvC scope cl C X.env) fp) B is tg g) (ht : ∀ (s : Shared) (H : Hp) (C : Addr) (cl : List (Str × Addr)) (fp : List Addr), DTs (X.blk s H scope (compEnvC scope cl C X.env) fp) B ifs tt)
    (he : ∀ (s : Shared) (H : Hp) (C : Addr) (cl : List (Str × Addr)) (fp : List Addr), DE (X.blk s H scope (compEnvC scope cl C X.env) fp) B elt te) (hN : X.N.Nodup) (sub : ∀ i ∈ is, i ∈ own.map (·.2) := by decide) (hc : X.calm = true := by rfl) (hs : ∀ x, foldedSetIterable iter X.env x = pure x := by intro _; rfl) :
    DM X B (.ListComp elt [⟨tg, iter, ifs, 0⟩] scope pos) (zComp ti g tt te (own.map (·.2))) := pe_weak (pe_lc hc hN hi ok hg ht he hs) (comp_core sub)
/-- name = [..] on one line -/
theorem zs_setLc {i : Nat} {y : Str} {py : Pos} {elt tg iter : Expr} {ifs : List Expr} {scope : Scope} {own : List (Str × Nat)} {pos spos : Pos} {ti : ZI} {g : ZG} {tt : ZT} {te : ZE} {is : List Nat}
    (hi : DI X B tg iter ti) (ok : BlkOk X.N X.env.scope scope own)
    (hg : ∀ (s : Shared) (H : Hp) (C : Addr) (cl : List (Str × Addr)) (fp : List Addr), DG (X.blk s H scope (compEnvC scope cl C X.env) fp) B is tg g) (ht : ∀ (s : Shared) (H : Hp) (C : Addr) (cl : List (Str × Addr)) (fp : List Addr), DTs (X.blk s H scope (compEnvC scope cl C X.env) fp) B ifs tt)
    (he : ∀ (s : Shared) (H : Hp) (C : Addr) (cl : List (Str × Addr)) (fp : List Addr), DE (X.blk s H scope (compEnvC scope cl C X.env) fp) B elt te) (hN : X.N.Nodup) (hsw : swapsWith (.ListComp elt [⟨tg, iter, ifs, 0⟩] scope pos) (some (.Name y py)) spos.line X.env = pure true := by exact sw_true rfl rfl rfl (by decide +kernel))
    (hy : X.N[i]? = some y := by rfl) (hyl : X.env.scope.names.lookup y = some .local := by rfl) (sub : ∀ i ∈ is, i ∈ own.map (·.2) := by decide) (hc : X.calm = true := by rfl) (hs : ∀ x, foldedSetIterable iter X.env x = pure x := by intro _; rfl) :
    DS X B (.Assign [.Name y py] (.ListComp elt [⟨tg, iter, ifs, 0⟩] scope pos) spos) (zSet i (zComp ti g tt te (own.map (·.2)))) :=
  ps_weak (ps_setLc (i := i) hc hN hy hyl hsw hi ok hg ht he hs) fun T σ H ⟨Y, D, z, E, R, h, k⟩ => comp_core sub σ H _ ⟨Y, D, z, _, R, h, fun s z1 q v H1 D1 S1 r1 => k.nx _ q _ H1 D1 ⟨S1.rel.setVR r1, S1.same, S1.grow⟩⟩
end
end Kz

set_option Elab.async false
set_option linter.all false
set_option maxRecDepth 100000
set_option maxHeartbeats 4000000
set_option autoImplicit false
/-! Own lists and dicts that change; built-ins. -/
namespace Kz
open PySem PySem.Spec PyProof.Rows L2
section
variable {X : Cx} {B : RB}
/-! ### own lists -/
theorem Rel.own_lst {Y : RC} {D H : Hp} {z : Z} {σ : L2.St} {i : Nat} {ds : List Kz.D} (R : Rel B Y D z σ H) (h : look z.e i = some (.own (.lst ds))) : ∃ p xs, σ[i]? = some (some (.ref p)) ∧ H p = some (.lst xs) ∧ RpA B D ds xs ∧ z.e[i]? = some (some (.own (.lst ds))) := by
  obtain ⟨p, u, h1, h2, ⟨xs, rfl, ra⟩, h4⟩ := R.look_own h
  exact ⟨p, xs, h1, h2, ra, h4⟩
theorem Rel.own_dct {Y : RC} {D H : Hp} {z : Z} {σ : L2.St} {i : Nat} {ks : List Int} {ds : List Kz.D} (R : Rel B Y D z σ H) (h : look z.e i = some (.own (.dct ks ds))) : ∃ p xs, σ[i]? = some (some (.ref p)) ∧ H p = some (.dK ((ks.map Sum.inl).zip xs)) ∧ ks.length = xs.length ∧ RpA B D ds xs ∧ z.e[i]? = some (some (.own (.dct ks ds))) := by
  obtain ⟨p, u, h1, h2, ⟨xs, rfl, hl, ra⟩, h4⟩ := R.look_own h
  exact ⟨p, xs, h1, h2, hl, ra, h4⟩
def setO (z : Z) (i : Nat) (o : OD) : Z := ⟨z.e.set i (some (.own o)), z.w⟩
/-- x.append(e) -/
def zApp (i : Nat) (t : ZE) : ZE := fun z Q => match look z.e i with
  | some (.own (.lst _)) => t z fun d z1 => match look z1.e i with
    | some (.own (.lst ds)) => ds.length < sizeLine ∧ Q .non (setO z1 i (.lst (ds ++ [d])))
    | _ => False
  | _ => False
theorem z_app (i : Nat) {x : Str} {e : Expr} {t : ZE} {p apos cpos : Pos} (he : DE X B e t) (hN : X.N[i]? = some x := by rfl) (hv : Vis X.env.scope x := by first | exact Or.inl rfl | exact Or.inr (Or.inl rfl) | exact Or.inr (Or.inr rfl))
    (hd : (x == ("__debug__" : Str)) = false := by decide) (hcd : (x == ("__classdict__" : Str)) = false := by decide)
    (hbase : attributeBase (.Name x p) "append" X.env (eval (.Name x p) X.env) = eval (.Name x p) X.env := by rfl)
    (hfew : ((backTo cpos (starEach (e :: []) X.env)).all (fun x => !x.1) && (backToKw cpos (keywordEach [] X.env)).all (fun x => x.1.isSome)
      && decide ((e :: ([] : List Expr)).length + ([] : List Keyword).length + (if ([] : List Keyword).isEmpty then 0 else 1) < 30)) = true := by rfl)
    (hline : (apos.endLine == cpos.line) = true := by rfl) (hs : starEach (e :: []) X.env = (false, eval e X.env) :: starEach [] X.env := by rfl) (hplain : (backTo cpos (starEach [] X.env)).any (·.1) = false := by rfl) :
    DE X B (.Call (.Attribute (.Name x p) "append" apos) [e] [] cpos) (zApp i t) :=
  pe_weak (pe_bm PySem.F.plainAttrs_list PySem.F.slot_list_append PySem.F.type_list_append mt_append (pe_var hN hv hd hcd) (pa_cons he pa_nil hs) hbase hfew hline hs hplain) fun σ H Q ⟨Y, D, z, Q', R, h, k⟩ => by
    unfold zApp at h
    split at h
    · rename_i ds0 e0
      obtain ⟨p0, xs0, s0, hp0, _, _⟩ := R.own_lst e0
      refine ⟨_, s0, .inl ⟨rfl, xs0, SqL.of hp0⟩, Y, D, z, _, R, h, fun d z1 h1 v H1 D1 S1 r1 => ?_⟩
      split at h1
      · rename_i ds e1
        obtain ⟨p1, xs, s1, hp1, ra, he1⟩ := S1.rel.own_lst e1
        rw [s0] at s1; cases s1
        exact ⟨p0, xs, v, rfl, rfl, hp1, by rw [← ra.length]; exact h1.1, k _ _ h1.2 _ _ D1 (S1.trans (Step.write S1.rel he1 s0 ⟨_, rfl, RpA.append ra (RpA.one r1)⟩)) Rp.mk_non⟩
      · exact h1.elim
    · exact h.elim
/-- x.extend(e) -/
def zExt (i : Nat) (t : ZE) : ZE := fun z Q => match look z.e i with
  | some (.own (.lst _)) => t z fun d z1 => match look z1.e i, d with
    | some (.own (.lst ds)), .lst es => ds.length + es.length ≤ sizeLine ∧ Q .non (setO z1 i (.lst (ds ++ es)))
    | _, _ => False
  | _ => False
theorem z_ext (i : Nat) {x : Str} {e : Expr} {t : ZE} {p apos cpos : Pos} (he : DE X B e t) (hN : X.N[i]? = some x := by rfl) (hv : Vis X.env.scope x := by first | exact Or.inl rfl | exact Or.inr (Or.inl rfl) | exact Or.inr (Or.inr rfl))
    (hd : (x == ("__debug__" : Str)) = false := by decide) (hcd : (x == ("__classdict__" : Str)) = false := by decide)
    (hbase : attributeBase (.Name x p) "extend" X.env (eval (.Name x p) X.env) = eval (.Name x p) X.env := by rfl)
    (hfew : ((backTo cpos (starEach (e :: []) X.env)).all (fun x => !x.1) && (backToKw cpos (keywordEach [] X.env)).all (fun x => x.1.isSome)
      && decide ((e :: ([] : List Expr)).length + ([] : List Keyword).length + (if ([] : List Keyword).isEmpty then 0 else 1) < 30)) = true := by rfl)
    (hline : (apos.endLine == cpos.line) = true := by rfl) (hs : starEach (e :: []) X.env = (false, eval e X.env) :: starEach [] X.env := by rfl) (hplain : (backTo cpos (starEach [] X.env)).any (·.1) = false := by rfl) :
    DE X B (.Call (.Attribute (.Name x p) "extend" apos) [e] [] cpos) (zExt i t) :=
  pe_weak (pe_bm PySem.F.plainAttrs_list PySem.F.slot_list_extend PySem.F.type_list_extend mt_extend (pe_var hN hv hd hcd) (pa_cons he pa_nil hs) hbase hfew hline hs hplain) fun σ H Q ⟨Y, D, z, Q', R, h, k⟩ => by
    unfold zExt at h
    split at h
    · rename_i ds0 e0
      obtain ⟨p0, xs0, s0, hp0, _, _⟩ := R.own_lst e0
      refine ⟨_, s0, .inl ⟨rfl, xs0, SqL.of hp0⟩, Y, D, z, _, R, h, fun d z1 h1 v H1 D1 S1 r1 => ?_⟩
      split at h1
      · rename_i ds es e1
        obtain ⟨p1, xs, s1, hp1, ra, he1⟩ := S1.rel.own_lst e1
        rw [s0] at s1; cases s1
        obtain ⟨b, ys, rfl, hb, rb⟩ := r1.lst_
        exact ⟨p0, b, xs, ys, rfl, rfl, hp1, S1.rel.dat _ _ hb, by rw [← ra.length, ← rb.length]; exact h1.1, k _ _ h1.2 _ _ D1 (S1.trans (Step.write S1.rel he1 s0 ⟨_, rfl, RpA.append ra rb⟩)) Rp.mk_non⟩
      · exact h1.elim
    · exact h.elim
/-- x.pop() -/
def zPop (i : Nat) : ZE := fun z Q => match look z.e i with
  | some (.own (.lst ds)) => ∃ d, ds[ds.length - 1]? = some d ∧ Q d (setO z i (.lst ds.dropLast))
  | _ => False
theorem RpA.dropLast {H : Hp} {ds : List D} {xs : List V} (r : RpA B H ds xs) : RpA B H ds.dropLast xs.dropLast := by
  rw [List.dropLast_eq_take, List.dropLast_eq_take, r.length]
  exact RpA.take _ r
theorem z_pop (i : Nat) {x : Str} {p apos cpos : Pos} (hN : X.N[i]? = some x := by rfl) (hv : Vis X.env.scope x := by first | exact Or.inl rfl | exact Or.inr (Or.inl rfl) | exact Or.inr (Or.inr rfl))
    (hd : (x == ("__debug__" : Str)) = false := by decide) (hcd : (x == ("__classdict__" : Str)) = false := by decide)
    (hbase : attributeBase (.Name x p) "pop" X.env (eval (.Name x p) X.env) = eval (.Name x p) X.env := by rfl) (hline : (apos.endLine == cpos.line) = true := by rfl) :
    DE X B (.Call (.Attribute (.Name x p) "pop" apos) [] [] cpos) (zPop i) :=
  pe_weak (pe_bm0 PySem.F.plainAttrs_list PySem.F.slot_list_pop PySem.F.type_list_pop mt_pop (pe_var hN hv hd hcd) hbase hline) fun σ H Q ⟨Y, D, z, Q', R, h, k⟩ => by
    unfold zPop at h
    split at h
    · rename_i ds e0
      obtain ⟨p0, xs, s0, hp0, ra, he⟩ := R.own_lst e0
      obtain ⟨d, hd, q⟩ := h
      obtain ⟨y, hy, ry⟩ := ra.get' hd
      exact ⟨_, s0, .inl ⟨rfl, xs, SqL.of hp0⟩, p0, xs, y, rfl, rfl, hp0, by rw [← ra.length]; exact hy, k _ _ q _ _ D (Step.write R he s0 ⟨_, rfl, RpA.dropLast ra⟩) ry⟩
    · exact h.elim
/-- x.pop(e) -/
def zPopAt (i : Nat) (t : ZE) : ZE := fun z Q => match look z.e i with
  | some (.own (.lst _)) => t z fun d z1 => match look z1.e i, d with
    | some (.own (.lst ds)), .int j => ∃ k y, j = (k : Nat) ∧ k < 2 ^ 60 ∧ ds[k]? = some y ∧ Q y (setO z1 i (.lst (ds.eraseIdx k)))
    | _, _ => False
  | _ => False
theorem z_popAt (i : Nat) {x : Str} {e : Expr} {t : ZE} {p apos cpos : Pos} (he : DE X B e t) (hN : X.N[i]? = some x := by rfl) (hv : Vis X.env.scope x := by first | exact Or.inl rfl | exact Or.inr (Or.inl rfl) | exact Or.inr (Or.inr rfl))
    (hd : (x == ("__debug__" : Str)) = false := by decide) (hcd : (x == ("__classdict__" : Str)) = false := by decide)
    (hbase : attributeBase (.Name x p) "pop" X.env (eval (.Name x p) X.env) = eval (.Name x p) X.env := by rfl)
    (hfew : ((backTo cpos (starEach (e :: []) X.env)).all (fun x => !x.1) && (backToKw cpos (keywordEach [] X.env)).all (fun x => x.1.isSome)
      && decide ((e :: ([] : List Expr)).length + ([] : List Keyword).length + (if ([] : List Keyword).isEmpty then 0 else 1) < 30)) = true := by rfl)
    (hline : (apos.endLine == cpos.line) = true := by rfl) (hs : starEach (e :: []) X.env = (false, eval e X.env) :: starEach [] X.env := by rfl) (hplain : (backTo cpos (starEach [] X.env)).any (·.1) = false := by rfl) :
    DE X B (.Call (.Attribute (.Name x p) "pop" apos) [e] [] cpos) (zPopAt i t) :=
  pe_weak (pe_bm PySem.F.plainAttrs_list PySem.F.slot_list_pop PySem.F.type_list_pop mt_popAt (pe_var hN hv hd hcd) (pa_cons he pa_nil hs) hbase hfew hline hs hplain) fun σ H Q ⟨Y, D, z, Q', R, h, k⟩ => by
    unfold zPopAt at h
    split at h
    · rename_i ds0 e0
      obtain ⟨p0, xs0, s0, hp0, _, _⟩ := R.own_lst e0
      refine ⟨_, s0, .inl ⟨rfl, xs0, SqL.of hp0⟩, Y, D, z, _, R, h, fun d z1 h1 v H1 D1 S1 r1 => ?_⟩
      split at h1
      · rename_i ds j e1
        obtain ⟨n, y, rfl, hn, hy, q⟩ := h1
        obtain ⟨p1, xs, s1, hp1, ra, he1⟩ := S1.rel.own_lst e1
        rw [s0] at s1; cases s1
        obtain ⟨w, hw, rw'⟩ := ra.get' hy
        have lt : n < xs.length := (List.getElem?_eq_some_iff.mp hw).1
        refine ⟨p0, xs, (n : Int), n, w, rfl, by rw [r1.int_], hp1, by omega, by omega, ?_, hw, k _ _ q _ _ D1 (S1.trans (Step.write S1.rel he1 s0 ⟨_, rfl, RpA.eraseIdx n ra⟩)) rw'⟩
        have := (ixN_seq (n := xs.length) (i := (n : Int)) (j := n) (by unfold ixN; rw [if_pos (by omega), if_pos (by omega)]; simp)).1
        exact this
      · exact h1.elim
    · exact h.elim
/-- x[k] = e -/
def zPut (i : Nat) (tk te : ZE) : ZS := fun E z => te z fun d z1 => match look z1.e i with
  | some (.own (.lst _)) => tk z1 fun y z2 => match look z2.e i, y with
    | some (.own (.lst ds)), .int j => ∃ n, ixN ds.length j = some n ∧ E.nx (setO z2 i (.lst (ds.set n d)))
    | _, _ => False
  | _ => False
theorem zs_put (i : Nat) {x : Str} {b e : Expr} {tk te : ZE} {p pos' pos : Pos} (hb : DE X B b tk) (he : DE X B e te) (hN : X.N[i]? = some x := by rfl) (hv : Vis X.env.scope x := by first | exact Or.inl rfl | exact Or.inr (Or.inl rfl) | exact Or.inr (Or.inr rfl))
    (hd : (x == ("__debug__" : Str)) = false := by decide) (hcd : (x == ("__classdict__" : Str)) = false := by decide)
    (ha : ∀ v, assign (.Subscript (.Name x p) b pos') X.env v = (do
      let ov ← holding [v] (eval (.Name x p) X.env)
      let iv ← holding [v, ov] (eval b X.env)
      standAt pos'
      holding [v, ov, iv] (setItem ov iv v)
      release [v, ov, iv] []) := by intro _; rfl)
    (hs : swapsWithSole [.Subscript (.Name x p) b pos'] e pos.line X.env = pure false := by rfl) (hw : swappedStores [.Subscript (.Name x p) b pos'] e X.env = pure none := by rfl)
    (h1 : (assignEach [.Subscript (.Name x p) b pos'] X.env).map (·.2) = [assign (.Subscript (.Name x p) b pos') X.env] := by rfl) :
    DS X B (.Assign [.Subscript (.Name x p) b pos'] e pos) (zPut i tk te) :=
  ps_weak (ps_asg he (pg_sub (pe_var hN hv hd hcd) hb set_list ha) hs hw h1) fun T σ H ⟨Y, D, z, E, R, h, k⟩ => ⟨Y, D, z, _, R, h, fun d z1 h1 v H1 D1 S1 r1 => by
    split at h1
    · rename_i ds0 e0
      obtain ⟨p0, xs0, s0, hp0, _, _⟩ := S1.rel.own_lst e0
      refine ⟨_, s0, Y, D1, z1, _, S1.rel, h1, fun y z2 h2 w H2 D2 S2 r2 => ?_⟩
      split at h2
      · rename_i ds j e1
        obtain ⟨n, hn, q⟩ := h2
        obtain ⟨p1, xs, s1, hp1, ra, he1⟩ := S2.rel.own_lst e1
        rw [s0] at s1; cases s1
        have S3 := S1.trans (S2.trans (Step.write (o' := .lst (ds.set n d)) S2.rel he1 s0 ⟨_, rfl, RpA.set (Rp.mono S2.same _ _ r1) n ra⟩))
        exact ⟨p0, xs, j, n, rfl, r2.int_, hp1, by rw [← ra.length]; exact hn, k.nx _ q _ _ D2 S3.stp⟩
      · exact h2.elim
    · exact h1.elim⟩
/-- len(x), x a name -/
def zLenN (i : Nat) : ZE := fun z Q => match look z.e i with
  | some (.own (.lst ds)) => Q (.int ds.length) z
  | some (.dat (.lst ds)) => Q (.int ds.length) z
  | some (.dat (.tup ds)) => Q (.int ds.length) z
  | _ => False
theorem z_lenN (i : Nat) {x : Str} {p p2 pos : Pos} (hm : X.mg "len" = none) (hg : Gl X "len" := by rfl) (hN : X.N[i]? = some x := by rfl) (hv : Vis X.env.scope x := by first | exact Or.inl rfl | exact Or.inr (Or.inl rfl) | exact Or.inr (Or.inr rfl))
    (hd : (x == ("__debug__" : Str)) = false := by decide) (hcd : (x == ("__classdict__" : Str)) = false := by decide)
    (hs : starEach [.Name x p2] X.env = (false, eval (.Name x p2) X.env) :: starEach [] X.env := by rfl) (hpl : (backTo pos (starEach [] X.env)).any (·.1) = false := by rfl) :
    DE X B (.Call (.Name "len" p) [.Name x p2] [] pos) (zLenN i) :=
  pe_weak (pe_callB call_len_seq hg hm PySem.boot_len (pa_cons (pe_var hN hv hd hcd) pa_nil hs) (by decide) (by decide) hs hpl) fun σ H Q ⟨Y, D, z, Q', R, h, k⟩ => by
    unfold zLenN at h
    split at h
    · rename_i ds e0
      obtain ⟨p0, xs, s0, hp0, ra, _⟩ := R.own_lst e0
      exact ⟨_, s0, p0, xs, rfl, .inl (SqL.of hp0), by rw [← ra.length]; exact k _ z h _ H D (Step.refl R) (Rp.mk_int _)⟩
    · rename_i ds e0
      obtain ⟨v, s0, r⟩ := R.look_dat e0
      obtain ⟨a, xs, rfl, ha, ra⟩ := r.lst_
      exact ⟨_, s0, a, xs, rfl, .inl (SqL.of (R.dat _ _ ha)), by rw [← ra.length]; exact k _ z h _ H D (Step.refl R) (Rp.mk_int _)⟩
    · rename_i ds e0
      obtain ⟨v, s0, r⟩ := R.look_dat e0
      obtain ⟨a, xs, rfl, ha, ra⟩ := r.tup_
      exact ⟨_, s0, a, xs, rfl, .inr (SqT.of (R.dat _ _ ha)), by rw [← ra.length]; exact k _ z h _ H D (Step.refl R) (Rp.mk_int _)⟩
    · exact h.elim
/-- name += e -/
def zAug (i : Nat) (t : ZE) : ZS := fun E z => match look z.e i with
  | some (.dat (.int a)) => t z fun d z1 => match d with
    | .int b => E.nx ⟨z1.e.set i (some (.dat (.int (a + b)))), z1.w⟩
    | _ => False
  | _ => False
theorem zs_aug (i : Nat) {x : Str} {e : Expr} {t : ZE} {pos pos' : Pos} (he : DE X B e t) (hN : X.N.Nodup) (hi : X.N[i]? = some x := by rfl) (hx : Loc X.env.scope x := by first | exact Or.inl rfl | exact Or.inr rfl) (hf : X.fn x = true ∨ X.env.scope.names.lookup x = some .local := by first | exact .inl rfl | exact .inr rfl | assumption) :
    DS X B (.AugAssign (.Name x pos') .Add e pos) (zAug i t) := ps_weak (ps_aug (i := i) hN hi hx he ip_add hf) fun T σ H ⟨Y, D, z, E, R, h, k⟩ => by
  unfold zAug at h
  split at h
  · rename_i a e0
    obtain ⟨v, s0, r⟩ := R.look_dat e0
    refine ⟨v, s0, Y, D, z, _, R, h, fun d z1 h1 w H1 D1 S1 r1 => ?_⟩
    cases d with
    | int b => exact ⟨a, b, r.int_, r1.int_, k.nx _ h1 _ H1 D1 ⟨S1.rel.setDat (Rp.mk_int _), S1.same, S1.grow⟩⟩
    | _ => exact h1.elim
  · exact h.elim
/-- an own object becomes data, ahead of a block -/
def zFrz (i : Nat) (t : ZS) : ZS := fun E z => match look z.e i with
  | some (.own o) => t E ⟨z.e.set i (some (.dat o.d)), z.w⟩
  | _ => False
theorem zs_frz (i : Nat) {st : List Stmt} {t : ZS} (h : DSs X B st t) : DSs X B st (zFrz i t) := pss_weak h fun T σ H ⟨Y, D, z, E, R, h, k⟩ => by
  unfold zFrz at h
  split at h
  · rename_i o e0
    obtain ⟨p, u, h1, h2, h3, h4⟩ := R.look_own e0
    obtain ⟨D', S, r⟩ := Step.freeze R h4 h1
    exact ⟨Y, D', _, E, S.rel, h, k.from S.stp⟩
  · exact h.elim

/-! ### in lists of ints -/
def zIn (neg : Bool) : ZR2 := fun x y z Q => match x, y with
  | .int i, .lst ds => ∃ is : List Int, ds = is.map D.int ∧ Q (.bl (neg != is.contains i)) z
  | _, _ => False
theorem inV_ints (i : Int) : ∀ is : List Int, inV (.int i) (is.map V.int) = is.contains i
  | [] => rfl
  | j :: is => by
    have ih := inV_ints i is
    unfold inV at ih ⊢
    rw [List.map_cons, List.any_cons, ih, List.contains_cons]
    show ((j == i) || _) = _
    rw [show (j == i) = (i == j) from by rw [Bool.eq_iff_iff, beq_iff_eq, beq_iff_eq]; exact eq_comm]
theorem flat_ints : ∀ is : List Int, (is.map V.int).all flatV = true
  | [] => rfl
  | j :: is => by rw [List.map_cons, List.all_cons, flat_ints is]; rfl
theorem l_in (hB : B.K = X.K) : Link B (rIn X.K false) (zIn false) := fun Y Dh z σ H x y v u Q' Q R rx ry h k => by
  cases x with
  | int i =>
    cases y with
    | lst ds =>
      obtain ⟨is, rfl, q⟩ := h
      obtain ⟨a, xs, rfl, ha, ra⟩ := ry.lst_
      rw [RpA.ints ra] at ha
      exact ⟨a, _, rfl, .inl (SqL.of (R.dat _ _ ha)), by rw [rx.int_]; rfl, flat_ints is, by
        rw [rx.int_, if_neg Bool.false_ne_true, inV_ints]; exact k _ z (by simpa using q) _ H Dh (Step.refl R) (Rp.mk_bl _)⟩
    | _ => exact h.elim
  | _ => exact h.elim
theorem l_notIn (hB : B.K = X.K) : Link B (rIn X.K true) (zIn true) := fun Y Dh z σ H x y v u Q' Q R rx ry h k => by
  cases x with
  | int i =>
    cases y with
    | lst ds =>
      obtain ⟨is, rfl, q⟩ := h
      obtain ⟨a, xs, rfl, ha, ra⟩ := ry.lst_
      rw [RpA.ints ra] at ha
      exact ⟨a, _, rfl, .inl (SqL.of (R.dat _ _ ha)), by rw [rx.int_]; rfl, flat_ints is, by
        rw [rx.int_, if_pos rfl, inV_ints]; exact k _ z (by simpa using q) _ H Dh (Step.refl R) (Rp.mk_bl _)⟩
    | _ => exact h.elim
  | _ => exact h.elim
theorem z_in {a b : Expr} {ta tb : ZE} {pos : Pos} (ha : DE X B a ta) (hb : DE X B b tb) (hm : behindInMarks .In b = false := by rfl) (hB : B.K = X.K := by rfl) : DT X B (.Compare a [.In] [b] pos) (zB (zBin (zIn false) ta tb)) := z_cmpT op_in_seq (l_in hB) ha hb hm
theorem z_notIn {a b : Expr} {ta tb : ZE} {pos : Pos} (ha : DE X B a ta) (hb : DE X B b tb) (hm : behindInMarks .NotIn b = false := by rfl) (hB : B.K = X.K := by rfl) : DT X B (.Compare a [.NotIn] [b] pos) (zB (zBin (zIn true) ta tb)) := z_cmpT op_notIn_seq (l_notIn hB) ha hb hm
/-- e not in x, x a name's own list of ints -/
def zNotInN (i : Nat) (t : ZE) : ZT := fun z Q => t z fun y z1 => match look z1.e i, y with
  | some (.own (.lst ds)), .int j => ∃ is : List Int, ds = is.map D.int ∧ Q (!is.contains j) z1
  | _, _ => False
theorem z_notInN (i : Nat) {x : Str} {a : Expr} {t : ZE} {p pos : Pos} (ha : DE X B a t) (hN : X.N[i]? = some x := by rfl) (hv : Vis X.env.scope x := by first | exact Or.inl rfl | exact Or.inr (Or.inl rfl) | exact Or.inr (Or.inr rfl))
    (hd : (x == ("__debug__" : Str)) = false := by decide) (hcd : (x == ("__classdict__" : Str)) = false := by decide) (hm : behindInMarks .NotIn (.Name x p) = false := by rfl) : DT X B (.Compare a [.NotIn] [.Name x p] pos) (zNotInN i t) :=
  pt_weak (pt_cmpR op_notIn_seq ha (pe_var hN hv hd hcd) hm) fun σ H Q ⟨Y, D, z, Q', R, h, k⟩ => ⟨Y, D, z, _, R, h, fun y z1 h1 v H1 D1 S1 r1 => by
    split at h1
    · rename_i ds j e0
      obtain ⟨is, rfl, q⟩ := h1
      obtain ⟨p0, xs, s0, hp0, ra, _⟩ := S1.rel.own_lst e0
      rw [RpA.ints ra] at hp0
      exact ⟨_, s0, p0, _, rfl, .inl (SqL.of hp0), by rw [r1.int_]; rfl, flat_ints is, _, rfl, by
        rw [r1.int_, if_pos rfl, inV_ints]; exact k _ z1 q H1 D1 S1⟩
    · exact h1.elim⟩

/-! ### dicts with int keys -/
def dget : List Int → List D → Int → Option D
  | k :: ks, d :: ds, j => if k = j then some d else dget ks ds j
  | _, _, _ => none
def dputK (ks : List Int) (k : Int) : List Int := if k ∈ ks then ks else ks ++ [k]
def dputV (ks : List Int) (ds : List D) (k : Int) (x : D) : List D := if k ∈ ks then List.zipWith (fun j d => if j = k then x else d) ks ds else ds ++ [x]
theorem valV_zip {H : Hp} (j : Int) : ∀ {ks : List Int} {ds : List D} {xs : List V}, ks.length = xs.length → RpA B H ds xs →
    (∀ d, dget ks ds j = some d → ∃ x, valV ((ks.map Sum.inl).zip xs) (Sum.inl j : Key) = some x ∧ Rp B H d x) ∧ (valV ((ks.map Sum.inl).zip xs) (Sum.inl j : Key)).isSome = decide (j ∈ ks)
  | [], ds, xs, hl, r => ⟨fun d e => by simp [dget] at e, rfl⟩
  | k :: ks, [], xs, hl, r => by rw [r.nil_] at hl; simp at hl
  | k :: ks, d :: ds, xs, hl, r => by
    obtain ⟨x, s, rfl, r1, r2⟩ := r.cons_
    obtain ⟨h1, h2⟩ := valV_zip j (ks := ks) (by simpa using hl) r2
    rw [List.map_cons, List.zip_cons_cons]
    by_cases e : k = j
    · subst e
      rw [valV_pos rfl]
      refine ⟨fun d' e' => ?_, by simp⟩
      unfold dget at e'
      rw [if_pos rfl] at e'
      cases e'
      exact ⟨x, rfl, r1⟩
    · rw [valV_neg (by intro q; exact e (Sum.inl.inj q))]
      refine ⟨fun d' e' => h1 d' (by unfold dget at e'; rw [if_neg e] at e'; exact e'), ?_⟩
      rw [h2]
      simp [Ne.symm e, eq_comm, e]
theorem any_zip (j : Int) : ∀ {ks : List Int} {xs : List V}, ks.length = xs.length → (((ks.map (Sum.inl : Int → Key)).zip xs).any fun kv => decide (kv.1 = Sum.inl j)) = decide (j ∈ ks)
  | [], _, _ => rfl
  | k :: ks, [], h => by simp at h
  | k :: ks, x :: xs, h => by
    rw [List.map_cons, List.zip_cons_cons, List.any_cons, any_zip j (ks := ks) (by simpa using h)]
    by_cases e : k = j
    · subst e; simp
    · have : ¬ (Sum.inl k : Key) = Sum.inl j := fun q => e (Sum.inl.inj q)
      simp [e, Ne.symm e, eq_comm]
theorem map_zip (j : Int) (v : V) : ∀ {ks : List Int} {xs : List V}, ks.length = xs.length → (((ks.map (Sum.inl : Int → Key)).zip xs).map fun kv => if kv.1 = Sum.inl j then (kv.1, v) else kv) = (ks.map Sum.inl).zip (List.zipWith (fun i x => if i = j then v else x) ks xs)
  | [], _, _ => rfl
  | k :: ks, [], h => by simp at h
  | k :: ks, x :: xs, h => by
    rw [List.map_cons, List.zip_cons_cons, List.map_cons, map_zip j v (ks := ks) (by simpa using h), List.zipWith_cons_cons, List.zip_cons_cons]
    by_cases e : k = j
    · subst e; simp
    · have : ¬ (Sum.inl k : Key) = Sum.inl j := fun q => e (Sum.inl.inj q)
      simp [e]
theorem zipW_rp {H : Hp} {j : Int} {d : D} {v : V} (r : Rp B H d v) : ∀ {ks : List Int} {ds : List D} {xs : List V}, RpA B H ds xs → RpA B H (List.zipWith (fun i x => if i = j then d else x) ks ds) (List.zipWith (fun i x => if i = j then v else x) ks xs)
  | [], ds, xs, h => RpA.mk_nil
  | k :: ks, [], xs, h => by rw [h.nil_]; exact RpA.mk_nil
  | k :: ks, e :: ds, xs, h => by
    obtain ⟨x, s, rfl, r1, r2⟩ := h.cons_
    rw [List.zipWith_cons_cons, List.zipWith_cons_cons]
    refine RpA.mk_cons ?_ (zipW_rp r r2)
    by_cases e : k = j
    · rw [if_pos e, if_pos e]; exact r
    · rw [if_neg e, if_neg e]; exact r1
theorem putK_zip {H : Hp} {j : Int} {d : D} {v : V} (r : Rp B H d v) {ks : List Int} {ds : List D} {xs : List V} (hl : ks.length = xs.length) (ra : RpA B H ds xs) :
    ∃ ys, putK ((ks.map (Sum.inl : Int → Key)).zip xs) (Sum.inl j) v = ((dputK ks j).map Sum.inl).zip ys ∧ (dputK ks j).length = ys.length ∧ RpA B H (dputV ks ds j d) ys := by
  unfold putK dputK dputV
  rw [any_zip j hl]
  by_cases m : j ∈ ks
  · rw [if_pos (decide_eq_true m), if_pos m, if_pos m, map_zip j v hl]
    exact ⟨_, rfl, by rw [List.length_zipWith]; omega, zipW_rp r ra⟩
  · rw [decide_eq_false m, if_neg Bool.false_ne_true, if_neg m, if_neg m]
    refine ⟨xs ++ [v], ?_, by simp [hl], RpA.append ra (RpA.one r)⟩
    rw [List.map_append, List.zip_append (by simp [hl])]; rfl
/-- e in d, e not in d; d a name's own dict -/
def zInD (neg : Bool) (i : Nat) (t : ZE) : ZT := fun z Q => t z fun y z1 => match look z1.e i, y with
  | some (.own (.dct ks _)), .int j => Q (neg != decide (j ∈ ks)) z1
  | _, _ => False
theorem z_inD (i : Nat) {x : Str} {a : Expr} {t : ZE} {p pos : Pos} (ha : DE X B a t) (hu : X.A.units + 1 < cLine) (hN : X.N[i]? = some x := by rfl) (hv : Vis X.env.scope x := by first | exact Or.inl rfl | exact Or.inr (Or.inl rfl) | exact Or.inr (Or.inr rfl))
    (hd : (x == ("__debug__" : Str)) = false := by decide) (hcd : (x == ("__classdict__" : Str)) = false := by decide) (hm : behindInMarks .In (.Name x p) = false := by rfl) : DT X B (.Compare a [.In] [.Name x p] pos) (zInD false i t) :=
  pt_weak (pt_cmp (pc_din hu ha (pe_var hN hv hd hcd)) hm) fun σ H Q ⟨Y, D, z, Q', R, h, k⟩ => ⟨Y, D, z, _, R, h, fun y z1 h1 v H1 D1 S1 r1 => by
    split at h1
    · rename_i ks ds j e0
      obtain ⟨p0, xs, s0, hp0, hl, ra, _⟩ := S1.rel.own_dct e0
      have g := DGet.k (k := (Sum.inl j : Key)) hp0
      refine ⟨_, s0, p0, _, rfl, (by rw [r1.int_]; exact g), _, rfl, ?_⟩
      rw [(valV_zip j hl ra).2]
      exact k _ z1 (by simpa using h1) H1 D1 S1
    · exact h1.elim⟩
theorem z_notInD (i : Nat) {x : Str} {a : Expr} {t : ZE} {p pos : Pos} (ha : DE X B a t) (hu : X.A.units + 1 < cLine) (hN : X.N[i]? = some x := by rfl) (hv : Vis X.env.scope x := by first | exact Or.inl rfl | exact Or.inr (Or.inl rfl) | exact Or.inr (Or.inr rfl))
    (hd : (x == ("__debug__" : Str)) = false := by decide) (hcd : (x == ("__classdict__" : Str)) = false := by decide) (hm : behindInMarks .NotIn (.Name x p) = false := by rfl) : DT X B (.Compare a [.NotIn] [.Name x p] pos) (zInD true i t) :=
  pt_weak (pt_cmp (pc_dnotin hu ha (pe_var hN hv hd hcd)) hm) fun σ H Q ⟨Y, D, z, Q', R, h, k⟩ => ⟨Y, D, z, _, R, h, fun y z1 h1 v H1 D1 S1 r1 => by
    split at h1
    · rename_i ks ds j e0
      obtain ⟨p0, xs, s0, hp0, hl, ra, _⟩ := S1.rel.own_dct e0
      have g := DGet.k (k := (Sum.inl j : Key)) hp0
      refine ⟨_, s0, p0, _, rfl, (by rw [r1.int_]; exact g), _, rfl, ?_⟩
      rw [(valV_zip j hl ra).2]
      exact k _ z1 (by simpa using h1) H1 D1 S1
    · exact h1.elim⟩
/-- d[e], d a name's own dict -/
def zGetD (i : Nat) (t : ZE) : ZE := fun z Q => match look z.e i with
  | some (.own (.dct _ _)) => t z fun y z1 => match look z1.e i, y with
    | some (.own (.dct ks ds)), .int j => ∃ d, dget ks ds j = some d ∧ Q d z1
    | _, _ => False
  | _ => False
theorem z_getD (i : Nat) {x : Str} {a : Expr} {t : ZE} {p pos : Pos} (ha : DE X B a t) (hu : X.A.units + 1 < cLine) (hN : X.N[i]? = some x := by rfl) (hv : Vis X.env.scope x := by first | exact Or.inl rfl | exact Or.inr (Or.inl rfl) | exact Or.inr (Or.inr rfl))
    (hd : (x == ("__debug__" : Str)) = false := by decide) (hcd : (x == ("__classdict__" : Str)) = false := by decide) (hs : NoSl a := by intro _ _; rfl) : DE X B (.Subscript (.Name x p) a pos) (zGetD i t) :=
  pe_weak (pe_dget hu (pe_var hN hv hd hcd) ha hs) fun σ H Q ⟨Y, D, z, Q', R, h, k⟩ => by
    unfold zGetD at h
    split at h
    · rename_i ks0 ds0 e0
      obtain ⟨p0, xs0, s0, hp0, _⟩ := R.own_dct e0
      refine ⟨_, s0, Y, D, z, _, R, h, fun y z1 h1 v H1 D1 S1 r1 => ?_⟩
      split at h1
      · rename_i ks ds j e1
        obtain ⟨d, hd', q⟩ := h1
        obtain ⟨p1, xs, s1, hp1, hl, ra, _⟩ := S1.rel.own_dct e1
        rw [s0] at s1; cases s1
        obtain ⟨w, hw, rw'⟩ := (valV_zip j hl ra).1 d hd'
        have g := DGet.k (k := (Sum.inl j : Key)) hp1
        rw [hw] at g
        exact ⟨p0, w, rfl, (by rw [r1.int_]; exact g), k _ z1 q _ H1 D1 S1 rw'⟩
      · exact h1.elim
    · exact h.elim
/-- d[k] = e, d a name's own dict -/
def zPutD (i : Nat) (tk te : ZE) : ZS := fun E z => te z fun d z1 => match look z1.e i with
  | some (.own (.dct _ _)) => tk z1 fun y z2 => match look z2.e i, y with
    | some (.own (.dct ks ds)), .int j => ks.length < sizeLine ∧ E.nx (setO z2 i (.dct (dputK ks j) (dputV ks ds j d)))
    | _, _ => False
  | _ => False
theorem zs_putD (i : Nat) {x : Str} {b e : Expr} {tk te : ZE} {p pos' pos : Pos} (hb : DE X B b tk) (he : DE X B e te) (hu : X.A.units + 1 < cLine) (hN : X.N[i]? = some x := by rfl) (hv : Vis X.env.scope x := by first | exact Or.inl rfl | exact Or.inr (Or.inl rfl) | exact Or.inr (Or.inr rfl))
    (hd : (x == ("__debug__" : Str)) = false := by decide) (hcd : (x == ("__classdict__" : Str)) = false := by decide) (hs : swapsWith e (some (.Subscript (.Name x p) b pos')) pos.line X.env = pure false := by rfl) :
    DS X B (.Assign [.Subscript (.Name x p) b pos'] e pos) (zPutD i tk te) :=
  ps_weak (ps_dput hu (pe_var hN hv hd hcd) hb he hs) fun T σ H ⟨Y, D, z, E, R, h, k⟩ => ⟨Y, D, z, _, R, h, fun d z1 h1 v H1 D1 S1 r1 => by
    split at h1
    · rename_i ks0 ds0 e0
      obtain ⟨p0, xs0, s0, hp0, _⟩ := S1.rel.own_dct e0
      refine ⟨_, s0, Y, D1, z1, _, S1.rel, h1, fun y z2 h2 w H2 D2 S2 r2 => ?_⟩
      split at h2
      · rename_i ks ds j e1
        obtain ⟨p1, xs, s1, hp1, hl, ra, he1⟩ := S2.rel.own_dct e1
        rw [s0] at s1; cases s1
        obtain ⟨ys, h1, h2', h3⟩ := putK_zip (j := j) (Rp.mono S2.same _ _ r1) hl ra
        have S3 := S1.trans (S2.trans (Step.write (o' := .dct (dputK ks j) (dputV ks ds j d)) S2.rel he1 s0 ⟨ys, rfl, h2', h3⟩))
        have g := DPut.k (k := (Sum.inl j : Key)) (v := v) hp1 (by rw [List.length_zip, List.length_map, ← hl, Nat.min_self]; exact h2.1)
        rw [h1] at g
        exact ⟨p0, _, rfl, (by rw [r2.int_]; exact g), k.nx _ h2.2 _ _ D2 S3.stp⟩
      · exact h2.elim
    · exact h1.elim⟩
end
end Kz

set_option Elab.async false
set_option linter.all false
set_option maxRecDepth 100000
set_option maxHeartbeats 4000000
/-! isinstance of a def of the module: its class by the attribute. -/
namespace PySem
open Sem (wp)
namespace KzF
theorem slot_fga : Slot "function" "__getattribute__" "object.__getattribute__" :=
  .of (owner := "object") (n := "__getattribute__") (by rw [typeLookup_type, builtinLookup_eq_fast]; kernel_rfl) (by decide +kernel) (by decide +kernel) (by decide +kernel)
    (by first | exact .inl (by decide +kernel) | exact .inr (by decide +kernel)) (by rw [isSubtype_type]; kernel_rfl)
theorem lk_fclass : typeLookup (.type "function") "__class__" = pure (some (.builtin "object.__class__")) := by rw [typeLookup_type, builtinLookup_eq_fast]; kernel_rfl
theorem sub_fclass_owner : isSubtype (.type "function") (.type (".".intercalate ("object.__class__".cutAt '.').dropLast)) = pure true := by
  rw [F.owner_object_class, isSubtype_type]; kernel_rfl
end KzF
section
variable {prog : Program} {w : World} {A : Around} {E : Value → Shared → Prop} {h : Heap} {g : Array GenState} {d : Drawn} {t : Nat} {os : OsState} {a : Addr} {o : Obj}
theorem kzclass_get {R : Result → Shared → Prop} (hx : h.get? a = some o) (hc : o.cls = .type "function") (hq : R (.ok (.ret (.type "function"))) ⟨h, g, d, t, os⟩) :
    codeAny (model prog w) A (.call (.builtin "getset_descriptor.__get__") ⟨[.builtin "object.__class__", .ref a, .type "function"], []⟩) R ⟨h, g, d, t, os⟩ := by
  have hT : (⟨h, g, d, t, os⟩ : Shared).TypeIs (.ref a) "function" := ⟨_, hx, hc⟩
  have hT5 : (⟨h, g, d, t, os⟩ : Shared).TypeIs (.builtin "object.__class__") "getset_descriptor" := F.typeOf_object_class
  have f8 := KzF.sub_fclass_owner
  refine codeAny_call_builtin F.slot_gs_get.plain F.entry_gs_get (F.slot_gs_get.check _ _ _ _ _ _ _ _ hT5 (F.args_gs_get _ _ _) ?_)
  repeat (any_goals (first | assumption | wp_step))
  refine ⟨Code.quiet_builtin _ (by decide +kernel), codeAny_builtin F.entry_object_class ?_⟩
  repeat (any_goals (first | assumption | wp_step))
theorem kzclass_entry {tk : Tok} {Q : Fin → Shared → Prop} (hx : h.get? a = some o) (hc : o.cls = .type "function") (hq : Q (.done (.ret (.type "function"))) ⟨h, g, d, t, os⟩) :
    wpAny (model prog w) A (Builtin.«object.__getattribute__» ⟨[.ref a, .str "__class__" tk], []⟩) Q E ⟨h, g, d, t, os⟩ := by
  have hT : (⟨h, g, d, t, os⟩ : Shared).TypeIs (.ref a) "function" := ⟨_, hx, hc⟩
  have hT5 : (⟨h, g, d, t, os⟩ : Shared).TypeIs (.builtin "object.__class__") "getset_descriptor" := F.typeOf_object_class
  have f4 := KzF.lk_fclass
  have f5 := F.typeOf_object_class
  have f6 := F.slot_gs_get.lookup
  have f7 := F.slot_gs_set.lookup
  repeat (any_goals (first | assumption | wp_step))
  refine kzclass_get hx hc ?_
  repeat (any_goals (first | assumption | wp_step))
theorem kzclass_call {tk : Tok} {R : Result → Shared → Prop} (hx : h.get? a = some o) (hc : o.cls = .type "function") (hq : R (.ok (.ret (.type "function"))) ⟨h, g, d, t, os⟩) :
    codeAny (model prog w) A (.call (.builtin "object.__getattribute__") ⟨[.ref a, .str "__class__" tk], []⟩) R ⟨h, g, d, t, os⟩ :=
  codeAny_call_builtin KzF.slot_fga.plain F.entry_object_getattribute (KzF.slot_fga.check _ _ _ _ _ _ _ _ (show (⟨h, g, d, t, os⟩ : Shared).TypeIs (.ref a) "function" from ⟨_, hx, hc⟩) (F.args_object_getattribute_2 _ _) (kzclass_entry hx hc hq))
theorem kzclass_by {tk : Tok} {Q : Value → Shared → Prop} (hx : h.get? a = some o) (hc : o.cls = .type "function") (hq : Q (.type "function") ⟨h, g, d, t, os⟩) : wpAny (model prog w) A (getAttrBy (.ref a) (.str "__class__" tk) false) Q E ⟨h, g, d, t, os⟩ := by
  have hT : (⟨h, g, d, t, os⟩ : Shared).TypeIs (.ref a) "function" := ⟨_, hx, hc⟩
  have f2 := KzF.slot_fga.lookup
  have f3 := KzF.slot_fga.bind (.ref a)
  repeat (any_goals (first | assumption | wp_step))
  refine kzclass_call hx hc ?_
  repeat (any_goals (first | assumption | wp_step))
theorem kzclass_attr {Q : Option Value → Shared → Prop} (hx : h.get? a = some o) (hc : o.cls = .type "function") (hq : Q (some (.type "function")) ⟨h, g, d, t + 1, os⟩) : wpAny (model prog w) A (getAttr? (.ref a) "__class__") Q E ⟨h, g, d, t, os⟩ := by
  unfold getAttr? getAttrBy?
  repeat (any_goals (first | assumption | with_reducible apply kzclass_by hx hc | wp_step))
end
namespace W
theorem kitx_function {K : Frag} {a : Addr} : KitX K (.ref a) (.type "function") (KitAt a "function") := kitx_of kitAt_ty (fun {_ _ _ _ _ s} p k => by obtain ⟨h, g, d, t, os⟩ := s; obtain ⟨o, h1, h2⟩ := p; exact kzclass_attr h1 h2 k)
end W
end PySem

set_option Elab.async false
set_option linter.all false
set_option maxRecDepth 100000
set_option maxHeartbeats 4000000
set_option autoImplicit false
/-! Built-ins over data, deep ==, fields, three targets. -/
namespace Kz
open PySem PySem.Spec PyProof.Rows L2
theorem typeIn_at {K : PySem.W.Frag} {a : Addr} {v : Value} (h : PySem.W.typeIn K (.ref a) = some v) : ∃ o, K.lookup a = some o ∧ o.cls = v := by
  have h : (K.lookup a).map (·.cls) = some v := h
  cases e : K.lookup a with
  | none => rw [e] at h; cases h
  | some o => rw [e] at h; exact ⟨o, rfl, Option.some.inj h⟩
theorem paired_ty : ∀ cs : List String, Paired ClsV (cs.map V.ty) (cs.map Value.type)
  | [] => .nil
  | c :: cs => .cons (.ty c) (paired_ty cs)
section
variable {X : Cx} {B : RB}
/-! ### built-ins by name -/
abbrev ZRL := List D → Z → (SV → Z → Prop) → Prop
def LinkA (B : RB) (r : List V → Hp → VK → Prop) (R : ZRL) : Prop := ∀ (Y : RC) (Dh : Hp) (z : Z) (σ : L2.St) (H : Hp) (ds : List D) (vs : List V) (Q' : SV → Z → Prop) (Q : VK), Rel B Y Dh z σ H → RpA B Dh ds vs → R ds z Q' →
  (∀ s z', Q' s z' → ∀ v H' D', Step B Y Dh z σ H D' z' H' → VR B Y D' z' σ H H' s v → Q v H') → r vs H Q
def zBi (R : ZRL) (t : ZA) : ZM := fun z Q => t z fun ds z1 => R ds z1 Q
theorem linkA {r : List V → Hp → VK → Prop} {R : ZRL} {t : ZA} (l : LinkA B r R) : ∀ σ H Q, tZM B (zBi R t) σ H Q → tCB r (tZA B t) σ H Q := fun σ H Q ⟨Y, Dh, z, Q', R0, h, k⟩ =>
  ⟨Y, Dh, z, _, R0, h, fun ds z1 h1 vs H1 D1 S1 r1 => l Y D1 z1 σ H1 ds vs Q' Q S1.rel r1 h1 fun s z' q v H' D' S vr => k s z' q v H' D' (S1.trans S) (by
    cases s with
    | dat d => exact vr
    | own o =>
      obtain ⟨p, u, e1, e2, e3, e4⟩ := vr
      exact ⟨p, u, e1, e2, S1.grow p e3, e4⟩
    | bor d x => exact vr.elim)⟩
theorem z_bi {x : Str} {id : String} {r : List V → Hp → VK → Prop} {R : ZRL} {e : Expr} {es : List Expr} {t : ZA} {p pos : Pos} (hc : CallR X (.builtin id) r) (l : LinkA B r R) (hm : X.mg x = none) (hv : bootBuiltins x = some (.builtin id)) (ha : DA X B (e :: es) t) (hg : Gl X x := by rfl)
    (hn : x ≠ "__name__" := by decide) (hdb : (x == ("__debug__" : Str)) = false := by decide) (he : starEach (e :: es) X.env = (false, eval e X.env) :: starEach es X.env := by rfl) (hpl : (backTo pos (starEach es X.env)).any (·.1) = false := by rfl) :
    DM X B (.Call (.Name x p) (e :: es) [] pos) (zBi R t) := pe_weak (pe_callB hc hg hm hv ha hn hdb he hpl) (linkA l)
theorem z_ty {x : Str} {id : String} {r : List V → Hp → VK → Prop} {R : ZRL} {e : Expr} {es : List Expr} {t : ZA} {p pos : Pos} (hc : CallR X (.type id) r) (l : LinkA B r R) (hm : X.mg x = none) (hv : bootBuiltins x = some (.type id)) (ha : DA X B (e :: es) t) (hg : Gl X x := by rfl)
    (hn : x ≠ "__name__" := by decide) (hdb : (x == ("__debug__" : Str)) = false := by decide) (he : starEach (e :: es) X.env = (false, eval e X.env) :: starEach es X.env := by rfl) (hpl : (backTo pos (starEach es X.env)).any (·.1) = false := by rfl) :
    DM X B (.Call (.Name x p) (e :: es) [] pos) (zBi R t) := pe_weak (pe_callTy hc hg hm hv ha hn hdb he hpl) (linkA l)
theorem RpA.one_ {H : Hp} {d : D} {vs : List V} (r : RpA B H [d] vs) : ∃ v, vs = [v] ∧ Rp B H d v := by
  obtain ⟨v, s, rfl, h1, h2⟩ := r.cons_
  rw [h2.nil_]
  exact ⟨v, rfl, h1⟩
theorem RpA.two_ {H : Hp} {d e : D} {vs : List V} (r : RpA B H [d, e] vs) : ∃ v w, vs = [v, w] ∧ Rp B H d v ∧ Rp B H e w := by
  obtain ⟨v, s, rfl, h1, h2⟩ := r.cons_
  obtain ⟨w, rfl, h3⟩ := h2.one_
  exact ⟨v, w, rfl, h1, h3⟩
/-! len, max, abs, int, sum, all, list, tuple, gcd -/
theorem vd {Y : RC} {D Hs H : Hp} {z : Z} {σ : L2.St} {d : Kz.D} {v : V} (r : Rp B D d v) : VR B Y D z σ Hs H (.dat d) v := r
def zLen : ZRL := fun ds z Q => match ds with
  | [.lst xs] => Q (.dat (.int xs.length)) z
  | [.tup xs] => Q (.dat (.int xs.length)) z
  | [.str x] => x.length ≤ sizeLine ∧ Q (.dat (.int x.length)) z
  | _ => False
theorem l_len (hB : B.K = X.K) : LinkA B (fun xs H Q => ∃ x n, xs = [x] ∧ LenV X.K x H n ∧ Q (.int n) H) zLen := fun Y D z σ H ds vs Q' Q R r h k => by
  unfold zLen at h
  split at h
  · obtain ⟨v, rfl, r1⟩ := r.one_
    obtain ⟨a, ys, rfl, ha, ra⟩ := r1.lst_
    exact ⟨_, ys.length, rfl, .inl ⟨ys, SqL.of (R.dat _ _ ha), rfl⟩, by rw [← ra.length]; exact k _ z h _ H D (Step.refl R) (vd (Rp.mk_int _))⟩
  · obtain ⟨v, rfl, r1⟩ := r.one_
    obtain ⟨a, ys, rfl, ha, ra⟩ := r1.tup_
    exact ⟨_, ys.length, rfl, .inr ⟨ys, SqT.of (R.dat _ _ ha), rfl⟩, by rw [← ra.length]; exact k _ z h _ H D (Step.refl R) (vd (Rp.mk_int _))⟩
  · rename_i x
    obtain ⟨v, rfl, r1⟩ := r.one_
    rw [r1.str_]
    exact ⟨_, x.length, rfl, ⟨h.1, rfl⟩, k _ z h.2 _ H D (Step.refl R) (vd (Rp.mk_int _))⟩
  · exact h.elim
def zMax : ZRL := fun ds z Q => match ds with
  | [.int i, .int j] => Q (.dat (.int (max i j))) z
  | _ => False
theorem l_max : LinkA B (fun xs H Q => ∃ i j : Int, xs = [.int i, .int j] ∧ Q (.int (if j > i then j else i)) H) zMax := fun Y D z σ H ds vs Q' Q R r h k => by
  unfold zMax at h
  split at h
  · rename_i i j
    obtain ⟨v, w, rfl, r1, r2⟩ := r.two_
    rw [r1.int_, r2.int_]
    refine ⟨i, j, rfl, ?_⟩
    rw [show (if j > i then j else i) = max i j from by split <;> omega]
    exact k _ z h _ H D (Step.refl R) (vd (Rp.mk_int _))
  · exact h.elim
def zAbs : ZRL := fun ds z Q => match ds with
  | [.int i] => Q (.dat (.int (i.natAbs : Nat))) z
  | _ => False
theorem l_abs : LinkA B (fun xs H Q => ∃ i : Int, xs = [.int i] ∧ Q (.int (if i < 0 then -i else i)) H) zAbs := fun Y D z σ H ds vs Q' Q R r h k => by
  unfold zAbs at h
  split at h
  · rename_i i
    obtain ⟨v, rfl, r1⟩ := r.one_
    rw [r1.int_]
    refine ⟨i, rfl, ?_⟩
    rw [show (if i < 0 then -i else i) = ((i.natAbs : Nat) : Int) from by split <;> omega]
    exact k _ z h _ H D (Step.refl R) (vd (Rp.mk_int _))
  · exact h.elim
def zSum : ZRL := fun ds z Q => match ds with
  | [.lst xs] => ∃ is : List Int, xs = is.map D.int ∧ Q (.dat (.int is.sum)) z
  | _ => False
theorem l_sum (hB : B.K = X.K) : LinkA B (rSum X.K) zSum := fun Y D z σ H ds vs Q' Q R r h k => by
  unfold zSum at h
  split at h
  · obtain ⟨is, rfl, q⟩ := h
    obtain ⟨v, rfl, r1⟩ := r.one_
    obtain ⟨a, ys, rfl, ha, ra⟩ := r1.lst_
    rw [RpA.ints ra] at ha
    exact ⟨a, is, rfl, SqL.of (R.dat _ _ ha), k _ z q _ H D (Step.refl R) (vd (Rp.mk_int _))⟩
  · exact h.elim
def zAll : ZRL := fun ds z Q => match ds with
  | [.lst xs] => ∃ bs : List Bool, xs = bs.map D.bl ∧ Q (.dat (.bl (bs.all id))) z
  | _ => False
theorem l_all (hB : B.K = X.K) : LinkA B (rAll X.K) zAll := fun Y D z σ H ds vs Q' Q R r h k => by
  unfold zAll at h
  split at h
  · obtain ⟨is, rfl, q⟩ := h
    obtain ⟨v, rfl, r1⟩ := r.one_
    obtain ⟨a, ys, rfl, ha, ra⟩ := r1.lst_
    rw [RpA.bls ra] at ha
    exact ⟨a, is, rfl, SqL.of (R.dat _ _ ha), k _ z q _ H D (Step.refl R) (vd (Rp.mk_bl _))⟩
  · exact h.elim
def zIntOf : ZRL := fun ds z Q => match ds with
  | [.int i] => Q (.dat (.int i)) z
  | _ => False
theorem l_int : LinkA B (fun xs H Q => (∃ i, xs = [.int i] ∧ Q (.int i) H) ∨ ∃ k, xs = [.bl k] ∧ Q (.int (if k then 1 else 0)) H) zIntOf := fun Y D z σ H ds vs Q' Q R r h k => by
  unfold zIntOf at h
  split at h
  · rename_i i
    obtain ⟨v, rfl, r1⟩ := r.one_
    rw [r1.int_]
    exact .inl ⟨i, rfl, k _ z h _ H D (Step.refl R) (vd (Rp.mk_int _))⟩
  · exact h.elim
def zListOf : ZRL := fun ds z Q => match ds with
  | [.lst xs] => Q (.own (.lst xs)) z
  | [.tup xs] => Q (.own (.lst xs)) z
  | _ => False
theorem l_list (hB : B.K = X.K) : LinkA B (fun xs H Q => ∃ p ys, xs = [.ref p] ∧ (SqL X.K H p ys ∨ SqT X.K H p ys) ∧ ∀ l, H l = none → Q (.ref l) (upd H l (.lst ys))) zListOf := fun Y D z σ H ds vs Q' Q R r h k => by
  unfold zListOf at h
  split at h
  · obtain ⟨v, rfl, r1⟩ := r.one_
    obtain ⟨a, ys, rfl, ha, ra⟩ := r1.lst_
    exact ⟨a, ys, rfl, .inl (SqL.of (R.dat _ _ ha)), fun p hp => k _ z h _ _ D (Step.aside R hp) ⟨p, _, rfl, upd_same, hp, (Fresh.new R hp).2, ys, rfl, ra⟩⟩
  · obtain ⟨v, rfl, r1⟩ := r.one_
    obtain ⟨a, ys, rfl, ha, ra⟩ := r1.tup_
    exact ⟨a, ys, rfl, .inr (SqT.of (R.dat _ _ ha)), fun p hp => k _ z h _ _ D (Step.aside R hp) ⟨p, _, rfl, upd_same, hp, (Fresh.new R hp).2, ys, rfl, ra⟩⟩
  · exact h.elim
def zTupOf : ZRL := fun ds z Q => match ds with
  | [.lst xs] => Q (.dat (.tup xs)) z
  | [.tup xs] => Q (.dat (.tup xs)) z
  | _ => False
theorem l_tup (hB : B.K = X.K) : LinkA B (fun xs H Q => ∃ p ys, xs = [.ref p] ∧ ((SqL X.K H p ys ∧ ∀ l, H l = none → Q (.ref l) (upd H l (.tup ys))) ∨ (SqT X.K H p ys ∧ Q (.ref p) H))) zTupOf := fun Y D z σ H ds vs Q' Q R r h k => by
  unfold zTupOf at h
  split at h
  · obtain ⟨v, rfl, r1⟩ := r.one_
    obtain ⟨a, ys, rfl, ha, ra⟩ := r1.lst_
    refine ⟨a, ys, rfl, .inl ⟨SqL.of (R.dat _ _ ha), fun p hp => ?_⟩⟩
    have S := Step.laid (o := .tup ys) R hp
    exact k _ z h _ _ _ S (vd (Rp.mk_tup upd_same (RpA.mono S.same _ _ ra)))
  · obtain ⟨v, rfl, r1⟩ := r.one_
    obtain ⟨a, ys, rfl, ha, ra⟩ := r1.tup_
    exact ⟨a, ys, rfl, .inr ⟨SqT.of (R.dat _ _ ha), k _ z h _ H D (Step.refl R) (vd (Rp.mk_tup ha ra))⟩⟩
  · exact h.elim
def zGcd : ZRL := fun ds z Q => match ds with
  | [.int i, .int j] => Q (.dat (.int ((Nat.gcd i.natAbs j.natAbs : Nat) : Int))) z
  | _ => False
theorem l_gcd : LinkA B rGcd zGcd := fun Y D z σ H ds vs Q' Q R r h k => by
  unfold zGcd at h
  split at h
  · rename_i i j
    obtain ⟨v, w, rfl, r1, r2⟩ := r.two_
    rw [r1.int_, r2.int_]
    exact ⟨i, j, rfl, k _ z h _ H D (Step.refl R) (vd (Rp.mk_int _))⟩
  · exact h.elim
theorem z_gcd {x : Str} {e : Expr} {es : List Expr} {t : ZA} {p pos : Pos} (hm : X.mg x = some (.builtin "math.gcd")) (ha : DA X B (e :: es) t) (hg : Gl X x := by rfl) (hdb : (x == ("__debug__" : Str)) = false := by decide)
    (he : starEach (e :: es) X.env = (false, eval e X.env) :: starEach es X.env := by rfl) (hpl : (backTo pos (starEach es X.env)).any (·.1) = false := by rfl) : DM X B (.Call (.Name x p) (e :: es) [] pos) (zBi zGcd t) :=
  pe_weak (pe_callBfun cr_gcd hg hm ha hdb he hpl) (linkA l_gcd)

/-! ### isinstance -/
def tyN : D → Option String
  | .non => some "NoneType"
  | .bl _ => some "bool"
  | .int _ => some "int"
  | .str _ => some "str"
  | .lst _ => some "list"
  | .tup _ => some "tuple"
  | .dct _ _ => some "dict"
  | .fn _ => some "function"
  | _ => none
theorem tyX_of {H D : Hp} {d : Kz.D} {v : V} {n : String} {K : PySem.W.Frag} (s : Same D H) (r : Rp B D d v) (h : tyN d = some n) : TyX K H v (.type n) ∨ ∃ a, v = .ref a ∧ n = "function" ∧ PySem.W.typeIn B.K (.ref a) = some (.type "function") := by
  cases d with
  | non => cases h; rw [r.non_]; exact .inl (.base .non)
  | bl b => cases h; rw [r.bl_]; exact .inl (.base (.bl b))
  | int b => cases h; rw [r.int_]; exact .inl (.base (.int b))
  | str b => cases h; rw [r.str_]; exact .inl (.base (.str b))
  | lst ds => cases h; obtain ⟨a, xs, rfl, ha, _⟩ := r.lst_; exact .inl (.base (.lst (s _ _ ha)))
  | tup ds => cases h; obtain ⟨a, xs, rfl, ha, _⟩ := r.tup_; exact .inl (.base (.tup (s _ _ ha)))
  | dct ks ds => cases h; obtain ⟨a, xs, rfl, ha, _⟩ := r.dct_; exact .inl (.base (.dK (s _ _ ha)))
  | fn a => cases h; unfold Rp at r; exact .inr ⟨a, r.1, rfl, r.2⟩
  | _ => cases h
/-- .. as the library's isinstance rules want it -/
theorem kit_of2 {pins : List (Addr × Obj)} {s : Shared} {σ : L2.St} {H D : Hp} {d : Kz.D} {v : V} {u : Value} {n : String} (hB : B.K = X.K) (I : Inv X pins σ H s) (ru : RelV v u) (sa : Same D H) (r : Rp B D d v) (h : tyN d = some n) :
    ∃ P : Heap → Prop, PySem.W.KitX X.K u (.type n) P ∧ P s.heap ∧ u ≠ .builtin "__main__.__loader__#opaque" := by
  rcases tyX_of (K := X.K) sa r h with t | ⟨a, rfl, rfl, e⟩
  · exact kit_of I ru t
  · obtain rfl : u = Value.ref a := ru
    obtain ⟨o, ho, hc⟩ := typeIn_at (hB ▸ e)
    exact ⟨_, PySem.W.kitx_function, ⟨o, I.kIn a o ho, hc⟩, fun z => nomatch z⟩
/-- isinstance(e, T) -/
def zIsi (T : String) (t : ZE) : ZE := fun z Q => t z fun d z1 => ∃ n b, tyN d = some n ∧ kitB n T = some b ∧ Q (.bl b) z1
theorem call_isiZ (hB : B.K = X.K) : CallR X (.builtin "isinstance") (fun xs H Q => ∃ (x : V) (c : String) (n : String) (b : Bool) (D : Hp) (d : Kz.D), xs = [x, .ty c] ∧ Same D H ∧ Rp B D d x ∧ tyN d = some n ∧ kitB n c = some b ∧ Q (.bl b) H) := by
  intro pins s σ H xs us Q I r h
  obtain ⟨x, c, n, b, D, d, rfl, sa, rp, ty, e, q⟩ := h
  obtain ⟨u1, u2, rfl, r1, r2⟩ := vals2 r
  obtain rfl : u2 = Value.type c := r2
  obtain ⟨P, Z, p, hx⟩ := kit_of2 hB I r1 sa rp ty
  exact PySem.W.kia_one Z I.kIn p (kit_ty e) hx fun tk => ⟨.bl b, H, I.tok tk, rfl, q⟩
theorem call_isiZT (hB : B.K = X.K) : CallR X (.builtin "isinstance") (fun xs H Q => ∃ (x : V) (tp : Addr) (cs : List String) (n : String) (b : Bool) (D : Hp) (d : Kz.D), xs = [x, .ref tp] ∧ H tp = some (.tup (cs.map V.ty)) ∧ Same D H ∧ Rp B D d x ∧ tyN d = some n ∧ PySem.W.kitAny X.K (.type n) (cs.map Value.type) = some b ∧ Q (.bl b) H) := by
  intro pins s σ H xs us Q I r h
  obtain ⟨x, tp, cs, n, b, D, d, rfl, hT, sa, rp, ty, e, q⟩ := h
  obtain ⟨u1, u2, rfl, r1, r2⟩ := vals2 r
  cases (show u2 = Value.ref tp from r2)
  obtain ⟨P, Z, p, hx⟩ := kit_of2 hB I r1 sa rp ty
  obtain ⟨_, its, rv, o, h1, h2, n', h3⟩ := (show ObjOk X.prog X.w H s.heap tp (.tup (cs.map V.ty)) from I.hok tp _ hT)
  have e3 : its = cs.map Value.type := ClsV.all (paired_ty cs) rv
  subst e3
  obtain ⟨oc, od, dt, sl⟩ := o
  simp only at h2 h3
  subst h2 h3
  exact PySem.W.kia_tup Z I.kIn p h1 e hx fun tk => ⟨.bl b, H, I.tok tk, rfl, q⟩
theorem z_isi {T : Str} {id : String} {e : Expr} {t : ZE} {p p2 pos : Pos} (he : DE X B e t) (hm : X.mg "isinstance" = none) (hT : X.mg T = none) (hv : bootBuiltins T = some (.type id)) (hB : B.K = X.K := by rfl) (hg : Gl X "isinstance" := by rfl) (hgT : Gl X T := by rfl)
    (hn : T ≠ "__name__" := by decide) (hdb : (T == ("__debug__" : Str)) = false := by decide)
    (s1 : starEach [e, .Name T p2] X.env = (false, eval e X.env) :: starEach [.Name T p2] X.env := by rfl) (s2 : starEach [.Name T p2] X.env = (false, eval (.Name T p2) X.env) :: starEach [] X.env := by rfl) (hpl : (backTo pos (starEach [.Name T p2] X.env)).any (·.1) = false := by rfl) :
    DE X B (.Call (.Name "isinstance" p) [e, .Name T p2] [] pos) (zIsi id t) :=
  pe_weak (pe_callB (call_isiZ (B := B) hB) hg hm boot_isinstance (pa_cons he (pa_cons (pe_bltn (v := .ty id) hgT hT hv rfl hn hdb) pa_nil s2) s1) (by decide) (by decide) s1 hpl) fun σ H Q ⟨Y, Dh, z, Q', R, h, k⟩ =>
    ⟨Y, Dh, z, _, R, h, fun d z1 ⟨n, b, h1, h2, q⟩ v H1 D1 S1 r1 => ⟨v, id, n, b, D1, d, rfl, S1.rel.dat, r1, h1, h2, k _ z1 q _ H1 D1 S1 (Rp.mk_bl _)⟩⟩
/-- isinstance(e, (T, U)) -/
def kitB2 (n T U : String) : Option Bool := match kitB n T with
  | some true => some true
  | some false => kitB n U
  | none => none
theorem kit2 {K : PySem.W.Frag} {n T U : String} {b : Bool} (h : kitB2 n T U = some b) : PySem.W.kitAny K (.type n) [.type T, .type U] = some b := by
  unfold kitB2 at h
  cases e : kitB n T with
  | none => rw [e] at h; cases h
  | some c =>
    rw [e] at h
    cases c with
    | true => exact kitAny_cons (kit_ty e) (fun z => nomatch z) fun _ => by cases h; rfl
    | false => exact kitAny_cons (kit_ty e) (fun _ => kitAny_cons (kit_ty (r := b) h) (fun q => by rw [q]; exact kitAny_nil) fun q => q) (fun z => nomatch z)
def zIsi2 (T U : String) (t : ZE) : ZE := fun z Q => t z fun d z1 => ∃ n b, tyN d = some n ∧ kitB2 n T U = some b ∧ Q (.bl b) z1
theorem z_isi2 {T U : Str} {id id2 : String} {e : Expr} {t : ZE} {p p2 p3 p4 pos : Pos} {k : Nat} (he : DE X B e t) (hm : X.mg "isinstance" = none) (hT : X.mg T = none) (hU : X.mg U = none) (hv : bootBuiltins T = some (.type id)) (hv2 : bootBuiltins U = some (.type id2)) (hB : B.K = X.K := by rfl) (hg : Gl X "isinstance" := by rfl) (hgT : Gl X T := by rfl) (hgU : Gl X U := by rfl)
    (hn : T ≠ "__name__" := by decide) (hdb : (T == ("__debug__" : Str)) = false := by decide) (hn2 : U ≠ "__name__" := by decide) (hdb2 : (U == ("__debug__" : Str)) = false := by decide)
    (t1 : starEach [.Name T p2, .Name U p3] X.env = (false, eval (.Name T p2) X.env) :: starEach [.Name U p3] X.env := by rfl) (t2 : starEach [.Name U p3] X.env = (false, eval (.Name U p3) X.env) :: starEach [] X.env := by rfl)
    (s1 : starEach [e, .Tuple [.Name T p2, .Name U p3] k p4] X.env = (false, eval e X.env) :: starEach [.Tuple [.Name T p2, .Name U p3] k p4] X.env := by rfl) (s2 : starEach [.Tuple [.Name T p2, .Name U p3] k p4] X.env = (false, eval (.Tuple [.Name T p2, .Name U p3] k p4) X.env) :: starEach [] X.env := by rfl)
    (hpl : (backTo pos (starEach [.Tuple [.Name T p2, .Name U p3] k p4] X.env)).any (·.1) = false := by rfl) :
    DE X B (.Call (.Name "isinstance" p) [e, .Tuple [.Name T p2, .Name U p3] k p4] [] pos) (zIsi2 id id2 t) :=
  pe_weak (pe_callB (call_isiZT (B := B) hB) hg hm boot_isinstance (pa_cons he (pa_cons (pe_tup (pa_cons (pe_bltn (v := .ty id) hgT hT hv rfl hn hdb) (pa_cons (pe_bltn (v := .ty id2) hgU hU hv2 rfl hn2 hdb2) pa_nil t2) t1)) pa_nil s2) s1) (by decide) (by decide) s1 hpl) fun σ H Q ⟨Y, Dh, z, Q', R, h, k⟩ =>
    ⟨Y, Dh, z, _, R, h, fun d z1 ⟨n, b, h1, h2, q⟩ v H1 D1 S1 r1 => ⟨by show 2 ≤ sizeLine; rw [sizeLine_eq]; omega, fun tp hp => by
      have A := Step.aside (o := .tup [V.ty id, V.ty id2]) S1.rel hp
      exact ⟨v, tp, [id, id2], n, b, D1, d, rfl, upd_same, A.rel.dat, r1, h1, kit2 h2, k _ z1 q _ _ D1 (S1.trans A) (Rp.mk_bl _)⟩⟩⟩

def kitB4 (n T U W Z : String) : Option Bool := match kitB n T with
  | some true => some true
  | some false => (match kitB n U with
    | some true => some true
    | some false => kitB2 n W Z
    | none => none)
  | none => none
theorem kit4 {K : PySem.W.Frag} {n T U W Z : String} {b : Bool} (h : kitB4 n T U W Z = some b) : PySem.W.kitAny K (.type n) [.type T, .type U, .type W, .type Z] = some b := by
  unfold kitB4 at h
  cases e : kitB n T with
  | none => rw [e] at h; cases h
  | some c =>
    rw [e] at h
    cases c with
    | true => exact kitAny_cons (kit_ty e) (fun z => nomatch z) fun _ => by cases h; rfl
    | false =>
      refine kitAny_cons (kit_ty e) (fun _ => ?_) (fun z => nomatch z)
      have h : (match kitB n U with | some true => some true | some false => kitB2 n W Z | none => none) = some b := h
      cases e2 : kitB n U with
      | none => rw [e2] at h; cases h
      | some c =>
        rw [e2] at h
        cases c with
        | true => exact kitAny_cons (kit_ty e2) (fun z => nomatch z) fun _ => by cases h; rfl
        | false => exact kitAny_cons (kit_ty e2) (fun _ => kit2 h) (fun z => nomatch z)
def zIsi4 (T U W V : String) (t : ZE) : ZE := fun z Q => t z fun d z1 => ∃ n b, tyN d = some n ∧ kitB4 n T U W V = some b ∧ Q (.bl b) z1
theorem z_isi4 {T U T3 T4 : Str} {id id2 id3 id4 : String} {e : Expr} {t : ZE} {p p2 p3 p4 p5 p6 pos : Pos} {k : Nat} (he : DE X B e t) (hm : X.mg "isinstance" = none) (hT : X.mg T = none) (hU : X.mg U = none) (hT3 : X.mg T3 = none) (hT4 : X.mg T4 = none) (hv : bootBuiltins T = some (.type id)) (hv2 : bootBuiltins U = some (.type id2)) (hv3 : bootBuiltins T3 = some (.type id3)) (hv4 : bootBuiltins T4 = some (.type id4)) (hB : B.K = X.K := by rfl) (hg : Gl X "isinstance" := by rfl) (hgT : Gl X T := by rfl) (hgU : Gl X U := by rfl) (hg3 : Gl X T3 := by rfl) (hg4 : Gl X T4 := by rfl)
    (hn : T ≠ "__name__" := by decide) (hdb : (T == ("__debug__" : Str)) = false := by decide) (hn2 : U ≠ "__name__" := by decide) (hdb2 : (U == ("__debug__" : Str)) = false := by decide) (hn3 : T3 ≠ "__name__" := by decide) (hdb3 : (T3 == ("__debug__" : Str)) = false := by decide) (hn4 : T4 ≠ "__name__" := by decide) (hdb4 : (T4 == ("__debug__" : Str)) = false := by decide)
    (t1 : starEach [.Name T p2, .Name U p3, .Name T3 p5, .Name T4 p6] X.env = (false, eval (.Name T p2) X.env) :: starEach [.Name U p3, .Name T3 p5, .Name T4 p6] X.env := by rfl) (t2 : starEach [.Name U p3, .Name T3 p5, .Name T4 p6] X.env = (false, eval (.Name U p3) X.env) :: starEach [.Name T3 p5, .Name T4 p6] X.env := by rfl)
    (t3 : starEach [.Name T3 p5, .Name T4 p6] X.env = (false, eval (.Name T3 p5) X.env) :: starEach [.Name T4 p6] X.env := by rfl) (t4 : starEach [.Name T4 p6] X.env = (false, eval (.Name T4 p6) X.env) :: starEach [] X.env := by rfl)
    (s1 : starEach [e, .Tuple [.Name T p2, .Name U p3, .Name T3 p5, .Name T4 p6] k p4] X.env = (false, eval e X.env) :: starEach [.Tuple [.Name T p2, .Name U p3, .Name T3 p5, .Name T4 p6] k p4] X.env := by rfl) (s2 : starEach [.Tuple [.Name T p2, .Name U p3, .Name T3 p5, .Name T4 p6] k p4] X.env = (false, eval (.Tuple [.Name T p2, .Name U p3, .Name T3 p5, .Name T4 p6] k p4) X.env) :: starEach [] X.env := by rfl)
    (hpl : (backTo pos (starEach [.Tuple [.Name T p2, .Name U p3, .Name T3 p5, .Name T4 p6] k p4] X.env)).any (·.1) = false := by rfl) :
    DE X B (.Call (.Name "isinstance" p) [e, .Tuple [.Name T p2, .Name U p3, .Name T3 p5, .Name T4 p6] k p4] [] pos) (zIsi4 id id2 id3 id4 t) :=
  pe_weak (pe_callB (call_isiZT (B := B) hB) hg hm boot_isinstance (pa_cons he (pa_cons (pe_tup (pa_cons (pe_bltn (v := .ty id) hgT hT hv rfl hn hdb) (pa_cons (pe_bltn (v := .ty id2) hgU hU hv2 rfl hn2 hdb2) (pa_cons (pe_bltn (v := .ty id3) hg3 hT3 hv3 rfl hn3 hdb3) (pa_cons (pe_bltn (v := .ty id4) hg4 hT4 hv4 rfl hn4 hdb4) pa_nil t4) t3) t2) t1)) pa_nil s2) s1) (by decide) (by decide) s1 hpl) fun σ H Q ⟨Y, Dh, z, Q', R, h, k⟩ =>
    ⟨Y, Dh, z, _, R, h, fun d z1 ⟨n, b, h1, h2, q⟩ v H1 D1 S1 r1 => ⟨by show 4 ≤ sizeLine; rw [sizeLine_eq]; omega, fun tp hp => by
      have A := Step.aside (o := .tup [V.ty id, V.ty id2, V.ty id3, V.ty id4]) S1.rel hp
      exact ⟨v, tp, [id, id2, id3, id4], n, b, D1, d, rfl, upd_same, A.rel.dat, r1, h1, kit4 h2, k _ z1 q _ _ D1 (S1.trans A) (Rp.mk_bl _)⟩⟩⟩

/-! ### fields of the net -/
def zMany (t : ZE) : ZE := fun z Q => t z fun d z1 => match d with
  | .net m _ => Q (.int m) z1
  | _ => False
def zLinks (t : ZE) : ZE := fun z Q => t z fun d z1 => match d with
  | .net _ l => Q l z1
  | _ => False
theorem z_many {e : Expr} {t : ZE} {pos : Pos} (he : DE X B e t) (c : Cls X.K B.C) (n : NoAttr X.K B.C "many") (hb : attributeBase e "many" X.env (eval e X.env) = eval e X.env := by rfl) : DE X B (.Attribute e "many" pos) (zMany t) :=
  pe_weak (pe_fld he hb) fun σ H Q ⟨Y, Dh, z, Q', R, h, k⟩ => ⟨Y, Dh, z, _, R, h, fun d z1 h1 v H1 D1 S1 r1 => by
    cases d with
    | net m l =>
      obtain ⟨a, dx, fs, u, rfl, ha, l1, l2, rl⟩ := r1.net_
      exact ⟨a, B.C, dx, fs, _, rfl, S1.rel.dat _ _ ha, c, n, l1, k _ z1 h1 _ H1 D1 S1 (Rp.mk_int _)⟩
    | _ => exact h1.elim⟩
theorem z_links {e : Expr} {t : ZE} {pos : Pos} (he : DE X B e t) (c : Cls X.K B.C) (n : NoAttr X.K B.C "links") (hb : attributeBase e "links" X.env (eval e X.env) = eval e X.env := by rfl) : DE X B (.Attribute e "links" pos) (zLinks t) :=
  pe_weak (pe_fld he hb) fun σ H Q ⟨Y, Dh, z, Q', R, h, k⟩ => ⟨Y, Dh, z, _, R, h, fun d z1 h1 v H1 D1 S1 r1 => by
    cases d with
    | net m l =>
      obtain ⟨a, dx, fs, u, rfl, ha, l1, l2, rl⟩ := r1.net_
      exact ⟨a, B.C, dx, fs, _, rfl, S1.rel.dat _ _ ha, c, n, l2, k _ z1 h1 _ H1 D1 S1 rl⟩
    | _ => exact h1.elim⟩

/-! ### data as a whole -/
mutual
def toP : D → PyData
  | .bl b => .bool b
  | .int i => .int i
  | .str x => .str x
  | .lst ds => .list (toPs ds)
  | .tup ds => .tuple (toPs ds)
  | _ => .none
def toPs : List D → List PyData
  | [] => []
  | d :: ds => toP d :: toPs ds
end
mutual
/-- None, bools, ints, texts, lists and tuples of such -/
def isP : D → Bool
  | .non => true
  | .bl _ => true
  | .int _ => true
  | .str _ => true
  | .lst ds => isPs ds
  | .tup ds => isPs ds
  | _ => false
def isPs : List D → Bool
  | [] => true
  | d :: ds => isP d && isPs ds
end
mutual
theorem dp_of {H D : Hp} (s : Same D H) : ∀ (d : Kz.D) (v : V), isP d = true → Rp B D d v → Dp B.K H v (toP d)
  | .non, v, _, r => by rw [r.non_]; unfold toP; exact .non
  | .bl b, v, _, r => by rw [r.bl_]; unfold toP; exact .bl b
  | .int b, v, _, r => by rw [r.int_]; unfold toP; exact .int b
  | .str b, v, _, r => by rw [r.str_]; unfold toP; exact .str b
  | .lst ds, v, h, r => by
    obtain ⟨a, xs, rfl, ha, ra⟩ := r.lst_
    unfold toP
    unfold isP at h
    exact .lst (SqL.of (s _ _ ha)) (dpAll_of s ds xs h ra)
  | .tup ds, v, h, r => by
    obtain ⟨a, xs, rfl, ha, ra⟩ := r.tup_
    unfold toP
    unfold isP at h
    exact .tup (SqT.of (s _ _ ha)) (dpAll_of s ds xs h ra)
  | .dct _ _, v, h, r => by unfold isP at h; cases h
  | .net _ _, v, h, r => by unfold isP at h; cases h
  | .adr _, v, h, r => by unfold isP at h; cases h
  | .fn _, v, h, r => by unfold isP at h; cases h
theorem dpAll_of {H D : Hp} (s : Same D H) : ∀ (ds : List Kz.D) (vs : List V), isPs ds = true → RpA B D ds vs → DpAll B.K H vs (toPs ds)
  | [], vs, _, r => by rw [r.nil_]; unfold toPs; exact .nil
  | d :: ds, vs, h, r => by
    obtain ⟨v, vs, rfl, r1, r2⟩ := r.cons_
    unfold isPs at h
    rw [Bool.and_eq_true] at h
    unfold toPs
    exact .cons (dp_of s d v h.1 r1) (dpAll_of s ds vs h.2 r2)
end
/-- ==, != of data -/
def zEqD (neg : Bool) : ZR2 := fun x y z Q => isP x = true ∧ isP y = true ∧ SeqAt.shaped (toP x) = true ∧ SeqAt.shaped (toP y) = true ∧ Q (.bl (neg != PyData.eqv (toP x) (toP y))) z
theorem l_eqD (hB : B.K = X.K) : Link B (rEqD X.K) (zEqD false) := fun Y D z σ H x y v u Q' Q R rx ry ⟨h1, h2, h3, h4, q⟩ k =>
  ⟨toP x, toP y, hB ▸ dp_of R.dat x v h1 rx, hB ▸ dp_of R.dat y u h2 ry, h3, h4, k _ z (by simpa using q) _ H D (Step.refl R) (Rp.mk_bl _)⟩
theorem l_neD (hB : B.K = X.K) : Link B (rNeD X.K) (zEqD true) := fun Y D z σ H x y v u Q' Q R rx ry ⟨h1, h2, h3, h4, q⟩ k =>
  ⟨toP x, toP y, hB ▸ dp_of R.dat x v h1 rx, hB ▸ dp_of R.dat y u h2 ry, h3, h4, k _ z (by simpa using q) _ H D (Step.refl R) (Rp.mk_bl _)⟩
theorem z_eqD {a b : Expr} {ta tb : ZE} {pos : Pos} (hu : X.A.units + 64 < cLine) (ha : DE X B a ta) (hb : DE X B b tb) (hB : B.K = X.K := by rfl) : DE X B (.Compare a [.Eq] [b] pos) (zBin (zEqD false) ta tb) := z_cmp (op_eqD hu) (l_eqD hB) ha hb (nomark _)
theorem z_eqDT {a b : Expr} {ta tb : ZE} {pos : Pos} (hu : X.A.units + 64 < cLine) (ha : DE X B a ta) (hb : DE X B b tb) (hB : B.K = X.K := by rfl) : DT X B (.Compare a [.Eq] [b] pos) (zB (zBin (zEqD false) ta tb)) := z_cmpT (op_eqD hu) (l_eqD hB) ha hb (nomark _)
theorem z_neDT {a b : Expr} {ta tb : ZE} {pos : Pos} (hu : X.A.units + 64 < cLine) (ha : DE X B a ta) (hb : DE X B b tb) (hB : B.K = X.K := by rfl) : DT X B (.Compare a [.NotEq] [b] pos) (zB (zBin (zEqD true) ta tb)) := z_cmpT (op_neD hu) (l_neD hB) ha hb (nomark _)
/-! ### a, b, c = e1, e2, e3 -/
def zPar3 (i j l : Nat) (t u w : ZM) : ZS := fun E z => t z fun s1 z1 => u z1 fun s2 z2 => w z2 fun s3 z3 => E.nx ⟨((z3.e.set i (some s1)).set j (some s2)).set l (some s3), z3.w⟩
theorem zs_par3 {i j l : Nat} {x y y3 : Str} {a b c : Expr} {t u w : ZM} {px py pz pt : Pos} {kt k2 : Nat} {pt2 pos : Pos} (ha : DM X B a t) (hb : DM X B b u) (hd : DM X B c w) (hN : X.N.Nodup) (hc : X.calm = true := by rfl) (hi : X.N[i]? = some x := by rfl) (hj : X.N[j]? = some y := by rfl) (hl : X.N[l]? = some y3 := by rfl) (hij : i ≠ j := by decide) (hil : i ≠ l := by decide) (hjl : j ≠ l := by decide)
    (hx : X.env.scope.names.lookup x = some .local := by rfl) (hy : X.env.scope.names.lookup y = some .local := by rfl) (hz : X.env.scope.names.lookup y3 = some .local := by rfl)
    (hw : swappedStores [.Tuple [.Name x px, .Name y py, .Name y3 pz] kt pt] (.Tuple [a, b, c] k2 pt2) X.env = pure (some [x, y, y3]) := by rfl)
    (hs : swapsWithSole [.Tuple [.Name x px, .Name y py, .Name y3 pz] kt pt] (.Tuple [a, b, c] k2 pt2) pos.line X.env = pure false := by rfl)
    (s1 : starEach (a :: [b, c]) X.env = (false, eval a X.env) :: starEach [b, c] X.env := by rfl) (s2 : starEach (b :: [c]) X.env = (false, eval b X.env) :: starEach [c] X.env := by rfl) (s3 : starEach (c :: []) X.env = (false, eval c X.env) :: starEach [] X.env := by rfl) :
    DS X B (.Assign [.Tuple [.Name x px, .Name y py, .Name y3 pz] kt pt] (.Tuple [a, b, c] k2 pt2) pos) (zPar3 i j l t u w) :=
  ps_weak (ps_par3 (i := i) (j := j) (l := l) hc hN hi hj hl hij hil hjl hx hy hz (pa_cons ha (pa_cons hb (pa_cons hd pa_nil s3) s2) s1) hw hs) fun T σ H ⟨Y, D, z, E, R, h, k⟩ =>
    ⟨Y, D, z, _, R, h, fun sv1 z1 h1 v1 H1 D1 S1 r1 => ⟨Y, D1, z1, _, S1.rel, h1, fun sv2 z2 h2 v2 H2 D2 S2 r2 => ⟨Y, D2, z2, _, S2.rel, h2, fun sv3 z3 h3 v3 H3 D3 S3 r3 => ⟨v1, v2, v3, rfl, by
      have q1 := (r1.step S2).step S3
      have q2 := r2.step S3
      refine k.nx _ h3 _ H3 D3 ⟨?_, S1.same.trans (S2.same.trans S3.same), fun p h => S1.grow p (S2.grow p (S3.grow p h))⟩
      have A := S3.rel.setVR (i := i) q1
      have n12 : ∀ o o2 p, sv2 = .own o → sv1 = .own o2 → v1 = .ref p → v2 ≠ .ref p := fun o2 o1 p e0 e1 e2 e => by
        subst e0 e1 e2 e
        obtain ⟨p1, u1, q1, hp1, _⟩ := r1
        cases q1
        obtain ⟨p2, u2, q2, hp2, hn2, _⟩ := r2
        cases q2
        rw [hp1] at hn2; cases hn2
      have n13 : ∀ o o2 p, sv3 = .own o → sv1 = .own o2 → v1 = .ref p → v3 ≠ .ref p := fun o2 o1 p e0 e1 e2 e => by
        subst e0 e1 e2 e
        obtain ⟨p1, u1, q1, hp1, _⟩ := r1.step S2
        cases q1
        obtain ⟨p2, u2, q2, hp2, hn2, _⟩ := r3
        cases q2
        rw [hp1] at hn2; cases hn2
      have n23 : ∀ o o2 p, sv3 = .own o → sv2 = .own o2 → v2 = .ref p → v3 ≠ .ref p := fun o2 o1 p e0 e1 e2 e => by
        subst e0 e1 e2 e
        obtain ⟨p1, u1, q1, hp1, _⟩ := r2
        cases q1
        obtain ⟨p2, u2, q2, hp2, hn2, _⟩ := r3
        cases q2
        rw [hp1] at hn2; cases hn2
      have A2 := A.setVR (i := j) (q2.set (i := i) (s2 := sv1) (v2 := v1) n12)
      exact A2.setVR (i := l) ((r3.set (i := i) (s2 := sv1) (v2 := v1) n13).set (i := j) (s2 := sv2) (v2 := v2) n23)⟩⟩⟩⟩
end
end Kz

set_option Elab.async false
set_option linter.all false
set_option maxRecDepth 100000
set_option maxHeartbeats 0
namespace Kp
open PySem PySem.Spec PyProof.Rows L2
def top (i : Nat) : Stmt := PySem.Challenge.pw_anyload_k85_whole_plans_at_their_own.main.body.getD i (.Pass ⟨0, 0, 0, 0⟩)
abbrev s_is_list : Stmt := top 5
abbrev s_is_whole : Stmt := top 6
abbrev s_is_number : Stmt := top 7
abbrev s_is_positive : Stmt := top 8
abbrev s_multiple_of : Stmt := top 9
abbrev s_lowest : Stmt := top 10
abbrev s_is_fraction : Stmt := top 11
abbrev s_is_below : Stmt := top 12
abbrev s_plus : Stmt := top 13
abbrev s_are_numbers : Stmt := top 20
abbrev s_is_arc : Stmt := top 21
abbrev s_checked_arcs : Stmt := top 22
abbrev s_longer_ways : Stmt := top 23
abbrev s_rings_of : Stmt := top 24
abbrev s_order_of : Stmt := top 25
abbrev s_led_to : Stmt := top 28
abbrev s_checked_rate : Stmt := top 30
abbrev s_sums_of : Stmt := top 31
abbrev s_potentials : Stmt := top 32
abbrev s_links_with : Stmt := top 34
abbrev s_bounds_of : Stmt := top 35
abbrev s_asked : Stmt := top 36
abbrev s_is_empty : Stmt := top 37
abbrev s_periods : Stmt := top 38
abbrev s_periodic_plan : Stmt := top 39
abbrev s_lower_rings : Stmt := top 41
abbrev s_way_between : Stmt := top 42
abbrev s_clash_of : Stmt := top 43
abbrev s_own_periods : Stmt := top 44
abbrev s_own_plan : Stmt := top 45
abbrev s_is_pair : Stmt := top 46
abbrev s_start_in : Stmt := top 47
abbrev s_is_own_plan : Stmt := top 48
abbrev s_law_start : Stmt := top 50
abbrev s_law_draw : Stmt := top 51
abbrev s_law_pick : Stmt := top 52
abbrev s_law_mixed : Stmt := top 53
abbrev s_law_same : Stmt := top 54
abbrev s_law_loose : Stmt := top 55
abbrev s_law_n_net : Stmt := top 56
abbrev s_law_n_links : Stmt := top 57
abbrev s_law_n_distances : Stmt := top 58
abbrev s_law_n_all_links : Stmt := top 59
abbrev s_law_n_rings : Stmt := top 60
abbrev s_law_n_sums : Stmt := top 61
abbrev s_law_is_less : Stmt := top 62
abbrev s_law_turned_up : Stmt := top 63
abbrev s_law_n_asks : Stmt := top 64
abbrev s_law_n_led : Stmt := top 65
abbrev s_law_n_lows : Stmt := top 66
abbrev s_law_is_fraction : Stmt := top 67
abbrev s_law_at : Stmt := top 68
abbrev s_law_is_behind : Stmt := top 69
abbrev s_law_keeps : Stmt := top 70
abbrev s_law_is_let : Stmt := top 71
abbrev s_law_bent : Stmt := top 72
abbrev s_law : Stmt := top 73
abbrev s_init : Stmt := inClass (top 26) 0
def d_is_list : He.DefD := ⟨("is_list", none), "is_list", "is_list", defArgs s_is_list, defBody s_is_list, defScope s_is_list, [], []⟩
def d_is_whole : He.DefD := ⟨("is_whole", none), "is_whole", "is_whole", defArgs s_is_whole, defBody s_is_whole, defScope s_is_whole, [], []⟩
def d_is_number : He.DefD := ⟨("is_number", none), "is_number", "is_number", defArgs s_is_number, defBody s_is_number, defScope s_is_number, [], []⟩
def d_is_positive : He.DefD := ⟨("is_positive", none), "is_positive", "is_positive", defArgs s_is_positive, defBody s_is_positive, defScope s_is_positive, [], []⟩
def d_multiple_of : He.DefD := ⟨("multiple_of", none), "multiple_of", "multiple_of", defArgs s_multiple_of, defBody s_multiple_of, defScope s_multiple_of, [], []⟩
def d_lowest : He.DefD := ⟨("lowest", none), "lowest", "lowest", defArgs s_lowest, defBody s_lowest, defScope s_lowest, [], []⟩
def d_is_fraction : He.DefD := ⟨("is_fraction", none), "is_fraction", "is_fraction", defArgs s_is_fraction, defBody s_is_fraction, defScope s_is_fraction, [], []⟩
def d_is_below : He.DefD := ⟨("is_below", none), "is_below", "is_below", defArgs s_is_below, defBody s_is_below, defScope s_is_below, [], []⟩
def d_plus : He.DefD := ⟨("plus", none), "plus", "plus", defArgs s_plus, defBody s_plus, defScope s_plus, [], []⟩
def d_are_numbers : He.DefD := ⟨("are_numbers", none), "are_numbers", "are_numbers", defArgs s_are_numbers, defBody s_are_numbers, defScope s_are_numbers, [], []⟩
def d_is_arc : He.DefD := ⟨("is_arc", none), "is_arc", "is_arc", defArgs s_is_arc, defBody s_is_arc, defScope s_is_arc, [], []⟩
def d_checked_arcs : He.DefD := ⟨("checked_arcs", none), "checked_arcs", "checked_arcs", defArgs s_checked_arcs, defBody s_checked_arcs, defScope s_checked_arcs, [], []⟩
def d_longer_ways : He.DefD := ⟨("longer_ways", none), "longer_ways", "longer_ways", defArgs s_longer_ways, defBody s_longer_ways, defScope s_longer_ways, [], []⟩
def d_rings_of : He.DefD := ⟨("rings_of", none), "rings_of", "rings_of", defArgs s_rings_of, defBody s_rings_of, defScope s_rings_of, [], []⟩
def d_order_of : He.DefD := ⟨("order_of", none), "order_of", "order_of", defArgs s_order_of, defBody s_order_of, defScope s_order_of, [], []⟩
def d_led_to : He.DefD := ⟨("led_to", none), "led_to", "led_to", defArgs s_led_to, defBody s_led_to, defScope s_led_to, [], []⟩
def d_checked_rate : He.DefD := ⟨("checked_rate", none), "checked_rate", "checked_rate", defArgs s_checked_rate, defBody s_checked_rate, defScope s_checked_rate, [], []⟩
def d_sums_of : He.DefD := ⟨("sums_of", none), "sums_of", "sums_of", defArgs s_sums_of, defBody s_sums_of, defScope s_sums_of, [], []⟩
def d_potentials : He.DefD := ⟨("potentials", none), "potentials", "potentials", defArgs s_potentials, defBody s_potentials, defScope s_potentials, [], []⟩
def d_links_with : He.DefD := ⟨("links_with", none), "links_with", "links_with", defArgs s_links_with, defBody s_links_with, defScope s_links_with, [], []⟩
def d_bounds_of : He.DefD := ⟨("bounds_of", none), "bounds_of", "bounds_of", defArgs s_bounds_of, defBody s_bounds_of, defScope s_bounds_of, [], []⟩
def d_asked : He.DefD := ⟨("asked", none), "asked", "asked", defArgs s_asked, defBody s_asked, defScope s_asked, [], []⟩
def d_is_empty : He.DefD := ⟨("is_empty", none), "is_empty", "is_empty", defArgs s_is_empty, defBody s_is_empty, defScope s_is_empty, [], []⟩
def d_periods : He.DefD := ⟨("periods", none), "periods", "periods", defArgs s_periods, defBody s_periods, defScope s_periods, [], []⟩
def d_periodic_plan : He.DefD := ⟨("periodic_plan", none), "periodic_plan", "periodic_plan", defArgs s_periodic_plan, defBody s_periodic_plan, defScope s_periodic_plan, [], []⟩
def d_lower_rings : He.DefD := ⟨("lower_rings", none), "lower_rings", "lower_rings", defArgs s_lower_rings, defBody s_lower_rings, defScope s_lower_rings, [], []⟩
def d_way_between : He.DefD := ⟨("way_between", none), "way_between", "way_between", defArgs s_way_between, defBody s_way_between, defScope s_way_between, [], []⟩
def d_clash_of : He.DefD := ⟨("clash_of", none), "clash_of", "clash_of", defArgs s_clash_of, defBody s_clash_of, defScope s_clash_of, [], []⟩
def d_own_periods : He.DefD := ⟨("own_periods", none), "own_periods", "own_periods", defArgs s_own_periods, defBody s_own_periods, defScope s_own_periods, [], []⟩
def d_own_plan : He.DefD := ⟨("own_plan", none), "own_plan", "own_plan", defArgs s_own_plan, defBody s_own_plan, defScope s_own_plan, [], []⟩
def d_is_pair : He.DefD := ⟨("is_pair", none), "is_pair", "is_pair", defArgs s_is_pair, defBody s_is_pair, defScope s_is_pair, [], []⟩
def d_start_in : He.DefD := ⟨("start_in", none), "start_in", "start_in", defArgs s_start_in, defBody s_start_in, defScope s_start_in, [], []⟩
def d_is_own_plan : He.DefD := ⟨("is_own_plan", none), "is_own_plan", "is_own_plan", defArgs s_is_own_plan, defBody s_is_own_plan, defScope s_is_own_plan, [], []⟩
def d_law_start : He.DefD := ⟨("_law_start", none), "_law_start", "_law_start", defArgs s_law_start, defBody s_law_start, defScope s_law_start, [], []⟩
def d_law_draw : He.DefD := ⟨("_law_draw", none), "_law_draw", "_law_draw", defArgs s_law_draw, defBody s_law_draw, defScope s_law_draw, [], []⟩
def d_law_pick : He.DefD := ⟨("_law_pick", none), "_law_pick", "_law_pick", defArgs s_law_pick, defBody s_law_pick, defScope s_law_pick, [], []⟩
def d_law_mixed : He.DefD := ⟨("_law_mixed", none), "_law_mixed", "_law_mixed", defArgs s_law_mixed, defBody s_law_mixed, defScope s_law_mixed, [], []⟩
def d_law_same : He.DefD := ⟨("_law_same", none), "_law_same", "_law_same", defArgs s_law_same, defBody s_law_same, defScope s_law_same, [], []⟩
def d_law_loose : He.DefD := ⟨("_law_loose", none), "_law_loose", "_law_loose", defArgs s_law_loose, defBody s_law_loose, defScope s_law_loose, [], []⟩
def d_law_n_net : He.DefD := ⟨("_law_n_net", none), "_law_n_net", "_law_n_net", defArgs s_law_n_net, defBody s_law_n_net, defScope s_law_n_net, [], []⟩
def d_law_n_links : He.DefD := ⟨("_law_n_links", none), "_law_n_links", "_law_n_links", defArgs s_law_n_links, defBody s_law_n_links, defScope s_law_n_links, [], []⟩
def d_law_n_distances : He.DefD := ⟨("_law_n_distances", none), "_law_n_distances", "_law_n_distances", defArgs s_law_n_distances, defBody s_law_n_distances, defScope s_law_n_distances, [], []⟩
def d_law_n_all_links : He.DefD := ⟨("_law_n_all_links", none), "_law_n_all_links", "_law_n_all_links", defArgs s_law_n_all_links, defBody s_law_n_all_links, defScope s_law_n_all_links, [], []⟩
def d_law_n_rings : He.DefD := ⟨("_law_n_rings", none), "_law_n_rings", "_law_n_rings", defArgs s_law_n_rings, defBody s_law_n_rings, defScope s_law_n_rings, [], []⟩
def d_law_n_sums : He.DefD := ⟨("_law_n_sums", none), "_law_n_sums", "_law_n_sums", defArgs s_law_n_sums, defBody s_law_n_sums, defScope s_law_n_sums, [], []⟩
def d_law_is_less : He.DefD := ⟨("_law_is_less", none), "_law_is_less", "_law_is_less", defArgs s_law_is_less, defBody s_law_is_less, defScope s_law_is_less, [], []⟩
def d_law_turned_up : He.DefD := ⟨("_law_turned_up", none), "_law_turned_up", "_law_turned_up", defArgs s_law_turned_up, defBody s_law_turned_up, defScope s_law_turned_up, [], []⟩
def d_law_n_asks : He.DefD := ⟨("_law_n_asks", none), "_law_n_asks", "_law_n_asks", defArgs s_law_n_asks, defBody s_law_n_asks, defScope s_law_n_asks, [], []⟩
def d_law_n_led : He.DefD := ⟨("_law_n_led", none), "_law_n_led", "_law_n_led", defArgs s_law_n_led, defBody s_law_n_led, defScope s_law_n_led, [], []⟩
def d_law_n_lows : He.DefD := ⟨("_law_n_lows", none), "_law_n_lows", "_law_n_lows", defArgs s_law_n_lows, defBody s_law_n_lows, defScope s_law_n_lows, [], []⟩
def d_law_is_fraction : He.DefD := ⟨("_law_is_fraction", none), "_law_is_fraction", "_law_is_fraction", defArgs s_law_is_fraction, defBody s_law_is_fraction, defScope s_law_is_fraction, [], []⟩
def d_law_at : He.DefD := ⟨("_law_at", none), "_law_at", "_law_at", defArgs s_law_at, defBody s_law_at, defScope s_law_at, [], []⟩
def d_law_is_behind : He.DefD := ⟨("_law_is_behind", none), "_law_is_behind", "_law_is_behind", defArgs s_law_is_behind, defBody s_law_is_behind, defScope s_law_is_behind, [], []⟩
def d_law_keeps : He.DefD := ⟨("_law_keeps", none), "_law_keeps", "_law_keeps", defArgs s_law_keeps, defBody s_law_keeps, defScope s_law_keeps, [], []⟩
def d_law_is_let : He.DefD := ⟨("_law_is_let", none), "_law_is_let", "_law_is_let", defArgs s_law_is_let, defBody s_law_is_let, defScope s_law_is_let, [], []⟩
def d_law_bent : He.DefD := ⟨("_law_bent", none), "_law_bent", "_law_bent", defArgs s_law_bent, defBody s_law_bent, defScope s_law_bent, [], []⟩
def d_law : He.DefD := ⟨("law", none), "law", "law", defArgs s_law, defBody s_law, defScope s_law, [], []⟩
def d_init : He.DefD := ⟨("Net", some "__init__"), "__init__", "Net.__init__", defArgs s_init, defBody s_init, defScope s_init, [], []⟩
def fn : List He.DefD := [d_is_list, d_is_whole, d_is_number, d_is_positive, d_multiple_of, d_lowest, d_is_fraction, d_is_below, d_plus, d_are_numbers, d_is_arc, d_checked_arcs, d_longer_ways, d_rings_of, d_order_of, d_led_to, d_checked_rate, d_sums_of, d_potentials, d_links_with, d_bounds_of, d_asked, d_is_empty, d_periods, d_periodic_plan, d_lower_rings, d_way_between, d_clash_of, d_own_periods, d_own_plan, d_is_pair, d_start_in, d_is_own_plan, d_law_start, d_law_draw, d_law_pick, d_law_mixed, d_law_same, d_law_loose, d_law_n_net, d_law_n_links, d_law_n_distances, d_law_n_all_links, d_law_n_rings, d_law_n_sums, d_law_is_less, d_law_turned_up, d_law_n_asks, d_law_n_led, d_law_n_lows, d_law_is_fraction, d_law_at, d_law_is_behind, d_law_keeps, d_law_is_let, d_law_bent, d_law, d_init]
def fa : List He.Fa := [.glo "is_list", .glo "is_whole", .glo "is_number", .glo "is_positive", .glo "multiple_of", .glo "lowest", .glo "is_fraction", .glo "is_below", .glo "plus", .glo "are_numbers", .glo "is_arc", .glo "checked_arcs", .glo "longer_ways", .glo "rings_of", .glo "order_of", .glo "led_to", .glo "checked_rate", .glo "sums_of", .glo "potentials", .glo "links_with", .glo "bounds_of", .glo "asked", .glo "is_empty", .glo "periods", .glo "periodic_plan", .glo "lower_rings", .glo "way_between", .glo "clash_of", .glo "own_periods", .glo "own_plan", .glo "is_pair", .glo "start_in", .glo "is_own_plan", .glo "_law_start", .glo "_law_draw", .glo "_law_pick", .glo "_law_mixed", .glo "_law_same", .glo "_law_loose", .glo "_law_n_net", .glo "_law_n_links", .glo "_law_n_distances", .glo "_law_n_all_links", .glo "_law_n_rings", .glo "_law_n_sums", .glo "_law_is_less", .glo "_law_turned_up", .glo "_law_n_asks", .glo "_law_n_led", .glo "_law_n_lows", .glo "_law_is_fraction", .glo "_law_at", .glo "_law_is_behind", .glo "_law_keeps", .glo "_law_is_let", .glo "_law_bent", .glo "law", .glo "Net", .free "isinstance", .free "list", .free "tuple", .free "int", .free "bool", .free "dict", .free "len", .free "all", .free "sum", .free "max", .free "abs", .free "sorted", .free "set", .free "repr", .free "range", .free "zip", .free "enumerate", .cls "Net", .mkr "Net", .noat "Net" "many", .noat "Net" "own_arcs", .noat "Net" "order", .noat "Net" "links", .noat "Net" "kept"]
def fnAt (K : PySem.W.Frag) : Option (Option Value) → Bool
  | some (some v) => decide (PySem.W.typeIn K v = some (.type "function"))
  | _ => false
def ex (K : PySem.W.Frag) : Bool := He.eqO (PySem.W.nsIn K mainGlobals "gcd") (some (some (.builtin "math.gcd"))) && fnAt K (PySem.W.nsIn K mainGlobals "_law_at")
abbrev R : PySem.W.OpenRow := PySem.W.OpenLaw.row PySem.Challenge.rw_anyload_k85_whole_plans_at_their_own
abbrev qv : Program := PySem.W.view R.prog [0, 73]
def tf : List He.Defn := [("law", none)]
abbrev hk : PySem.W.Hook := He.hookX 4 fa fn [] tf ex
def ob (s : PySem.W.SharedT) : He.AlX := He.obsX 4 fa fn [] tf ex (HandSHeadRun.getT s)
theorem ob_eq (s : PySem.W.SharedT) : ob s = hk.obs s.abs := He.obsX_eq (HandSHeadRun.getT_eq s)
def loose0 : List Str := [("LoadError" : Str), ("BadFraction" : Str), ("is_list" : Str), ("is_whole" : Str), ("is_number" : Str), ("is_positive" : Str), ("multiple_of" : Str), ("lowest" : Str), ("is_fraction" : Str), ("is_below" : Str), ("plus" : Str), ("BadMany" : Str)]
def loose1 : List Str := [("BadArc" : Str), ("Stuck" : Str), ("BadDistances" : Str), ("are_numbers" : Str), ("is_arc" : Str), ("checked_arcs" : Str), ("longer_ways" : Str), ("rings_of" : Str), ("order_of" : Str), ("Net" : Str), ("led_to" : Str), ("checked_rate" : Str)]
def loose2 : List Str := [("sums_of" : Str), ("potentials" : Str), ("links_with" : Str), ("bounds_of" : Str), ("asked" : Str), ("is_empty" : Str), ("periods" : Str), ("periodic_plan" : Str), ("lower_rings" : Str), ("way_between" : Str), ("clash_of" : Str), ("own_periods" : Str)]
def loose3 : List Str := [("own_plan" : Str), ("is_pair" : Str), ("start_in" : Str), ("is_own_plan" : Str), ("_law_start" : Str), ("_law_draw" : Str), ("_law_pick" : Str), ("_law_mixed" : Str), ("_law_same" : Str), ("_law_loose" : Str), ("_law_n_net" : Str), ("_law_n_links" : Str)]
def loose4 : List Str := [("_law_n_distances" : Str), ("_law_n_all_links" : Str), ("_law_n_rings" : Str), ("_law_n_sums" : Str), ("_law_is_less" : Str), ("_law_turned_up" : Str), ("_law_n_asks" : Str), ("_law_n_led" : Str), ("_law_n_lows" : Str), ("_law_is_fraction" : Str), ("_law_at" : Str), ("_law_is_behind" : Str)]
def loose5 : List Str := [("_law_keeps" : Str), ("_law_is_let" : Str), ("_law_bent" : Str)]
def loose : List Str := loose0 ++ loose1 ++ loose2 ++ loose3 ++ loose4 ++ loose5
theorem run (w : World) : HandSHeadRun.RunEqI R qv hk ob 9000 loose w := by
  delta HandSHeadRun.RunEqI
  kernel_rfl
end Kp

set_option Elab.async false
set_option linter.all false
set_option maxRecDepth 100000
set_option maxHeartbeats 4000000
set_option autoImplicit false
/-! Defs over data: the rule for a def; what the top has left. -/
namespace Kz
open PySem PySem.Spec PyProof.Rows L2

def startE (N : List Str) (ds : List D) : List (Option SV) := ds.map (fun d => some (SV.dat d)) ++ List.replicate (N.length - ds.length) none
theorem start_slot {B : RB} {Dh : Hp} : ∀ {ds : List D} {vs : List V} (n : Nat), RpA B Dh ds vs → ∀ (i : Nat) s, (ds.map (fun d => some (SV.dat d)) ++ List.replicate n none)[i]? = some s → ∃ v, (vs.map some ++ List.replicate n none)[i]? = some v ∧ (s = none ∨ ∃ d x, s = some (SV.dat d) ∧ v = some x ∧ Rp B Dh d x)
  | [], vs, n, r, i, s, e => by
    rw [r.nil_]
    rw [List.map_nil, List.nil_append] at e ⊢
    rw [List.getElem?_replicate] at e
    split at e
    · rename_i lt
      cases e
      exact ⟨none, by rw [List.getElem?_replicate, if_pos lt], .inl rfl⟩
    · cases e
  | d :: ds, vs, n, r, 0, s, e => by
    obtain ⟨x, xs, rfl, r1, r2⟩ := r.cons_
    cases e
    exact ⟨some x, rfl, .inr ⟨d, x, rfl, rfl, r1⟩⟩
  | d :: ds, vs, n, r, i + 1, s, e => by
    obtain ⟨x, xs, rfl, r1, r2⟩ := r.cons_
    exact start_slot n r2 i s (by simpa using e)
theorem start_rel {B : RB} {Y : RC} {Dh : Hp} {w : Wd} {H : Hp} {N : List Str} {ds : List D} {vs : List V} (R : Rel B Y Dh ⟨[], w⟩ [] H) (r : RpA B Dh ds vs) : Rel B Y Dh ⟨startE N ds, w⟩ (L2.start N vs) H := by
  have e : L2.start N vs = vs.map some ++ List.replicate (N.length - ds.length) none := by unfold L2.start; rw [r.length]
  refine ⟨R.keep, R.dat, R.dom, R.wr, ?_, fun i s h => ?_, fun i j o o' p h => ?_⟩
  · rw [e]; unfold startE; rw [List.length_append, List.length_append, List.length_map, List.length_map, List.length_replicate, List.length_replicate, r.length]
  · obtain ⟨v, h1, h2⟩ := start_slot _ r i s h
    rw [e]
    refine ⟨v, h1, ?_⟩
    rcases h2 with rfl | ⟨d, x, rfl, rfl, h2⟩
    · exact True.intro
    · exact ⟨x, rfl, h2⟩
  · obtain ⟨v, h1, h2⟩ := start_slot _ r i _ h
    rcases h2 with h2 | ⟨d, x, h2, _⟩ <;> cases h2
/-- what a body is to reach -/
def fin (Q : SV → Wd → Prop) : ZEnds := ⟨fun z => Q (.dat .non) z.w, fun s z => Q s z.w, fun _ => False, fun _ => False⟩
section
variable {P : Program} {w : World} {K : PySem.W.Frag} {mg : Str → Option Value} {base : Heap} {B : RB}
theorem zdef {x : Str} {params : Arguments} {body : List Stmt} {scope : Scope} {f : Addr} {fd : FuncData} {N ps : List Str} {k : Nat} {F : ZF} (FD : FunD K x x params body scope [] [] f fd) (hm : mg x = some (.ref f)) (S : FnScope N ps scope)
    (hb : ∀ (kV doc pm : Value) (an : Option Addr) (cdv ct : Value) (us : List Value), us.length = ps.length → bindArgs (PySem.W.fnOf x x params body scope .none kV doc pm an cdv ct) ⟨us, []⟩ = pure (ps.zip us))
    (len : ∀ ds wd Q, F ds wd Q → ds.length = ps.length)
    (hbody : ∀ (cdv : Value) (A : Around) (outer : List Env) (s : Shared) (H : Hp) (E : XK), Room k (A.deeper (envOfC x scope s.heap.objs.size f cdv)) →
      ∃ t, DSs (cxOf CX0 P w K mg base N x scope f cdv A outer s H E).nox B body t ∧ ∀ ds wd Q, F ds wd Q → t (fin Q) ⟨startE N ds, wd⟩) : ZDef P w K mg base B x (k + 1) F := by
  refine ⟨f, fd, ps, ?_, hm, FD.kp, FD.bindsN fun kV doc pm an cdv ct us hl => hb kV doc pm an cdv ct us hl⟩
  refine FunD.ok (CX := CX0) FD S (fun vs H Q E ⟨Y, Dh, ds, wd, Q', R, r, h, k⟩ => by rw [← r.length]; exact len ds wd Q' h) fun cdv A outer s H vs Q E hr ⟨Y, Dh, ds, wd, Q', R, r, h, k⟩ => ?_
  obtain ⟨t, dt, ht⟩ := hbody cdv A outer s H E hr
  refine ⟨tZS B t, dt.nox, Y, Dh, _, _, start_rel R r, ht ds wd Q' h, ⟨fun z' q σ' H' D' S => ?_, fun d z' q v σ' H' D' S rp => ?_, fun z' q => q.elim, fun z' q => q.elim⟩⟩
  · exact k _ _ q _ H' D' S.rel.bare S.same S.grow (show Rp B D' .non .non from Rp.mk_non)
  · exact k _ _ q v H' D' S.rel.bare S.same S.grow rp
/-- what the top has left: the built-ins' names are free, the class -/
structure Top (K : PySem.W.Frag) (mg : Str → Option Value) (B : RB) : Prop where
  isinstance : mg "isinstance" = none
  list : mg "list" = none
  tuple : mg "tuple" = none
  int : mg "int" = none
  bool : mg "bool" = none
  dict : mg "dict" = none
  len : mg "len" = none
  all : mg "all" = none
  sum : mg "sum" = none
  max : mg "max" = none
  abs : mg "abs" = none
  sorted : mg "sorted" = none
  set : mg "set" = none
  repr : mg "repr" = none
  range : mg "range" = none
  zip : mg "zip" = none
  enumerate : mg "enumerate" = none
  gcd : mg "gcd" = some (.builtin "math.gcd")
  cls : Cls K B.C
  many : NoAttr K B.C "many"
  links : NoAttr K B.C "links"
  own_arcs : NoAttr K B.C "own_arcs"
  order : NoAttr K B.C "order"
  kept : NoAttr K B.C "kept"
  net : mg ("Net" : Str) = some (.ref B.C)
  ini : ∃ f fd, FunD K Kp.d_init.name Kp.d_init.qual Kp.d_init.params Kp.d_init.body Kp.d_init.scope (Kp.d_init.dvs K) (Kp.d_init.kws K) f fd ∧ Mk K B.C f
  lawat : ∃ f, mg ("_law_at" : Str) = some (.ref f) ∧ PySem.W.typeIn K (.ref f) = some (.type "function")
def AllDefs (K : PySem.W.Frag) (mg : Str → Option Value) : Prop := ∀ (i : Nat) (d : He.DefD), Kp.fn[i]? = some d → d.at_.2 = none → ∃ f fd, FunD K d.name d.qual d.params d.body d.scope (d.dvs K) (d.kws K) f fd ∧ mg d.at_.1 = some (.ref f)
end
end Kz

set_option Elab.async false
set_option linter.all false
set_option maxRecDepth 100000
set_option maxHeartbeats 4000000
set_option autoImplicit false
/-! Rules to reduce a reading by simp. -/
namespace Kz
open PySem PySem.Spec PyProof.Rows L2
theorem st_cc {n : Str} {N : List Str} {d : D} {ds : List D} : startE (n :: N) (d :: ds) = some (.dat d) :: startE N ds := by simp [startE]
theorem st_cn {n : Str} {N : List Str} : startE (n :: N) [] = none :: startE N [] := by simp [startE, List.replicate]
theorem st_nn : startE [] [] = [] := rfl
theorem lk0 {a0 : Option SV} {r : List (Option SV)} : look (a0 :: r) 0 = a0 := rfl
theorem se0 {a0 v : Option SV} {r : List (Option SV)} : (a0 :: r).set 0 v = v :: r := rfl
theorem lk1 {a0 a1 : Option SV} {r : List (Option SV)} : look (a0 :: a1 :: r) 1 = a1 := rfl
theorem se1 {a0 a1 v : Option SV} {r : List (Option SV)} : (a0 :: a1 :: r).set 1 v = a0 :: v :: r := rfl
theorem lk2 {a0 a1 a2 : Option SV} {r : List (Option SV)} : look (a0 :: a1 :: a2 :: r) 2 = a2 := rfl
theorem se2 {a0 a1 a2 v : Option SV} {r : List (Option SV)} : (a0 :: a1 :: a2 :: r).set 2 v = a0 :: a1 :: v :: r := rfl
theorem lk3 {a0 a1 a2 a3 : Option SV} {r : List (Option SV)} : look (a0 :: a1 :: a2 :: a3 :: r) 3 = a3 := rfl
theorem se3 {a0 a1 a2 a3 v : Option SV} {r : List (Option SV)} : (a0 :: a1 :: a2 :: a3 :: r).set 3 v = a0 :: a1 :: a2 :: v :: r := rfl
theorem lk4 {a0 a1 a2 a3 a4 : Option SV} {r : List (Option SV)} : look (a0 :: a1 :: a2 :: a3 :: a4 :: r) 4 = a4 := rfl
theorem se4 {a0 a1 a2 a3 a4 v : Option SV} {r : List (Option SV)} : (a0 :: a1 :: a2 :: a3 :: a4 :: r).set 4 v = a0 :: a1 :: a2 :: a3 :: v :: r := rfl
theorem lk5 {a0 a1 a2 a3 a4 a5 : Option SV} {r : List (Option SV)} : look (a0 :: a1 :: a2 :: a3 :: a4 :: a5 :: r) 5 = a5 := rfl
theorem se5 {a0 a1 a2 a3 a4 a5 v : Option SV} {r : List (Option SV)} : (a0 :: a1 :: a2 :: a3 :: a4 :: a5 :: r).set 5 v = a0 :: a1 :: a2 :: a3 :: a4 :: v :: r := rfl
theorem lk6 {a0 a1 a2 a3 a4 a5 a6 : Option SV} {r : List (Option SV)} : look (a0 :: a1 :: a2 :: a3 :: a4 :: a5 :: a6 :: r) 6 = a6 := rfl
theorem se6 {a0 a1 a2 a3 a4 a5 a6 v : Option SV} {r : List (Option SV)} : (a0 :: a1 :: a2 :: a3 :: a4 :: a5 :: a6 :: r).set 6 v = a0 :: a1 :: a2 :: a3 :: a4 :: a5 :: v :: r := rfl
theorem lk7 {a0 a1 a2 a3 a4 a5 a6 a7 : Option SV} {r : List (Option SV)} : look (a0 :: a1 :: a2 :: a3 :: a4 :: a5 :: a6 :: a7 :: r) 7 = a7 := rfl
theorem se7 {a0 a1 a2 a3 a4 a5 a6 a7 v : Option SV} {r : List (Option SV)} : (a0 :: a1 :: a2 :: a3 :: a4 :: a5 :: a6 :: a7 :: r).set 7 v = a0 :: a1 :: a2 :: a3 :: a4 :: a5 :: a6 :: v :: r := rfl
theorem lk8 {a0 a1 a2 a3 a4 a5 a6 a7 a8 : Option SV} {r : List (Option SV)} : look (a0 :: a1 :: a2 :: a3 :: a4 :: a5 :: a6 :: a7 :: a8 :: r) 8 = a8 := rfl
theorem se8 {a0 a1 a2 a3 a4 a5 a6 a7 a8 v : Option SV} {r : List (Option SV)} : (a0 :: a1 :: a2 :: a3 :: a4 :: a5 :: a6 :: a7 :: a8 :: r).set 8 v = a0 :: a1 :: a2 :: a3 :: a4 :: a5 :: a6 :: a7 :: v :: r := rfl
theorem lk9 {a0 a1 a2 a3 a4 a5 a6 a7 a8 a9 : Option SV} {r : List (Option SV)} : look (a0 :: a1 :: a2 :: a3 :: a4 :: a5 :: a6 :: a7 :: a8 :: a9 :: r) 9 = a9 := rfl
theorem se9 {a0 a1 a2 a3 a4 a5 a6 a7 a8 a9 v : Option SV} {r : List (Option SV)} : (a0 :: a1 :: a2 :: a3 :: a4 :: a5 :: a6 :: a7 :: a8 :: a9 :: r).set 9 v = a0 :: a1 :: a2 :: a3 :: a4 :: a5 :: a6 :: a7 :: a8 :: v :: r := rfl
theorem lk10 {a0 a1 a2 a3 a4 a5 a6 a7 a8 a9 a10 : Option SV} {r : List (Option SV)} : look (a0 :: a1 :: a2 :: a3 :: a4 :: a5 :: a6 :: a7 :: a8 :: a9 :: a10 :: r) 10 = a10 := rfl
theorem se10 {a0 a1 a2 a3 a4 a5 a6 a7 a8 a9 a10 v : Option SV} {r : List (Option SV)} : (a0 :: a1 :: a2 :: a3 :: a4 :: a5 :: a6 :: a7 :: a8 :: a9 :: a10 :: r).set 10 v = a0 :: a1 :: a2 :: a3 :: a4 :: a5 :: a6 :: a7 :: a8 :: a9 :: v :: r := rfl
theorem lk11 {a0 a1 a2 a3 a4 a5 a6 a7 a8 a9 a10 a11 : Option SV} {r : List (Option SV)} : look (a0 :: a1 :: a2 :: a3 :: a4 :: a5 :: a6 :: a7 :: a8 :: a9 :: a10 :: a11 :: r) 11 = a11 := rfl
theorem se11 {a0 a1 a2 a3 a4 a5 a6 a7 a8 a9 a10 a11 v : Option SV} {r : List (Option SV)} : (a0 :: a1 :: a2 :: a3 :: a4 :: a5 :: a6 :: a7 :: a8 :: a9 :: a10 :: a11 :: r).set 11 v = a0 :: a1 :: a2 :: a3 :: a4 :: a5 :: a6 :: a7 :: a8 :: a9 :: a10 :: v :: r := rfl
theorem lk12 {a0 a1 a2 a3 a4 a5 a6 a7 a8 a9 a10 a11 a12 : Option SV} {r : List (Option SV)} : look (a0 :: a1 :: a2 :: a3 :: a4 :: a5 :: a6 :: a7 :: a8 :: a9 :: a10 :: a11 :: a12 :: r) 12 = a12 := rfl
theorem se12 {a0 a1 a2 a3 a4 a5 a6 a7 a8 a9 a10 a11 a12 v : Option SV} {r : List (Option SV)} : (a0 :: a1 :: a2 :: a3 :: a4 :: a5 :: a6 :: a7 :: a8 :: a9 :: a10 :: a11 :: a12 :: r).set 12 v = a0 :: a1 :: a2 :: a3 :: a4 :: a5 :: a6 :: a7 :: a8 :: a9 :: a10 :: a11 :: v :: r := rfl
theorem lk13 {a0 a1 a2 a3 a4 a5 a6 a7 a8 a9 a10 a11 a12 a13 : Option SV} {r : List (Option SV)} : look (a0 :: a1 :: a2 :: a3 :: a4 :: a5 :: a6 :: a7 :: a8 :: a9 :: a10 :: a11 :: a12 :: a13 :: r) 13 = a13 := rfl
theorem se13 {a0 a1 a2 a3 a4 a5 a6 a7 a8 a9 a10 a11 a12 a13 v : Option SV} {r : List (Option SV)} : (a0 :: a1 :: a2 :: a3 :: a4 :: a5 :: a6 :: a7 :: a8 :: a9 :: a10 :: a11 :: a12 :: a13 :: r).set 13 v = a0 :: a1 :: a2 :: a3 :: a4 :: a5 :: a6 :: a7 :: a8 :: a9 :: a10 :: a11 :: a12 :: v :: r := rfl
theorem lk14 {a0 a1 a2 a3 a4 a5 a6 a7 a8 a9 a10 a11 a12 a13 a14 : Option SV} {r : List (Option SV)} : look (a0 :: a1 :: a2 :: a3 :: a4 :: a5 :: a6 :: a7 :: a8 :: a9 :: a10 :: a11 :: a12 :: a13 :: a14 :: r) 14 = a14 := rfl
theorem se14 {a0 a1 a2 a3 a4 a5 a6 a7 a8 a9 a10 a11 a12 a13 a14 v : Option SV} {r : List (Option SV)} : (a0 :: a1 :: a2 :: a3 :: a4 :: a5 :: a6 :: a7 :: a8 :: a9 :: a10 :: a11 :: a12 :: a13 :: a14 :: r).set 14 v = a0 :: a1 :: a2 :: a3 :: a4 :: a5 :: a6 :: a7 :: a8 :: a9 :: a10 :: a11 :: a12 :: a13 :: v :: r := rfl
theorem lk15 {a0 a1 a2 a3 a4 a5 a6 a7 a8 a9 a10 a11 a12 a13 a14 a15 : Option SV} {r : List (Option SV)} : look (a0 :: a1 :: a2 :: a3 :: a4 :: a5 :: a6 :: a7 :: a8 :: a9 :: a10 :: a11 :: a12 :: a13 :: a14 :: a15 :: r) 15 = a15 := rfl
theorem se15 {a0 a1 a2 a3 a4 a5 a6 a7 a8 a9 a10 a11 a12 a13 a14 a15 v : Option SV} {r : List (Option SV)} : (a0 :: a1 :: a2 :: a3 :: a4 :: a5 :: a6 :: a7 :: a8 :: a9 :: a10 :: a11 :: a12 :: a13 :: a14 :: a15 :: r).set 15 v = a0 :: a1 :: a2 :: a3 :: a4 :: a5 :: a6 :: a7 :: a8 :: a9 :: a10 :: a11 :: a12 :: a13 :: a14 :: v :: r := rfl
theorem lk16 {a0 a1 a2 a3 a4 a5 a6 a7 a8 a9 a10 a11 a12 a13 a14 a15 a16 : Option SV} {r : List (Option SV)} : look (a0 :: a1 :: a2 :: a3 :: a4 :: a5 :: a6 :: a7 :: a8 :: a9 :: a10 :: a11 :: a12 :: a13 :: a14 :: a15 :: a16 :: r) 16 = a16 := rfl
theorem se16 {a0 a1 a2 a3 a4 a5 a6 a7 a8 a9 a10 a11 a12 a13 a14 a15 a16 v : Option SV} {r : List (Option SV)} : (a0 :: a1 :: a2 :: a3 :: a4 :: a5 :: a6 :: a7 :: a8 :: a9 :: a10 :: a11 :: a12 :: a13 :: a14 :: a15 :: a16 :: r).set 16 v = a0 :: a1 :: a2 :: a3 :: a4 :: a5 :: a6 :: a7 :: a8 :: a9 :: a10 :: a11 :: a12 :: a13 :: a14 :: a15 :: v :: r := rfl
theorem lk17 {a0 a1 a2 a3 a4 a5 a6 a7 a8 a9 a10 a11 a12 a13 a14 a15 a16 a17 : Option SV} {r : List (Option SV)} : look (a0 :: a1 :: a2 :: a3 :: a4 :: a5 :: a6 :: a7 :: a8 :: a9 :: a10 :: a11 :: a12 :: a13 :: a14 :: a15 :: a16 :: a17 :: r) 17 = a17 := rfl
theorem se17 {a0 a1 a2 a3 a4 a5 a6 a7 a8 a9 a10 a11 a12 a13 a14 a15 a16 a17 v : Option SV} {r : List (Option SV)} : (a0 :: a1 :: a2 :: a3 :: a4 :: a5 :: a6 :: a7 :: a8 :: a9 :: a10 :: a11 :: a12 :: a13 :: a14 :: a15 :: a16 :: a17 :: r).set 17 v = a0 :: a1 :: a2 :: a3 :: a4 :: a5 :: a6 :: a7 :: a8 :: a9 :: a10 :: a11 :: a12 :: a13 :: a14 :: a15 :: a16 :: v :: r := rfl
theorem lk18 {a0 a1 a2 a3 a4 a5 a6 a7 a8 a9 a10 a11 a12 a13 a14 a15 a16 a17 a18 : Option SV} {r : List (Option SV)} : look (a0 :: a1 :: a2 :: a3 :: a4 :: a5 :: a6 :: a7 :: a8 :: a9 :: a10 :: a11 :: a12 :: a13 :: a14 :: a15 :: a16 :: a17 :: a18 :: r) 18 = a18 := rfl
theorem se18 {a0 a1 a2 a3 a4 a5 a6 a7 a8 a9 a10 a11 a12 a13 a14 a15 a16 a17 a18 v : Option SV} {r : List (Option SV)} : (a0 :: a1 :: a2 :: a3 :: a4 :: a5 :: a6 :: a7 :: a8 :: a9 :: a10 :: a11 :: a12 :: a13 :: a14 :: a15 :: a16 :: a17 :: a18 :: r).set 18 v = a0 :: a1 :: a2 :: a3 :: a4 :: a5 :: a6 :: a7 :: a8 :: a9 :: a10 :: a11 :: a12 :: a13 :: a14 :: a15 :: a16 :: a17 :: v :: r := rfl
theorem lk19 {a0 a1 a2 a3 a4 a5 a6 a7 a8 a9 a10 a11 a12 a13 a14 a15 a16 a17 a18 a19 : Option SV} {r : List (Option SV)} : look (a0 :: a1 :: a2 :: a3 :: a4 :: a5 :: a6 :: a7 :: a8 :: a9 :: a10 :: a11 :: a12 :: a13 :: a14 :: a15 :: a16 :: a17 :: a18 :: a19 :: r) 19 = a19 := rfl
theorem se19 {a0 a1 a2 a3 a4 a5 a6 a7 a8 a9 a10 a11 a12 a13 a14 a15 a16 a17 a18 a19 v : Option SV} {r : List (Option SV)} : (a0 :: a1 :: a2 :: a3 :: a4 :: a5 :: a6 :: a7 :: a8 :: a9 :: a10 :: a11 :: a12 :: a13 :: a14 :: a15 :: a16 :: a17 :: a18 :: a19 :: r).set 19 v = a0 :: a1 :: a2 :: a3 :: a4 :: a5 :: a6 :: a7 :: a8 :: a9 :: a10 :: a11 :: a12 :: a13 :: a14 :: a15 :: a16 :: a17 :: a18 :: v :: r := rfl
theorem svd_dat {d : D} : (SV.dat d).d = d := rfl
theorem svd_own {o : OD} : (SV.own o).d = o.d := rfl
theorem odd_l {ds : List D} : (OD.lst ds).d = .lst ds := rfl
theorem odd_d {ks : List Int} {ds : List D} : (OD.dct ks ds).d = .dct ks ds := rfl
theorem ite1 {c : Prop} [Decidable c] {p q : Prop} (h : c) (k : p) : ite c p q := by rw [if_pos h]; exact k
theorem ite2 {c : Prop} [Decidable c] {p q : Prop} (k1 : c → p) (k2 : ¬c → q) : ite c p q := by
  by_cases h : c
  · rw [if_pos h]; exact k1 h
  · rw [if_neg h]; exact k2 h
theorem iteb {b : Bool} {p : Bool → Prop} (h : p b) : if b = true then p true else p false := by cases b <;> exact h
end Kz

set_option Elab.async false
set_option linter.all false
set_option maxRecDepth 100000
set_option maxHeartbeats 4000000
set_option autoImplicit false
/-! sorted() of lists and sets of tuples of ints, of any sign: the same members in some order. -/
namespace Kz
open PySem PySem.Spec PyProof.Rows L2 Srt
section
variable {prog : Program} {w : World} {A : Around} {E : Value → Shared → Prop} {s : Shared}
theorem lex_any {c : Bool} {xs : List Value} {ns : List Int} (hx : IntsAre xs ns) : ∀ {ys : List Value} {ms : List Int} (i : Nat), IntsAre ys ms → ns.length = ms.length → ∃ b : Bool, PySem.W.KatLex prog w A c false (fun r s' => s' = s ∧ r = b) (xs.zip ys) i s := by
  induction hx with
  | nil =>
    intro ys ms i hy hl
    cases hy with
    | nil => exact ⟨false, PySem.W.kat_nil ⟨rfl, rfl⟩⟩
    | cons q u hy => simp at hl
  | @cons p t xs ns hx ih =>
    intro ys ms i hy hl
    cases hy with
    | nil => simp at hl
    | @cons q u ys ms hy =>
      have hl' : ns.length = ms.length := by simpa using hl
      by_cases e : p = q
      · subst e
        obtain ⟨b, hb⟩ := ih (i + 1) hy hl'
        refine ⟨b, PySem.W.kat_cons (wpAny_eqBool_int ?_)⟩
        rw [beq_self_eq_true]
        exact PySem.W.kat_yes hb
      · refine ⟨decide (p < q), PySem.W.kat_cons (wpAny_eqBool_int ?_)⟩
        rw [show (p == q) = false from beq_eq_false_iff_ne.mpr e]
        exact PySem.W.kat_no (TS.oneLt_ints _ ⟨rfl, rfl⟩)
def TupsD (h : Heap) (d : Nat) (vs : List Value) : Prop := ∀ v ∈ vs, ∃ ns, TS.TupInts h v ns ∧ ns.length = d + 1
theorem TupsD.keeps {h h' : Heap} {d : Nat} {vs : List Value} (x : TupsD h d vs) (k : ∀ b o, h.get? b = some o → o.cls = .type "tuple" → h'.get? b = some o) : TupsD h' d vs := fun v hv =>
  let ⟨ns, t, r⟩ := x v hv; ⟨ns, t.keeps k, r⟩
theorem firstsD {h : Heap} {d : Nat} : ∀ vs : List Value, TupsD h d vs → ∃ fs, PySem.W.KatTups h vs fs ∧ fs.length = vs.length ∧ ∀ f ∈ fs, ∃ n t, f = Value.int n t
  | [], _ => ⟨[], PySem.W.KatTups.nil, rfl, fun f hf => by simp at hf⟩
  | v :: vs, x => by
    obtain ⟨fs, k, hl, hi⟩ := firstsD vs fun u hu => x u (List.mem_cons_of_mem _ hu)
    obtain ⟨ns, ⟨a, xs, rfl, ⟨o, ho, hc, n, hdt⟩, i⟩, hn⟩ := x v List.mem_cons_self
    cases q : xs.toList with
    | nil =>
      rw [q] at i
      cases i
      simp at hn
    | cons y ys =>
      obtain ⟨m, t, hy⟩ := i.all y (by rw [q]; exact List.mem_cons_self)
      refine ⟨y :: fs, PySem.W.KatTups.cons ho hc hdt ?_ k, by simp [hl], fun f hf => ?_⟩
      · have z := congrArg (fun l : List Value => l[0]?) q
        simpa using z
      · rcases List.mem_cons.mp hf with rfl | hf
        · exact ⟨m, t, hy⟩
        · exact hi f hf
theorem tups_tot {d : Nat} {vs : List Value} (hp : TupsD s.heap d vs) {c : Bool} : Tot prog w A s (tuples' c) (fun p => p.1 ∈ vs) := by
  intro p q hm hm'
  obtain ⟨ns, ⟨a, xs, e, ⟨o, ho, hc, n, hd⟩, i⟩, hn⟩ := hp _ hm
  obtain ⟨ms, ⟨a', xs', e', ⟨o', ho', hc', n', hd'⟩, i'⟩, hn'⟩ := hp _ hm'
  rw [e, e']
  obtain ⟨b, hb⟩ := lex_any (prog := prog) (w := w) (A := A) (s := s) (c := c) i 0 i' (hn.trans hn'.symm)
  refine ⟨b, PySem.W.kat_lt ho hd ho' hd' ?_⟩
  have sz : decide (xs.size < xs'.size) = false := by
    have l1 := i.length
    have l2 := i'.length
    rw [Array.length_toList] at l1 l2
    exact decide_eq_false (by omega)
  rw [sz]
  exact hb
theorem tups_sortable {a : Addr} {d : Nat} {vs : List Value} (h0 : 0 < vs.length) (hp : TupsD s.heap d vs) (ha : ∀ o, s.heap.get? a = some o → o.cls ≠ .type "tuple") : Sortable prog w A s a vs := by
  intro h' keep
  have hp' : TupsD h' d vs := hp.keeps fun b o e c => keep b o (fun z => by subst z; exact ha o e c) e
  obtain ⟨fs, h1, h2, h3⟩ := firstsD vs hp'
  refine ⟨tuples' true, fun Q E hq => ?_, tups_tot hp'⟩
  refine PySem.W.kat_kind (T := .type "int") h1 (by omega) (fun f hm => ?_) (by rfl) ?_
  · obtain ⟨x, t, rfl⟩ := h3 f hm
    exact PySem.W.Looks.now
  · have e : (Value.type "int" != Value.type "tuple") = true := by first | decide +kernel | rfl | decide
    rw [e]
    exact hq
theorem not_tup {h₁ : Heap} {a : Addr} {xs : Array Value} {c : Nat} (ha : h₁.get? a = some (seqObj "list" xs c)) : ∀ o, h₁.get? a = some o → o.cls ≠ .type "tuple" := fun o e c => by
  rw [ha] at e
  cases e
  exact absurd (Value.type.inj c) (by decide)
theorem sorted_tupsD {l : Addr} {vs : List Value} {d : Nat} {Q : Value → Shared → Prop} (hl : s.heap.IsList l vs.toArray) (hz : vs.length ≤ sizeLine) (hp : TupsD s.heap d vs)
    (h : ∀ (h' : Heap) (b : Addr) (out : List Value), out.Perm vs → (∀ b o, s.heap.get? b = some o → h'.get? b = some o) → s.heap.objs.size ≤ b → (∃ n, h'.get? b = some (seqObj "list" out.toArray n)) → Q (.ref b) { s with heap := h' }) :
    wpAny (model prog w) A (call (.builtin "sorted") [.ref l]) Q E s := by
  refine sorted_any hl hz (fun h2 h₁ a ha k => ?_) fun out ho => ?_
  · exact tups_sortable (s := { s with heap := h₁ }) (by omega) (hp.keeps fun b o e _ => (k b o e).2) (not_tup ha)
  · exact h _ _ out ho (fun b o e => sortedAll_old e) (Nat.le_succ _) (sortedAll_at s.heap vs out.toArray)
end
end Kz

set_option Elab.async false
set_option linter.all false
set_option maxRecDepth 100000
set_option maxHeartbeats 4000000
/-! sets of ints built by a comprehension (HandS.SetBool's walk, turned to ints). -/
namespace PpSet
open PySem PySem.Spec PyProof.Rows L2
section
variable {X : Cx}
theorem addI_ok {pins : List (Addr × Obj)} {σ : L2.St} {H : Hp} {s : Shared} {E : Value → Shared → Prop} {D : Addr} {S : Int → Bool} {n : Nat} {y : Int} {tk : Tok} {Q : Value → Shared → Prop} (I : Inv X pins σ H s) (hD : H D = some (SetO X.w D S n)) (room : n + 1 < scanBound)
    (h : ∀ s', Inv X pins σ (upd H D (SetO X.w D (fun j => S j || decide (j = y)) (if S y = true then n else n + 1))) s' → Q .none s') : wpAny (model X.prog X.w) X.A (call (.builtin "set.add") [.ref D, .int y tk]) Q E s := by
  have R := setO_get I hD
  refine setR_add R room fun h' sb new => ?_
  have he : ∃ u, h'.get? D = some u := by
    have ⟨o, _, _, _, ho, _⟩ := new
    exact ⟨o, ho⟩
  exact h _ (I.write (e := D) (t' := s.toks + 1) (by rw [hD]; trivial) (.inl rfl) (fun b u hb hu => (sb.2 b hb).trans hu) he (setO_new new))
/-- {elt for target in iter if ..}, elt an int: D the new set -/
def tScI (w : World) (wi : TI) (g : TG) (tt : TT) (te : TE) (vs : List Nat) : TE := fun σ H Q => wi σ H fun J H1 => ∀ D, H1 D = none → ∃ W : Nat → Nat → Hp → Prop, (∃ m, W 0 m (upd H1 D (SetO w D (fun _ => false) 0))) ∧ ∀ i m H, W i m H →
  (J.stop i H ∧ Q (.ref D) H) ∨ (J.go i H ∧ ∃ Nx : Hp → Prop, (∀ H', Nx H' → ∃ m', m' < m ∧ W (i + 1) m' H') ∧ ∀ x H', J.yld i H x H' → g x (wipe σ vs) H' fun σ2 H2 => wipe σ2 vs = wipe σ vs ∧ tt σ2 H2 fun b H3 =>
    if b = true then te σ2 H3 fun y H4 => ∃ (c : Int) (S : Int → Bool) (n : Nat), y = .int c ∧ H4 D = some (SetO w D S n) ∧ n + 1 < scanBound ∧ Nx (upd H4 D (SetO w D (fun j => S j || decide (j = c)) (if S c = true then n else n + 1))) else Nx H3)
theorem scI_core {pins : List (Addr × Obj)} {s : Shared} {σ : L2.St} {H : Hp} {Q : VK} {elt tg iter : Expr} {ifs : List Expr} {scope : Scope} {own : List (PySem.Str × Nat)} {pos pos' : Pos} {wi : TI} {g : TG} {tt : TT} {te : TE} {use : Option (Value → Sem Unit)} {Qf : Value → Shared → Prop}
    (hc : X.calm = true) (hN : X.N.Nodup) (I : Inv X pins σ H s) (hi : PI X tg iter wi) (ok : BlkOk X.N X.env.scope scope own)
    (hg : ∀ (s : Shared) (H : Hp) (C : Addr) (cl : List (PySem.Str × Addr)) (fp : List Addr), PG (X.blk s H scope (compEnvC scope cl C X.env) fp) tg g) (ht : ∀ (s : Shared) (H : Hp) (C : Addr) (cl : List (PySem.Str × Addr)) (fp : List Addr), PTs (X.blk s H scope (compEnvC scope cl C X.env) fp) ifs tt)
    (he : ∀ (s : Shared) (H : Hp) (C : Addr) (cl : List (PySem.Str × Addr)) (fp : List Addr), PE (X.blk s H scope (compEnvC scope cl C X.env) fp) elt te) (hs : ∀ x, foldedSetIterable iter X.env x = pure x)
    (h : tScI X.w wi g tt te (own.map (·.2)) σ H Q)
    (hRR : ∀ D C s' m H', Inv X pins σ H' s' → Q (.ref D) H' → s'.heap.Ns C m → FpOk X pins H' C → compPost (model X.prog X.w) X.A X.xe use Qf (.ref D) C (.ok .next) s') :
    wpAny (model X.prog X.w) X.A (comprehension (.SetComp elt [⟨tg, iter, ifs, 0⟩] scope pos) scope X.env pos' (newSet (.type "set")) false (eval iter X.env) use) Qf X.xe s := by
  have hfree : ∀ y ∈ scope.names, y.2 = .free → ∃ c, X.env.cells.lookup y.1 = some c := fun y hy e => by
    rcases ok.free y hy e with k | k
    · exact I.ok.has _ (.inl k)
    · exact I.ok.has _ (.inr k)
  refine wpAny_comprehension_free (use := use) rfl hs (closure_ok hfree) ok.kind (fun y hy e => by rw [ok.uniq y hy, e])
    (thn (hi.run pins s σ H _ I h) fun xv s1 hx => thn hx fun itv s2 h2 => ?_)
  obtain ⟨it, fp, tn, J, H2, e, I2, T, st2, f2, q⟩ := h2
  subst e
  refine newSet_ok (newEnv_comp ?_)
  generalize hD : s2.heap.objs.size = D
  have hDn : H2 D = none := I2.hok.fresh (Nat.le_of_eq hD)
  obtain ⟨W, ⟨m0, w0⟩, turn⟩ := q D hDn
  -- the new list
  generalize hs3 : ({ s2 with heap := s2.heap.push { cls := .type "set", dict := none, data := .set #[] 0 (.fresh 0 0 (!X.w.params.followText "set-order")) } } : Shared) = s3
  have I3 : Inv X pins σ (upd H2 D (SetO X.w D (fun _ => false) 0)) s3 := by
    rw [← hs3]
    refine I2.laid (t' := s2.toks) (fun b o e => Heap.get?_push_of_some _ e) (Nat.le_of_eq hD) ?_
    rw [← hD]
    exact setO_new (setR_fresh X.w)
  have h3 : s3.heap = s2.heap.push { cls := .type "set", dict := none, data := .set #[] 0 (.fresh 0 0 (!X.w.params.followText "set-order")) } := by rw [← hs3]
  have sz : ∀ b ∈ fp, b < s2.heap.objs.size := fun b hb => by
    obtain ⟨o, e, _⟩ := T.obj _ _ st2 b hb
    exact Heap.lt_size e
  have f3 : ∀ b ∈ fp, FpOk X pins (upd H2 D (SetO X.w D (fun _ => false) 0)) b ∧ b < s3.heap.objs.size := fun b hb => by
    have hlt := sz b hb
    refine ⟨⟨?_, (f2 b hb).2⟩, by rw [h3, Heap.size_push]; exact Nat.lt_succ_of_lt hlt⟩
    rw [upd_ne (by rw [← hD]; exact Nat.ne_of_lt hlt)]
    exact (f2 b hb).1
  have st3 : tn 0 s3.heap := T.keep _ _ _ st2 fun b _ o e => by rw [h3]; exact Heap.get?_push_of_some _ e
  have I4 := block_start I3 ok hN f3
  have pg := hg s3 (upd H2 D (SetO X.w D (fun _ => false) 0)) s3.heap.objs.size (cellsFrom (s3.heap.objs.size + 1) scope.names (cloFrom X.env.cells scope.names [])) fp
  have pt := ht s3 (upd H2 D (SetO X.w D (fun _ => false) 0)) s3.heap.objs.size (cellsFrom (s3.heap.objs.size + 1) scope.names (cloFrom X.env.cells scope.names [])) fp
  have pe := he s3 (upd H2 D (SetO X.w D (fun _ => false) 0)) s3.heap.objs.size (cellsFrom (s3.heap.objs.size + 1) scope.names (cloFrom X.env.cells scope.names [])) fp
  show codeAny _ _ (.compStart (.SetComp elt [⟨tg, iter, ifs, 0⟩] scope pos) 0 (.ref it) (.ref D) (compEnvC scope (cellsFrom (s3.heap.objs.size + 1) scope.names (cloFrom X.env.cells scope.names [])) s3.heap.objs.size X.env)) (compPost (model X.prog X.w) X.A X.xe use Qf (.ref D) s3.heap.objs.size) { s3 with heap := pushCells (s3.heap.push { cls := .type "dict", data := .dict #[] }) scope.names }
  have nfp : ∀ b ∈ fp, (upd H2 D (SetO X.w D (fun _ => false) 0)) b = none := fun b hb => (f3 b hb).1.1
  generalize hce : compEnvC scope (cellsFrom (s3.heap.objs.size + 1) scope.names (cloFrom X.env.cells scope.names [])) s3.heap.objs.size X.env = ce at I4 pg pt pe ⊢
  have cL : ce.locals = s3.heap.objs.size := by subst hce; rfl
  generalize hH3 : upd H2 D (SetO X.w D (fun _ => false) 0) = H3 at I3 I4 pg pt pe w0 nfp f3
  generalize hs4 : ({ s3 with heap := pushCells (s3.heap.push { cls := .type "dict", data := .dict #[] }) scope.names } : Shared) = s4 at I4 ⊢
  have st4 : tn 0 s4.heap := T.keep _ _ _ st3 fun b _ o e => by rw [← hs4]; exact pushCells_keeps _ _ _ _ (Heap.get?_push_of_some _ e)
  have stat : ∀ {σ' : L2.St} {H' : Hp} {s' : Shared}, Inv (X.blk s3 H3 scope ce fp) [] σ' H' s' → (∀ b ∈ fp, H' b = none) → ∀ b ∈ fp, FpOk (X.blk s3 H3 scope ce fp) [] H' b := fun {σ' H' s'} I' hn b hb =>
    ⟨hn b hb, (I'.ok.exf b hb).1, I'.ok.exfs b hb, .inl hb, fun x c e => (I'.ok.exf b hb).2 x c e, fun p hp => absurd (show p ∈ ([] : List (Addr × Obj)) ++ [] from hp) (by simp)⟩
  have loop : codeAny (model X.prog X.w) X.A (.compLoop (.SetComp elt [⟨tg, iter, ifs, 0⟩] scope pos) 0 (.ref it) (.ref D) ce) (compPost (model X.prog X.w) X.A X.xe use Qf (.ref D) s3.heap.objs.size) s4 := by
    refine compLoopS_any (fun n s' => ∃ i H', Inv (X.blk s3 H3 scope ce fp) [] (wipe σ (own.map (·.2))) H' s' ∧ tn i s'.heap ∧ (∀ b ∈ fp, H' b = none) ∧ W i n H') ?_ m0 ⟨0, H3, I4, st4, nfp, w0⟩
    rintro n s5 ⟨i, H5, I5, st5, n5, w5⟩
    rcases turn i n H5 w5 with ⟨stop, qq⟩ | ⟨go, Nx, hNx, step⟩
    · have td := T.done (X.blk s3 H3 scope ce fp) rfl rfl rfl hc i [] s5 _ H5 (fun _ _ => False) I5 (stat I5 n5) st5 stop
      refine thnF td fun r s6 ⟨hr, I6⟩ => ?_
      subst hr
      -- back in the def's context
      have I7 : Inv X pins σ H5 s6 := I3.call' (ch := fp) I6.os I6.base I6.hok I6.bare fun b hb => ⟨(f3 b hb).1.2.2.2.1, (f3 b hb).1.2.1, (f3 b hb).1.2.2.2.2.1, (f3 b hb).1.2.2.2.2.2⟩
      have nC : H5 s3.heap.objs.size = none := by
        have z : H5 ce.locals = none := I6.free
        rw [cL] at z
        exact z
      obtain ⟨m, hn, _⟩ := I6.loc
      have hn : s6.heap.Ns ce.locals m := hn
      rw [cL] at hn
      exact hRR D s3.heap.objs.size s6 m H5 I7 qq hn (I3.fpOk (Nat.le_refl _) nC)
    · have ti := T.item (X.blk s3 H3 scope ce fp) rfl rfl rfl hc i [] s5 _ H5 (fun _ _ => False) I5 (stat I5 n5) st5 go
      refine thnF ti fun r s6 ⟨u, hr, h6⟩ => ?_
      subst hr
      refine thnF h6 fun _ s7 ⟨x, H7, I7, r7, y7, st7, n7⟩ => ?_
      have I7' := I7.pinned (stat I7 n7) (T.obj _ _ st7)
      refine thnF (pg.run _ s7 _ H7 x u _ I7' r7 (step x H7 y7)) fun _ s8 ⟨σ8, H8, I8, hw8, q8⟩ => ?_
      refine thnF (pt.run _ s8 σ8 H8 _ I8 q8) fun b s9 ⟨H9, I9, q9⟩ => ?_
      -- the turn's end
      have fin : ∀ {s' : Shared} {H' : Hp}, Inv (X.blk s3 H3 scope ce fp) ([] ++ pinsAt fp s7.heap) σ8 H' s' → Nx H' → ∃ m, m < n ∧ ∃ i H', Inv (X.blk s3 H3 scope ce fp) [] (wipe σ (own.map (·.2))) H' s' ∧ tn i s'.heap ∧ (∀ b ∈ fp, H' b = none) ∧ W i m H' := fun {s' H'} I' nx => by
        obtain ⟨m', hm, w'⟩ := hNx H' nx
        have pin' : ∀ b ∈ fp, ∀ o, s7.heap.get? b = some o → s'.heap.get? b = some o ∧ H' b = none := fun b hb o e =>
          let z := I'.pin (b, o) (List.mem_append_right _ (List.mem_append_right _ (mem_pinsAt hb e)))
          ⟨z.1, z.2.1⟩
        have hl : (wipe σ (own.map (·.2))).length = σ8.length := by rw [← hw8, wipe_length]
        refine ⟨m', hm, i + 1, H', (I'.unpinned (pins := [])).weak hl (fun j v e => ?_), T.keep _ _ _ st7 fun b hb o e => (pin' b hb o e).1, fun b hb => ?_, w'⟩
        · rw [← hw8] at e
          exact (wipe_some e).1
        · obtain ⟨o, e, _⟩ := T.obj _ _ st7 b hb
          exact (pin' b hb o e).2
      cases b with
      | false =>
        simp only [Bool.false_eq_true, if_false] at q9 ⊢
        exact fin I9 q9
      | true =>
        simp only [if_true] at q9 ⊢
        refine thnF (pe.run _ s9 σ8 H9 _ I9 q9) fun z s10 ⟨yv, H10, I10, r10, cb, S0, n0, ey, hD10, hz10, nx⟩ => ?_
        subst ey
        obtain ⟨tk0, rfl⟩ := (show ∃ t, z = Value.int cb t from r10)
        exact addI_ok (X := X.blk s3 H3 scope ce fp) I10 hD10 hz10 fun s11 I11 => fin I11 nx
  exact codeAny_compStart_set loop (T.self X.A 0 _ _ _ st4 loop)
/-- as a value -/
theorem pe_scI {elt tg iter : Expr} {ifs : List Expr} {scope : Scope} {own : List (PySem.Str × Nat)} {pos : Pos} {wi : TI} {g : TG} {tt : TT} {te : TE} (hc : X.calm = true) (hN : X.N.Nodup) (hi : PI X tg iter wi) (ok : BlkOk X.N X.env.scope scope own)
    (hg : ∀ (s : Shared) (H : Hp) (C : Addr) (cl : List (PySem.Str × Addr)) (fp : List Addr), PG (X.blk s H scope (compEnvC scope cl C X.env) fp) tg g) (ht : ∀ (s : Shared) (H : Hp) (C : Addr) (cl : List (PySem.Str × Addr)) (fp : List Addr), PTs (X.blk s H scope (compEnvC scope cl C X.env) fp) ifs tt)
    (he : ∀ (s : Shared) (H : Hp) (C : Addr) (cl : List (PySem.Str × Addr)) (fp : List Addr), PE (X.blk s H scope (compEnvC scope cl C X.env) fp) elt te) (hs : ∀ x, foldedSetIterable iter X.env x = pure x := by intro _; rfl) :
    PE X (.SetComp elt [⟨tg, iter, ifs, 0⟩] scope pos) (tScI X.w wi g tt te (own.map (·.2))) := by
  refine ⟨fun pins s σ H Q I h => ?_⟩
  rw [eval_SetComp]
  refine scI_core hc hN I hi ok hg ht he hs h fun D C s' m H' I' q hn f => ⟨m, hn, fun h'' sb => ?_⟩
  obtain ⟨f0, f1, f2, f3, f4, f5⟩ := f
  exact ⟨.ref D, H', I'.turned (t' := s'.toks) (fun b o hb e => (sb.2 b hb).trans e) f0 f1 f3 f4 f5, rfl, q⟩
end
end PpSet

set_option Elab.async false
set_option linter.all false
set_option maxRecDepth 100000
set_option maxHeartbeats 4000000
set_option autoImplicit false
/-! sorted() over data. -/
namespace Kz
open PySem PySem.Spec PyProof.Rows L2
theorem setO_nc {w : World} {p c : Addr} {S : Int → Bool} {n : Nat} {q : Str} : SetO w p S n ≠ LamX.CodeO c q := fun z => by
  unfold SetO LamX.CodeO at z
  have z := HO.ext.inj z
  let ob : Obj := { cls := .none, data := .fields #[.none, .str q 0] }
  let h : Heap := { objs := Array.replicate (c + 1) ob }
  have hg : ∀ b o, h.get? b = some o → o = ob := fun b o e => by
    have e : (match h.objs[b]? with | some ⟨_, _, .freed, _⟩ => none | o => o) = some o := e
    have k : ∀ u, h.objs[b]? = some u → u = ob := fun u hu => by
      have := Array.getElem?_replicate (n := c + 1) (i := b) (v := ob)
      rw [show h.objs = Array.replicate (c + 1) ob from rfl, this] at hu
      split at hu
      · cases hu; rfl
      · cases hu
    cases hb : h.objs[b]? with
    | none => rw [hb] at e; cases e
    | some u =>
      have := k u hb
      subst this
      rw [hb] at e
      cases e
      rfl
  have hc : h.get? c = some ob := by
    show (match (Array.replicate (c + 1) ob)[c]? with | some ⟨_, _, .freed, _⟩ => none | o => o) = some ob
    rw [Array.getElem?_replicate, if_pos (Nat.lt_succ_self c)]
  have z1 : SetR w h p S n := by
    have := congrFun z h
    rw [this]
    exact ⟨ob, _, _, hc, rfl, rfl⟩
  obtain ⟨o, t, m, vs, ho, hd, _⟩ := z1
  have := hg _ _ ho
  subst this
  simp_all [ob]
section
variable {X : Cx} {B : RB}
/-- sorted({e for x in xs}), e an int: the ints, ascending -/
def zSortSet (ti : ZI) (g : ZG) (te : ZE) (vs : List Nat) : ZM := fun z Q => ti z fun ds z1 => ds.length < 64 ∧ noOwn z1.e vs = true ∧ ∃ f : Nat → Int,
  (∀ i d, ds[i]? = some d → g d ⟨wipeE z1.e vs, z1.w⟩ fun z2 => wipeE z2.e vs = wipeE z1.e vs ∧ te z2 fun y z4 => z4.e = z2.e ∧ z4.w = z1.w ∧ y = .int (f i)) ∧
  ∀ ns : List Int, ns.Pairwise (· < ·) → (∀ k, k ∈ ns ↔ ∃ i, i < ds.length ∧ f i = k) → ns.length < 64 → Q (.own (.lst (ns.map D.int))) z1
theorem sortset_core {ti : ZI} {g : ZG} {te : ZE} {vs is : List Nat} (sub : ∀ i ∈ is, i ∈ vs) : ∀ σ H Q, tZM B (zSortSet ti g te vs) σ H Q → PpSet.tScI X.w (tZI B ti) (tZG B is g) (tZT B zYes) (tZ B te) vs σ H fun v H' => rSortedSet X.w [v] H' Q :=
  fun σ H Q ⟨Y, D, z, Q', R, h, k⟩ => ⟨Y, D, z, _, R, h, fun ds z1 ⟨hlen, no, f, it, ie⟩ J H1 D1 S1 yl => fun p hp => by
    obtain ⟨A0, F0⟩ := Fresh.new (o := SetO X.w p (fun _ => false) 0) S1.rel hp
    refine ⟨fun i m H2 => m = ds.length - i ∧ i ≤ ds.length ∧ ∃ D2 S n, n ≤ i ∧ (∀ k, S k = true ↔ ∃ j, j < i ∧ f j = k) ∧ H2 p = some (SetO X.w p S n) ∧ Rel B Y D2 z1 σ H2 ∧ Same D1 D2 ∧ Fresh Y D2 z1 σ H2 p ∧ (∀ q, H2 q = none → H1 q = none) ∧ (∀ q u, H1 q = some u → Fresh Y D1 z1 σ H1 q → H2 q = some u ∧ Fresh Y D2 z1 σ H2 q),
      ⟨ds.length, by simp, Nat.zero_le _, D1, _, _, Nat.le_refl _, fun k => by simp, upd_same, A0.rel, Same.refl _, F0, A0.grow, A0.fr⟩, ?_⟩
    rintro i m H2 ⟨rfl, hi, D2, S, n, hl, inv, hp2, R2, s2, F2, gr, fr⟩
    by_cases lt : i < ds.length
    · refine .inr ⟨yl.go i _ _ _ _ R2 s2 lt, fun H5 => i + 1 ≤ ds.length ∧ ∃ D2 S n, n ≤ i + 1 ∧ (∀ k, S k = true ↔ ∃ j, j < i + 1 ∧ f j = k) ∧ H5 p = some (SetO X.w p S n) ∧ Rel B Y D2 z1 σ H5 ∧ Same D1 D2 ∧ Fresh Y D2 z1 σ H5 p ∧ (∀ q, H5 q = none → H1 q = none) ∧ (∀ q u, H1 q = some u → Fresh Y D1 z1 σ H1 q → H5 q = some u ∧ Fresh Y D2 z1 σ H5 q),
        fun H5 q5 => ⟨ds.length - (i + 1), by omega, rfl, q5⟩, fun x H3 y => ?_⟩
      obtain ⟨D3, d, hd, S3, r3⟩ := yl.yld i _ _ _ _ x H3 R2 s2 lt y
      have R3w := S3.rel.wipe vs
      refine ⟨Y, D3, ⟨wipeE z1.e vs, z1.w⟩, d, _, R3w, r3, it i d hd, fun z4 ⟨we, q4⟩ σ4 H4 D4 G4 og => ?_⟩
      have hσ : L2.wipe σ4 vs = L2.wipe σ vs := og.wipe sub
      refine ⟨hσ, Y, D4, z4, _, G4.rel, show zYes z4 (fun b z5 => b = true ∧ z5 = z4) from ⟨rfl, rfl⟩, fun b z5 ⟨e5, q5⟩ H5 D5 S5 => ?_⟩
      subst e5 q5
      have fin : ∀ {z6 : Z} {H6 D6 : Hp}, z6.e = z5.e → Step B Y D4 z5 σ4 H4 D6 z6 H6 → Step B Y D2 ⟨z1.e, z1.w⟩ σ H2 D6 ⟨z1.e, z6.w⟩ H6 := fun {z6 H6 D6} e6 S6 => by
        refine S3.trans (Step.turn S3.rel (e4 := z6.e) (w4 := z6.w) (σ2 := σ4) (G4.trans S6.g) (by rw [e6]; exact we) hσ no)
      refine iteT ?_
      refine ⟨Y, D5, z5, _, S5.rel, q4, fun yv z6 ⟨e6, w6, y6⟩ vv H6 D6 S6 r6 => ?_⟩
      have T := fin e6 (S5.trans S6)
      rw [w6] at T
      obtain ⟨hp6, F6⟩ := T.fr p _ hp2 F2
      subst y6
      refine ⟨f i, S, n, r6.int_, hp6, by unfold scanBound; omega, lt, D6, _, _, ?_, fun k => ?_, upd_same, Step.acc T.rel F6 hp6 (fun c => setO_nc), s2.trans T.same, F6.to F6.d fun i o e => ⟨o, e⟩, fun q e => ?_, fun q u h f => ?_⟩
      · split <;> omega
      · rw [Bool.or_eq_true, inv k, decide_eq_true_iff]
        constructor
        · rintro (⟨j, hj, e⟩ | e)
          · exact ⟨j, by omega, e⟩
          · exact ⟨i, by omega, e.symm⟩
        · rintro ⟨j, hj, e⟩
          by_cases q : j = i
          · exact .inr (by rw [← e, q])
          · exact .inl ⟨j, by omega, e⟩
      · by_cases qp : q = p
        · rw [qp, upd_same] at e; cases e
        · rw [upd_ne qp] at e; exact gr q (T.grow q e)
      · obtain ⟨h1, f1⟩ := fr q u h f
        obtain ⟨h2, f2⟩ := T.fr q u h1 f1
        have qp : q ≠ p := fun x => by rw [x, hp] at h; cases h
        exact ⟨by rw [upd_ne qp]; exact h2, f2.to f2.d fun i o e => ⟨o, e⟩⟩
    · have e : i = ds.length := by omega
      subst e
      refine .inl ⟨yl.stop _ _ _ _ R2 s2, p, S, n, rfl, hp2, by omega, fun ns p2 hs hm hl2 hp2' => ?_⟩
      have T := Step.aside (o := .lst (ns.map V.int)) R2 hp2'
      have F := (Fresh.new (o := .lst (ns.map V.int)) R2 hp2').2
      refine k _ _ (ie ns hs (fun k => (hm k).trans (inv k)) (by omega)) _ _ D2 (S1.trans (Step.trans ⟨R2, s2, gr, fr⟩ T)) ⟨p2, _, rfl, upd_same, S1.grow p2 (gr p2 hp2'), F, _, rfl, RpA.mk_ints ns⟩⟩
end
end Kz

set_option Elab.async false
set_option linter.all false
set_option maxRecDepth 100000
set_option maxHeartbeats 4000000
set_option autoImplicit false
/-! sorted() over data: the calls. -/
namespace Kz
open PySem PySem.Spec PyProof.Rows L2
section
variable {X : Cx} {B : RB}
theorem z_sortSet {sx : Str} {elt tg iter : Expr} {scope : Scope} {own : List (Str × Nat)} {pos pos2 p : Pos} {ti : ZI} {g : ZG} {te : ZE} {is : List Nat} (hm : X.mg sx = none) (hv : bootBuiltins sx = some (.builtin "sorted")) (hi : DI X B tg iter ti) (ok : BlkOk X.N X.env.scope scope own)
    (hg : ∀ (s : Shared) (H : Hp) (C : Addr) (cl : List (Str × Addr)) (fp : List Addr), DG (X.blk s H scope (compEnvC scope cl C X.env) fp) B is tg g)
    (he : ∀ (s : Shared) (H : Hp) (C : Addr) (cl : List (Str × Addr)) (fp : List Addr), DE (X.blk s H scope (compEnvC scope cl C X.env) fp) B elt te) (hN : X.N.Nodup) (sub : ∀ i ∈ is, i ∈ own.map (·.2) := by decide) (hc : X.calm = true := by rfl) (hs : ∀ x, foldedSetIterable iter X.env x = pure x := by intro _; rfl)
    (hgl : Gl X sx := by rfl) (hn : sx ≠ "__name__" := by decide) (hdb : (sx == ("__debug__" : Str)) = false := by decide)
    (s1 : starEach [.SetComp elt [⟨tg, iter, [], 0⟩] scope pos2] X.env = (false, eval (.SetComp elt [⟨tg, iter, [], 0⟩] scope pos2) X.env) :: starEach [] X.env := by rfl) (hpl : (backTo pos (starEach [] X.env)).any (·.1) = false := by rfl) :
    DM X B (.Call (.Name sx p) [.SetComp elt [⟨tg, iter, [], 0⟩] scope pos2] [] pos) (zSortSet ti g te (own.map (·.2))) :=
  pe_weak (pe_callB (cr_sortedSet hc) hgl hm hv (pa_cons (PpSet.pe_scI hc hN hi ok hg (fun _ _ _ _ _ => zts_nil) he hs) pa_nil s1) hn hdb s1 hpl) (sortset_core sub)
/-! ### tuples of ints -/
def tupI (ns : List Int) : D := .tup (ns.map D.int)
theorem RpA.tupIs {Y : RB} {D : Hp} : ∀ {nss : List (List Int)} {vs : List V}, RpA Y D (nss.map tupI) vs → ∃ ks : List (Addr × List Int), vs = ks.map (fun p => V.ref p.1) ∧ ks.map (·.2) = nss ∧ ∀ p ∈ ks, D p.1 = some (.tup (p.2.map V.int))
  | [], vs, r => ⟨[], r.nil_, rfl, fun p h => nomatch h⟩
  | ns :: nss, vs, r => by
    obtain ⟨x, us, rfl, h1, h2⟩ := RpA.cons_ r
    obtain ⟨ks, e1, e2, e3⟩ := RpA.tupIs h2
    obtain ⟨a, xs, rfl, ha, ra⟩ := Rp.tup_ h1
    rw [RpA.ints ra] at ha
    refine ⟨(a, ns) :: ks, by rw [e1]; rfl, by rw [List.map_cons, e2], fun p hp => ?_⟩
    rcases List.mem_cons.mp hp with rfl | hp
    · exact ha
    · exact e3 p hp
theorem RpA.mk_tupIs {Y : RB} {D : Hp} : ∀ {ks : List (Addr × List Int)}, (∀ p ∈ ks, D p.1 = some (.tup (p.2.map V.int))) → RpA Y D ((ks.map (·.2)).map tupI) (ks.map fun p => V.ref p.1)
  | [], _ => RpA.mk_nil
  | p :: ks, h => RpA.mk_cons (Rp.mk_tup (h p List.mem_cons_self) (RpA.mk_ints _)) (RpA.mk_tupIs fun q hq => h q (List.mem_cons_of_mem _ hq))
/-- sorted(xs), xs a list of tuples of four ints: the same in some order -/
def rSortedQ (K : PySem.W.Frag) (d : Nat) : List V → Hp → VK → Prop := fun vs H Q => ∃ (a : Addr) (ks : List (Addr × List Int)), vs = [V.ref a] ∧ SqL K H a (ks.map fun p => V.ref p.1) ∧ (∀ p ∈ ks, SqT K H p.1 (p.2.map V.int) ∧ p.2.length = d + 1) ∧
  ∀ (ls : List (Addr × List Int)) (p : Addr), ls.Perm ks → H p = none → Q (.ref p) (upd H p (.lst (ls.map fun (p : Addr × List Int) => V.ref p.1)))
theorem perm_refs : ∀ {ks : List (Addr × List Int)} {out : List Value}, out.Perm (ks.map fun p => Value.ref p.1) → ∃ ls : List (Addr × List Int), ls.Perm ks ∧ out = ls.map fun p => Value.ref p.1 := by
  intro ks out h
  generalize hm : (ks.map fun p => Value.ref p.1) = m at h
  induction h generalizing ks with
  | nil =>
    cases ks with
    | nil => exact ⟨[], .refl _, rfl⟩
    | cons _ _ => simp at hm
  | cons x h ih =>
    cases ks with
    | nil => simp at hm
    | cons k ks =>
      rw [List.map_cons] at hm
      obtain ⟨e1, e2⟩ := List.cons.inj hm
      obtain ⟨ls, pl, el⟩ := ih e2
      exact ⟨k :: ls, .cons _ pl, by rw [List.map_cons, e1, el]⟩
  | swap x y l =>
    cases ks with
    | nil => simp at hm
    | cons k ks =>
      cases ks with
      | nil => simp at hm
      | cons j ks =>
        rw [List.map_cons, List.map_cons] at hm
        obtain ⟨e1, e2⟩ := List.cons.inj hm
        obtain ⟨e3, e4⟩ := List.cons.inj e2
        exact ⟨j :: k :: ks, .swap _ _ _, by rw [List.map_cons, List.map_cons, e1, e3, e4]⟩
  | trans h1 h2 ih1 ih2 =>
    obtain ⟨ls, pl, el⟩ := ih2 hm
    obtain ⟨ms, pm, em⟩ := ih1 el.symm
    exact ⟨ms, pm.trans pl, em⟩
theorem tups_of {pins : List (Addr × Obj)} {σ : L2.St} {H : Hp} {s : Shared} (I : Inv X pins σ H s) {d : Nat} {ks : List (Addr × List Int)} (hk : ∀ p ∈ ks, SqT X.K H p.1 (p.2.map V.int) ∧ p.2.length = d + 1) : TupsD s.heap d (ks.map fun p => Value.ref p.1) := fun v hv => by
  obtain ⟨p, hp, rfl⟩ := List.mem_map.mp hv
  obtain ⟨h1, h2⟩ := hk p hp
  exact ⟨p.2, tupI_raw I h1, h2⟩
theorem cr_sortedQ {d : Nat} : CallR X (.builtin "sorted") (rSortedQ X.K d) := by
  intro pins s σ H vs us Q I r h
  obtain ⟨a, ks, rfl, hs, hk, q⟩ := h
  obtain ⟨its, rv, hl, hz⟩ := I.list hs
  rw [Vals.ref1 r]
  have e1 := refs_of_vals rv
  subst e1
  have hz' : (ks.map fun p => Value.ref p.1).length ≤ sizeLine := by rw [List.length_map] at hz ⊢; exact hz
  refine sorted_tupsD hl.isList hz' (tups_of I hk) fun h' b out hp k hd hn => ?_
  obtain ⟨ls, pl, rfl⟩ := perm_refs hp
  obtain ⟨n, hn⟩ := hn
  refine ⟨.ref b, upd H b (.lst (ls.map fun p => V.ref p.1)), I.laid (t' := s.toks) k hd ⟨?_, _, n, vals_of_refs ls, hn⟩, rfl, q ls b pl (I.hok.fresh hd)⟩
  rw [List.length_map, pl.length_eq]
  rw [List.length_map] at hz
  exact hz
def zSorted : ZRL := fun ds z Q => match ds with
  | [.lst xs] => ∃ nss : List (List Int), xs = nss.map tupI ∧ (∀ ns ∈ nss, ns.length = 4) ∧ ∀ mss : List (List Int), mss.Perm nss → Q (.own (.lst (mss.map tupI))) z
  | _ => False
theorem l_sorted (hB : B.K = X.K) : LinkA B (rSortedQ X.K 3) zSorted := fun Y D z σ H ds vs Q' Q R r h k => by
  unfold zSorted at h
  split at h
  · obtain ⟨nss, rfl, h4, q⟩ := h
    obtain ⟨v, rfl, r1⟩ := r.one_
    obtain ⟨a, ys, rfl, ha, ra⟩ := r1.lst_
    obtain ⟨ks, rfl, rfl, hk⟩ := RpA.tupIs ra
    refine ⟨a, ks, rfl, SqL.of (R.dat _ _ ha), fun p hp => ⟨SqT.of (R.dat _ _ (hk p hp)), h4 _ (List.mem_map_of_mem hp)⟩, fun ls p pl hp => ?_⟩
    exact k _ z (q (ls.map (·.2)) (List.Perm.map _ pl)) _ _ D (Step.aside R hp) ⟨p, _, rfl, upd_same, hp, (Fresh.new R hp).2, _, rfl, RpA.mk_tupIs fun q hq => hk q (pl.mem_iff.mp hq)⟩
  · exact h.elim
/-- sorted(s), s a set of tuples of ints -/
theorem sorted_setD {P : Program} {w : World} {A : Around} {E : Value → Shared → Prop} {s : Shared} {a : Addr} {L : List (Addr × List Int)} {es : Array (Int × Value)} {ep d : Nat} {t : SetTable} {Q : Value → Shared → Prop} (R : SetTR P w s.heap a L es ep t) (hh : A.handled = none)
    (hk : ∀ p ∈ L, p.2.length = d + 1)
    (hQ : ∀ s' p (out : List Value) (c : Nat), (∀ b o, s.heap.get? b = some o → s'.heap.get? b = some o) → s'.gens = s.gens → s'.os = s.os → s.heap.objs.size ≤ p →
      s'.heap.get? p = some (seqObj "list" out.toArray c) → out.Perm (L.map fun q => Value.ref q.1) → Q (.ref p) s') :
    wpAny (model P w) A (call (.builtin "sorted") [.ref a]) Q E s := by
  obtain ⟨o, ho, hex, hd⟩ := R.ob
  have hsz := R.size
  have hfew := R.few
  refine Calls.call_function_entry kind_sorted plain_sorted entry_sorted (args_sorted1 _) ?_
  unfold Builtin.«sorted»
  refine wpAny_bind (m := checkCount "sorted" 1 1 _) (wpAny_pure ?_)
  refine wpAny_bind (collect_set (A := A.in1) hh ⟨o, ho, hex.1, hd⟩ R.fits (by unfold scanBound; omega) R.tab.ris R.led fun s1 vs k1 hz g1 o1 pm => ?_)
  have hes : es.toList.map (·.2) = L.map fun q => Value.ref q.1 := by
    rw [R.rows]
    unfold rowsOf
    rw [List.map_map]
    rfl
  rw [hes] at pm
  have hvl : vs.length < 64 := by rw [pm.length_eq, List.length_map]; exact hfew
  refine wpAny_bind (wpAny_newList ?_ (by rw [sizeLine_eq]; omega))
  have hoL : (s1.heap.push (seqObj "list" vs.toArray 0)).get? s1.heap.objs.size = some (seqObj "list" vs.toArray 0) := Heap.get?_push_size _ rfl
  have x : TupsD (s1.heap.push (seqObj "list" vs.toArray 0)) d vs := fun v hv => by
    obtain ⟨q, hq, e⟩ := List.mem_map.mp (pm.mem_iff.mp hv)
    rw [← e]
    exact ⟨q.2, tupInts_of (P := P) (w := w) (isT_keep (R.tup q hq) fun b u e => Heap.get?_push_of_some _ (k1 b u e)), hk q hq⟩
  refine wpAny_bind (wpAny_holding (wpAny_call_entry slot_list_sort ⟨_, hoL, rfl⟩ entry_list_sort (Srt.list_sort_any (s := { s1 with heap := s1.heap.push (seqObj "list" vs.toArray 0) }) hoL (by rw [sizeLine_eq]; omega) (fun h2 => tups_sortable (by omega) x (not_tup hoL)) fun out hp => ⟨_, rfl, ?_⟩) (args_list_sort _)))
  obtain ⟨c, hc⟩ := sortedHeap_at (vs := vs) (out := out.toArray) hoL
  refine wpAny_pure ⟨_, rfl, hQ _ s1.heap.objs.size out c (fun b u e => ?_) g1 o1 hz hc (hp.trans pm)⟩
  have q := k1 b u e
  have hlt := Heap.lt_size q
  show (sortedHeap (s1.heap.push (seqObj "list" vs.toArray 0)) s1.heap.objs.size vs out.toArray).get? b = some u
  rw [sortedHeap_old (Nat.ne_of_lt hlt) (by rw [size_push']; exact Nat.lt_succ_of_lt hlt)]
  exact Heap.get?_push_of_some _ q
def rSortedTQ (K : PySem.W.Frag) (P : Program) (w : World) (d : Nat) : List V → Hp → VK → Prop := fun vs H Q => ∃ (a : Addr) (L : List (Addr × List Int)), vs = [V.ref a] ∧ H a = some (SetTO P w a L) ∧ (∀ p ∈ L, SqT K H p.1 (p.2.map V.int) ∧ p.2.length = d + 1) ∧
  ∀ (ls : List (Addr × List Int)) (p : Addr), ls.Perm L → (ls.map (·.2)).Nodup → L.length < 64 → H p = none → Q (.ref p) (upd H p (.lst (ls.map fun (q : Addr × List Int) => V.ref q.1)))
theorem cr_sortedTQ {d : Nat} (hc : X.calm = true) : CallR X (.builtin "sorted") (rSortedTQ X.K X.prog X.w d) := by
  intro pins s σ H vs us Q I r h
  obtain ⟨a, L, rfl, ha, hk, q⟩ := h
  have R0 : SetT0 X.prog X.w s.heap a L := (I.hok a _ ha).1
  obtain ⟨es, ep, t, R⟩ := R0.full fun p hp => I.isT (hk p hp).1
  rw [Vals.ref1 r]
  refine sorted_setD R (I.ok.hd hc) (fun p hp => (hk p hp).2) fun s' p out c k g o hp hg pm => ?_
  obtain ⟨ls, pl, rfl⟩ := perm_refs pm
  have hlen : (ls.map fun q => V.ref q.1).length ≤ sizeLine := by
    rw [List.length_map, pl.length_eq, sizeLine_eq]
    have := R.few
    omega
  have hn : H p = none := I.hok.fresh hp
  have J : Inv X pins σ (upd H p (.lst (ls.map fun q => V.ref q.1))) { s with heap := s'.heap, gens := s'.gens, drawn := s'.drawn, toks := s'.toks } :=
    I.call (ch := []) (Un.laid k hp hn) (I.hok.laid k hp ⟨hlen, _, c, vals_of_refs ls, hg⟩) (by rw [g]; exact I.bare) (fun _ z => nomatch z)
  have e : s' = { s with heap := s'.heap, gens := s'.gens, drawn := s'.drawn, toks := s'.toks } := by
    cases s'
    cases s
    cases o
    rfl
  rw [e]
  exact ⟨.ref p, _, J, rfl, q ls p pl ((pl.map (·.2)).nodup_iff.mpr R.nd) R.few hn⟩
/-- sorted(set(xs)) -/
def zSortedSetOf (t : ZE) : ZM := fun z Q => t z fun d z1 => match d with
  | .lst xs => ∃ nss : List (List Int), xs = nss.map tupI ∧ (∀ ns ∈ nss, ns.length = 4) ∧ nss.length < 64 ∧ ∀ mss : List (List Int), (∀ m, m ∈ mss ↔ m ∈ nss) → mss.Nodup → mss.length < 64 → Q (.own (.lst (mss.map tupI))) z1
  | _ => False
theorem z_sortedSetOf {sx tx : Str} {e : Expr} {t : ZE} {p p2 pos pos2 : Pos} (he : DE X B e t) (hm : X.mg sx = none) (hv : bootBuiltins sx = some (.builtin "sorted")) (hm2 : X.mg tx = none) (hv2 : bootBuiltins tx = some (.type "set")) (hu : X.A.units + 64 < cLine) (hB : B.K = X.K := by rfl) (hc : X.calm = true := by rfl)
    (hgl : Gl X sx := by rfl) (hn : sx ≠ "__name__" := by decide) (hdb : (sx == ("__debug__" : Str)) = false := by decide) (hgl2 : Gl X tx := by rfl) (hn2 : tx ≠ "__name__" := by decide) (hdb2 : (tx == ("__debug__" : Str)) = false := by decide)
    (s1 : starEach [.Call (.Name tx p2) [e] [] pos2] X.env = (false, eval (.Call (.Name tx p2) [e] [] pos2) X.env) :: starEach [] X.env := by rfl) (s2 : starEach [e] X.env = (false, eval e X.env) :: starEach [] X.env := by rfl)
    (hpl : (backTo pos (starEach [] X.env)).any (·.1) = false := by rfl) (hpl2 : (backTo pos2 (starEach [] X.env)).any (·.1) = false := by rfl) :
    DM X B (.Call (.Name sx p) [.Call (.Name tx p2) [e] [] pos2] [] pos) (zSortedSetOf t) :=
  pe_weak (pe_callB (cr_sortedTQ (d := 3) hc) hgl hm hv (pa_cons (pe_callTy (cr_setOfT hc hu) hgl2 hm2 hv2 (pa_cons he pa_nil s2) hn2 hdb2 s2 hpl2) pa_nil s1) hn hdb s1 hpl) fun σ H Q ⟨Y, Dh, z, Q', R0, h, k⟩ =>
    ⟨Y, Dh, z, _, R0, h, fun d z1 q v H1 D1 S1 r1 => by
      cases d with
      | lst xs =>
        obtain ⟨nss, rfl, h4, hl, q⟩ := q
        obtain ⟨a, ys, rfl, ha, ra⟩ := r1.lst_
        obtain ⟨ks, rfl, rfl, hk⟩ := RpA.tupIs ra
        have R := S1.rel
        refine ⟨a, ks, rfl, SqL.of (R.dat _ _ ha), fun p hp => SqT.of (R.dat _ _ (hk p hp)), by rw [List.length_map] at hl; exact hl, fun b L hb sub all => ?_⟩
        have T := Step.aside (o := SetTO X.prog X.w b L) R hb
        refine ⟨b, L, rfl, upd_same, fun p hp => ⟨SqT.of (T.rel.dat _ _ (hk p (sub p hp))), h4 _ (List.mem_map_of_mem (sub p hp))⟩, fun ls p pl nd few hp => ?_⟩
        have T2 := Step.aside (o := .lst (ls.map fun p => V.ref p.1)) T.rel hp
        refine k _ z1 (q (ls.map (·.2)) (fun m => ?_) nd (by rw [List.length_map, pl.length_eq]; exact few)) _ _ D1 (S1.trans (T.trans T2)) ⟨p, _, rfl, upd_same, S1.grow p (T.grow p hp), (Fresh.new T.rel hp).2, _, rfl, RpA.mk_tupIs fun q hq => hk q (sub q (pl.mem_iff.mp hq))⟩
        constructor
        · intro hm
          obtain ⟨q, hq, rfl⟩ := List.mem_map.mp hm
          exact List.mem_map_of_mem (sub q (pl.mem_iff.mp hq))
        · intro hm
          obtain ⟨q, hq, rfl⟩ := List.mem_map.mp hm
          obtain ⟨q2, hq2, e2⟩ := List.mem_map.mp (all q hq)
          rw [← e2]
          exact List.mem_map_of_mem (pl.mem_iff.mpr hq2)
      | _ => exact q.elim⟩
end
end Kz

set_option Elab.async false
set_option linter.all false
set_option maxRecDepth 100000
set_option maxHeartbeats 4000000
set_option autoImplicit false
/-! Dict comprehensions with int keys; lists times an int; list.index; comparing lists. -/
namespace Kz
open PySem PySem.Spec PyProof.Rows L2
section
variable {X : Cx} {B : RB}
def zDComp (ti : ZI) (g : ZG) (tt : ZT) (tk te : ZE) (vs : List Nat) : ZM := fun z Q => ti z fun ds z1 => ds.length ≤ sizeLine ∧ noOwn z1.e vs = true ∧ ∃ I : Nat → List Int → List D → Prop, I 0 [] [] ∧
  (∀ i d ks ac, ds[i]? = some d → I i ks ac → g d ⟨wipeE z1.e vs, z1.w⟩ fun z2 => wipeE z2.e vs = wipeE z1.e vs ∧ tt z2 fun b z3 => z3.e = z2.e ∧ if b = true then tk z3 fun y z4 => te z4 fun x z5 => z5.e = z2.e ∧ z5.w = z1.w ∧ ∃ j, y = .int j ∧ I (i + 1) (dputK ks j) (dputV ks ac j x) else z3.w = z1.w ∧ I (i + 1) ks ac) ∧
  ∀ ks ac, I ds.length ks ac → Q (.own (.dct ks ac)) z1
theorem dputK_len (ks : List Int) (j : Int) : (dputK ks j).length ≤ ks.length + 1 := by
  unfold dputK
  split
  · omega
  · simp
theorem dcomp_core {ti : ZI} {g : ZG} {tt : ZT} {tk te : ZE} {vs is : List Nat} (sub : ∀ i ∈ is, i ∈ vs) : ∀ σ H Q, tZM B (zDComp ti g tt tk te vs) σ H Q → tDc (tZI B ti) (tZG B is g) (tZT B tt) (tZ B tk) (tZ B te) vs σ H Q :=
  fun σ H Q ⟨Y, D, z, Q', R, h, k⟩ => ⟨Y, D, z, _, R, h, fun ds z1 ⟨hlen, no, I, i0, it, ie⟩ J H1 D1 S1 yl => fun p hp => by
    obtain ⟨A0, F0⟩ := Fresh.new (o := .dK []) S1.rel hp
    refine ⟨fun i m H2 => m = ds.length - i ∧ i ≤ ds.length ∧ ∃ ks acc D2 xs, ks.length ≤ i ∧ I i ks acc ∧ H2 p = some (.dK ((ks.map Sum.inl).zip xs)) ∧ ks.length = xs.length ∧ RpA B D2 acc xs ∧ Rel B Y D2 z1 σ H2 ∧ Same D1 D2 ∧ Fresh Y D2 z1 σ H2 p ∧ (∀ q, H2 q = none → H1 q = none) ∧ (∀ q u, H1 q = some u → Fresh Y D1 z1 σ H1 q → H2 q = some u ∧ Fresh Y D2 z1 σ H2 q),
      ⟨ds.length, by simp, Nat.zero_le _, [], [], D1, [], Nat.le_refl _, i0, upd_same, rfl, RpA.mk_nil, A0.rel, Same.refl _, F0, A0.grow, A0.fr⟩, ?_⟩
    rintro i m H2 ⟨rfl, hi, ks, acc, D2, xs, hl, inv, hp2, hkx, ra, R2, s2, F2, gr, fr⟩
    by_cases lt : i < ds.length
    · refine .inr ⟨yl.go i _ _ _ _ R2 s2 lt, fun H5 => i + 1 ≤ ds.length ∧ ∃ ks acc D2 xs, ks.length ≤ i + 1 ∧ I (i + 1) ks acc ∧ H5 p = some (.dK ((ks.map Sum.inl).zip xs)) ∧ ks.length = xs.length ∧ RpA B D2 acc xs ∧ Rel B Y D2 z1 σ H5 ∧ Same D1 D2 ∧ Fresh Y D2 z1 σ H5 p ∧ (∀ q, H5 q = none → H1 q = none) ∧ (∀ q u, H1 q = some u → Fresh Y D1 z1 σ H1 q → H5 q = some u ∧ Fresh Y D2 z1 σ H5 q),
        fun H5 q5 => ⟨ds.length - (i + 1), by omega, rfl, q5⟩, fun x H3 y => ?_⟩
      obtain ⟨D3, d, hd, S3, r3⟩ := yl.yld i _ _ _ _ x H3 R2 s2 lt y
      have R3w := S3.rel.wipe vs
      refine ⟨Y, D3, ⟨wipeE z1.e vs, z1.w⟩, d, _, R3w, r3, it i d ks acc hd inv, fun z4 ⟨we, q4⟩ σ4 H4 D4 G4 og => ?_⟩
      have hσ : L2.wipe σ4 vs = L2.wipe σ vs := og.wipe sub
      refine ⟨hσ, Y, D4, z4, _, G4.rel, q4, fun b z5 ⟨e5, q5⟩ H5 D5 S5 => ?_⟩
      have fin : ∀ {z6 : Z} {H6 D6 : Hp}, z6.e = z4.e → Step B Y D4 z4 σ4 H4 D6 z6 H6 → Step B Y D2 ⟨z1.e, z1.w⟩ σ H2 D6 ⟨z1.e, z6.w⟩ H6 := fun {z6 H6 D6} e6 S6 => by
        refine S3.trans (Step.turn S3.rel (e4 := z6.e) (w4 := z6.w) (σ2 := σ4) (G4.trans S6.g) (by rw [e6]; exact we) hσ no)
      cases b with
      | true =>
        rw [if_pos rfl] at q5
        refine iteT ?_
        refine ⟨Y, D5, z5, _, S5.rel, q5, fun yv z6 q6 vv H6 D6 S6 r6 => ⟨Y, D6, z6, _, S6.rel, q6, fun xv z7 ⟨e7, w7, j, hj, q7⟩ uu H7 D7 S7 r7 => ?_⟩⟩
        have T := fin e7 (S5.trans (S6.trans S7))
        rw [w7] at T
        obtain ⟨hp6, F6⟩ := T.fr p _ hp2 F2
        subst hj
        obtain ⟨ys, p1, p2, p3⟩ := putK_zip (j := j) r7 hkx (RpA.mono T.same _ _ ra)
        refine ⟨(ks.map Sum.inl).zip xs, Sum.inl j, r6.int_, hp6, by rw [List.length_zip, List.length_map, ← hkx, Nat.min_self]; omega, lt, dputK ks j, dputV ks acc j xv, D7, ys, Nat.le_trans (dputK_len ks j) (by omega), q7, by rw [p1, upd_same], p2, p3, Step.acc T.rel F6 hp6, s2.trans T.same, F6.to F6.d fun i o e => ⟨o, e⟩, fun q e => ?_, fun q u h f => ?_⟩
        · by_cases qp : q = p
          · rw [qp, upd_same] at e; cases e
          · rw [upd_ne qp] at e; exact gr q (T.grow q e)
        · obtain ⟨h1, f1⟩ := fr q u h f
          obtain ⟨h2, f2⟩ := T.fr q u h1 f1
          have qp : q ≠ p := fun x => by rw [x, hp] at h; cases h
          exact ⟨by rw [upd_ne qp]; exact h2, f2.to f2.d fun i o e => ⟨o, e⟩⟩
      | false =>
        rw [if_neg Bool.false_ne_true] at q5
        refine iteF ?_
        have T := fin e5 S5
        rw [q5.1] at T
        obtain ⟨hp6, F6⟩ := T.fr p _ hp2 F2
        refine ⟨lt, ks, acc, D5, xs, by omega, q5.2, hp6, hkx, RpA.mono T.same _ _ ra, T.rel, s2.trans T.same, F6, fun q e => gr q (T.grow q e), fun q u h f => ?_⟩
        obtain ⟨h1, f1⟩ := fr q u h f
        exact T.fr q u h1 f1
    · have e : i = ds.length := by omega
      subst e
      refine .inl ⟨yl.stop _ _ _ _ R2 s2, k _ _ (ie ks acc inv) _ H2 D2 (S1.trans ⟨R2, s2, gr, fr⟩) ⟨p, _, rfl, hp2, S1.grow p hp, F2, xs, rfl, hkx, ra⟩⟩⟩
theorem z_dcomp {kx vx tg iter : Expr} {ifs : List Expr} {scope : Scope} {own : List (Str × Nat)} {pos : Pos} {ti : ZI} {g : ZG} {tt : ZT} {tk te : ZE} {is : List Nat} (hi : DI X B tg iter ti) (ok : BlkOk X.N X.env.scope scope own)
    (hg : ∀ (s : Shared) (H : Hp) (C : Addr) (cl : List (Str × Addr)) (fp : List Addr), DG (X.blk s H scope (compEnvC scope cl C X.env) fp) B is tg g) (ht : ∀ (s : Shared) (H : Hp) (C : Addr) (cl : List (Str × Addr)) (fp : List Addr), DTs (X.blk s H scope (compEnvC scope cl C X.env) fp) B ifs tt)
    (hk : ∀ (s : Shared) (H : Hp) (C : Addr) (cl : List (Str × Addr)) (fp : List Addr), DE (X.blk s H scope (compEnvC scope cl C X.env) fp) B kx tk)
    (he : ∀ (s : Shared) (H : Hp) (C : Addr) (cl : List (Str × Addr)) (fp : List Addr), DE (X.blk s H scope (compEnvC scope cl C X.env) fp) B vx te) (hN : X.N.Nodup) (sub : ∀ i ∈ is, i ∈ own.map (·.2) := by decide) (hc : X.calm = true := by rfl) (hs : ∀ x, foldedSetIterable iter X.env x = pure x := by intro _; rfl) :
    DM X B (.DictComp kx vx [⟨tg, iter, ifs, 0⟩] scope pos) (zDComp ti g tt tk te (own.map (·.2))) := pe_weak (pe_dc hc hN hi ok hg ht hk he hs) (dcomp_core sub)
theorem swd_true {kx vx : Expr} {gs : List Comprehension} {scope : Scope} {pos py : Pos} {y : Str} {l : Nat} {env : Env} (hk : env.scope.kind = .function) (hy : env.scope.names.lookup y = some .local) (hl : (py.line == pos.line) = true)
    (ha : (scope.names.any fun (n, k) => n == y && (k == .local || k == .cell)) = false) : swapsWith (.DictComp kx vx gs scope pos) (some (.Name y py)) l env = pure true := by
  have ky : env.kindOf y = some .local := hy
  have hb : env.blockKind = .function := by unfold Env.blockKind; rw [hk]; rfl
  unfold swapsWith
  simp only [hb, ky, ha, Expr.pos, hl]
  rfl
theorem ps_setDc {i : Nat} {y : Str} {py : Pos} {kx vx tg iter : Expr} {ifs : List Expr} {scope : Scope} {own : List (Str × Nat)} {pos spos : Pos} {wi : TI} {g : TG} {tt : TT} {tk te : TE} (hc : X.calm = true) (hN : X.N.Nodup) (hy : X.N[i]? = some y) (hyl : X.env.scope.names.lookup y = some .local)
    (hsw : swapsWith (.DictComp kx vx [⟨tg, iter, ifs, 0⟩] scope pos) (some (.Name y py)) spos.line X.env = pure true) (hi : PI X tg iter wi) (ok : BlkOk X.N X.env.scope scope own)
    (hg : ∀ (s : Shared) (H : Hp) (C : Addr) (cl : List (Str × Addr)) (fp : List Addr), PG (X.blk s H scope (compEnvC scope cl C X.env) fp) tg g) (ht : ∀ (s : Shared) (H : Hp) (C : Addr) (cl : List (Str × Addr)) (fp : List Addr), PTs (X.blk s H scope (compEnvC scope cl C X.env) fp) ifs tt)
    (hk : ∀ (s : Shared) (H : Hp) (C : Addr) (cl : List (Str × Addr)) (fp : List Addr), PE (X.blk s H scope (compEnvC scope cl C X.env) fp) kx tk)
    (he : ∀ (s : Shared) (H : Hp) (C : Addr) (cl : List (Str × Addr)) (fp : List Addr), PE (X.blk s H scope (compEnvC scope cl C X.env) fp) vx te) (hs : ∀ x, foldedSetIterable iter X.env x = pure x := by intro _; rfl) :
    PS X (.Assign [.Name y py] (.DictComp kx vx [⟨tg, iter, ifs, 0⟩] scope pos) spos) (tAsg (tDc wi g tt tk te (own.map (·.2))) (gName i)) := by
  refine ⟨fun pins s σ H D I h => ?_⟩
  rw [exec_Assign_Name_used _ _ _ _ hsw]
  refine wpAny_bind (wpAny_standAt (wpAny_bind ?_))
  show wpAny _ X.A (do let _ ← comprehension (.DictComp kx vx [⟨tg, iter, ifs, 0⟩] scope pos) scope X.env (firstIterPos [⟨tg, iter, ifs, 0⟩] pos) newDict false (eval iter X.env) (some (assign (.Name y py) X.env))) _ _ s
  have h : tDc wi g tt tk te (own.map (·.2)) σ H (fun x H1 => gName i x σ H1 D.nx) := h
  refine wpAny_bind (thn (dc_core (Qf := fun _ s' => SP X pins D .next s') hc hN I hi ok hg ht hk he hs h fun L C s' m H' I' q hn f => ?_) fun _ s' hq => wpAny_pure (wpAny_pure hq))
  show wpAny _ _ (assign (.Name y py) X.env (.ref L)) _ _ _
  refine wpAny_assign_Name (store_ok2 (v := V.ref L) I' hN hy (.inl hyl) rfl (fun s2 I2 ⟨a, sb, ha⟩ => ?_) (.inr hyl))
  obtain ⟨f0, f1, f2, f3, f4, f5⟩ := f
  have haC : C ≠ a := by
    rcases ha with z | z
    · rw [z]; exact f1
    · exact fun e => f4 y a z e.symm
  refine ⟨m, hn.sameBut sb haC, fun h3 sb3 => ?_⟩
  exact ⟨_, H', I2.turned (t' := s2.toks) (fun b o hb e => (sb3.2 b hb).trans e) f0 f1 f3 f4 f5, q⟩
theorem zs_setDc {i : Nat} {y : Str} {py : Pos} {kx vx tg iter : Expr} {ifs : List Expr} {scope : Scope} {own : List (Str × Nat)} {pos spos : Pos} {ti : ZI} {g : ZG} {tt : ZT} {tk te : ZE} {is : List Nat}
    (hi : DI X B tg iter ti) (ok : BlkOk X.N X.env.scope scope own)
    (hg : ∀ (s : Shared) (H : Hp) (C : Addr) (cl : List (Str × Addr)) (fp : List Addr), DG (X.blk s H scope (compEnvC scope cl C X.env) fp) B is tg g) (ht : ∀ (s : Shared) (H : Hp) (C : Addr) (cl : List (Str × Addr)) (fp : List Addr), DTs (X.blk s H scope (compEnvC scope cl C X.env) fp) B ifs tt)
    (hk : ∀ (s : Shared) (H : Hp) (C : Addr) (cl : List (Str × Addr)) (fp : List Addr), DE (X.blk s H scope (compEnvC scope cl C X.env) fp) B kx tk)
    (he : ∀ (s : Shared) (H : Hp) (C : Addr) (cl : List (Str × Addr)) (fp : List Addr), DE (X.blk s H scope (compEnvC scope cl C X.env) fp) B vx te) (hN : X.N.Nodup) (hsw : swapsWith (.DictComp kx vx [⟨tg, iter, ifs, 0⟩] scope pos) (some (.Name y py)) spos.line X.env = pure true := by exact swd_true rfl rfl rfl (by decide +kernel))
    (hy : X.N[i]? = some y := by rfl) (hyl : X.env.scope.names.lookup y = some .local := by rfl) (sub : ∀ i ∈ is, i ∈ own.map (·.2) := by decide) (hc : X.calm = true := by rfl) (hs : ∀ x, foldedSetIterable iter X.env x = pure x := by intro _; rfl) :
    DS X B (.Assign [.Name y py] (.DictComp kx vx [⟨tg, iter, ifs, 0⟩] scope pos) spos) (zSet i (zDComp ti g tt tk te (own.map (·.2)))) :=
  ps_weak (ps_setDc (i := i) hc hN hy hyl hsw hi ok hg ht hk he hs) fun T σ H ⟨Y, D, z, E, R, h, k⟩ => dcomp_core sub σ H _ ⟨Y, D, z, _, R, h, fun s z1 q v H1 D1 S1 r1 => k.nx _ q _ H1 D1 ⟨S1.rel.setVR r1, S1.same, S1.grow⟩⟩
/-! ### a list times an int -/
def zRep (ta tb : ZE) : ZM := fun z Q => ta z fun x z1 => tb z1 fun y z2 => match x, y with
  | .lst xs, .int k => (-(2 ^ 63) ≤ k ∧ k < 2 ^ 63 ∧ xs.length * k.toNat ≤ sizeLine) ∧ Q (.own (.lst (List.replicate k.toNat xs).flatten)) z2
  | _, _ => False
theorem RpA.reps {Y : RB} {D : Hp} {ds : List Kz.D} {xs : List V} (r : RpA Y D ds xs) : ∀ n : Nat, RpA Y D (List.replicate n ds).flatten (List.replicate n xs).flatten
  | 0 => RpA.mk_nil
  | n + 1 => by
    rw [List.replicate_succ, List.replicate_succ, List.flatten_cons, List.flatten_cons]
    exact RpA.append r (RpA.reps r n)
theorem z_rep {a b : Expr} {ta tb : ZE} {pos : Pos} (ha : DE X B a ta) (hb : DE X B b tb) : DM X B (.BinOp a .Mult b pos) (zRep ta tb) :=
  pe_weak (pe_op op_rep ha hb) fun σ H Q ⟨Y, Dh, z, Q', R, h, k⟩ => ⟨Y, Dh, z, _, R, h, fun x z1 h1 v H1 D1 S1 r1 => ⟨Y, D1, z1, _, S1.rel, h1, fun y z2 h2 u H2 D2 S2 r2 => by
    cases x with
    | lst ds =>
      cases y with
      | int n =>
        obtain ⟨⟨h0, h3, h4⟩, h2⟩ := h2
        obtain ⟨p1, xs, rfl, hp1, ra⟩ := r1.lst_
        refine ⟨p1, n, xs, rfl, r2.int_, S2.rel.dat _ _ (S2.same _ _ hp1), h0, h3, by rw [← ra.length]; exact h4, fun p hp => ?_⟩
        have f := S2.rel.fresh hp
        exact k _ z2 h2 _ _ D2 ((S1.trans S2).trans (Step.aside S2.rel hp)) ⟨p, _, rfl, upd_same, S1.grow p (S2.grow p hp), f.to f.d (fun i o e => ⟨o, e⟩), _, rfl, RpA.reps (RpA.mono S2.same _ _ ra) _⟩
      | _ => exact h2.elim
    | _ => exact h2.elim⟩⟩
/-- x.index(e), x a list of ints -/
def zIndex (to te : ZE) : ZE := fun z Q => to z fun x z1 => ∃ is : List Int, x = .lst (is.map D.int) ∧ te z1 fun y z2 => ∃ (k : Int) (j : Nat), y = .int k ∧ is[j]? = some k ∧ (∀ m, m < j → is[m]? ≠ some k) ∧ Q (.int j) z2
theorem z_index {o e : Expr} {to te : ZE} {apos cpos : Pos} (ho : DE X B o to) (he : DE X B e te) (hB : B.K = X.K := by rfl)
    (hbase : attributeBase o "index" X.env (eval o X.env) = eval o X.env := by rfl)
    (hfew : ((backTo cpos (starEach (e :: []) X.env)).all (fun x => !x.1) && (backToKw cpos (keywordEach [] X.env)).all (fun x => x.1.isSome)
      && decide ((e :: ([] : List Expr)).length + ([] : List Keyword).length + (if ([] : List Keyword).isEmpty then 0 else 1) < 30)) = true := by rfl)
    (hline : (apos.endLine == cpos.line) = true := by rfl) (hs : starEach (e :: []) X.env = (false, eval e X.env) :: starEach [] X.env := by rfl) (hplain : (backTo cpos (starEach [] X.env)).any (·.1) = false := by rfl) :
    DE X B (.Call (.Attribute o "index" apos) [e] [] cpos) (zIndex to te) :=
  pe_weak (pe_bm PySem.F.plainAttrs_list PySem.F.slot_list_index PySem.F.type_list_index mt_index ho (pa_cons he pa_nil hs) hbase hfew hline hs hplain) fun σ H Q ⟨Y, D, z, Q', R, h, k⟩ => ⟨Y, D, z, _, R, h, fun x z1 h1 v H1 D1 S1 r1 => by
    obtain ⟨is, rfl, h2⟩ := h1
    obtain ⟨a, xs, rfl, ha, ra⟩ := r1.lst_
    rw [RpA.ints ra] at ha
    refine ⟨.inl ⟨rfl, _, SqL.of (S1.rel.dat _ _ ha)⟩, Y, D1, z1, _, S1.rel, h2, fun y z2 ⟨i, j, e, hj, hm, q⟩ u H2 D2 S2 r2 => ?_⟩
    subst e
    rw [r2.int_]
    refine ⟨a, _, .int i, j, .int i, rfl, rfl, SqL.of (S2.rel.dat _ _ (S2.same _ _ ha)), rfl, flat_ints is, by rw [List.getElem?_map, hj]; rfl, by show (i == i) = true; rw [beq_self_eq_true], fun m z' lt e => ?_, k _ z2 q _ H2 D2 (S1.trans S2) (Rp.mk_int _)⟩
    rw [List.getElem?_map] at e
    cases e3 : is[m]? with
    | none => rw [e3] at e; cases e
    | some n =>
      rw [e3] at e
      cases e
      have := hm m lt
      rw [e3] at this
      exact beq_eq_false_iff_ne.mpr fun z => this (by rw [z])⟩
/-- x != [], x a name that holds a list (it stays whose it is) -/
def okQ (d : D) : Prop := isP d = true ∧ SeqAt.shaped (toP d) = true
def zNeNil (i : Nat) : ZE := fun z Q => match look z.e i with
  | some (.own (.lst ds)) => okQ (.lst ds) ∧ Q (.bl (!ds.isEmpty)) z
  | some (.dat (.lst ds)) => okQ (.lst ds) ∧ Q (.bl (!ds.isEmpty)) z
  | _ => False
theorem eqv_nil {ds : List D} : (!PyData.eqv (toP (.lst ds)) (.list [])) = !ds.isEmpty := by
  cases ds with
  | nil => rfl
  | cons d ds => rfl
theorem z_neNil (i : Nat) {x : Str} {p p2 pos : Pos} (hu : X.A.units + 64 < cLine) (hN : X.N[i]? = some x := by rfl) (hv : Vis X.env.scope x := by first | exact Or.inl rfl | exact Or.inr (Or.inl rfl) | exact Or.inr (Or.inr rfl)) (hd : (x == ("__debug__" : Str)) = false := by decide) (hcd : (x == ("__classdict__" : Str)) = false := by decide) (hB : B.K = X.K := by rfl) :
    DT X B (.Compare (.Name x p) [.NotEq] [.List [] p2] pos) (zB (zNeNil i)) :=
  pt_weak (pt_cmpR (op_neD hu) (pe_var hN hv hd hcd) (pe_lst pa_nil) (nomark _)) fun σ H Q ⟨Y, D, z, Q', R, h, k⟩ => by
    have fin : ∀ {a : Addr} {xs : List V} {ds : List Kz.D}, H a = some (.lst xs) → RpA B D ds xs → okQ (.lst ds) → Q' (!ds.isEmpty) z → ∀ p, H p = none → rNeD X.K (.ref a) (.ref p) (upd H p (.lst [])) (fun v H' => ∃ b, v = .bl b ∧ Q b H') := fun {a xs ds} ha ra ok q p hp => by
      have S := Step.aside (o := .lst []) R hp
      have ne : a ≠ p := fun e => by rw [e, hp] at ha; cases ha
      have ok1 := ok.1
      unfold isP at ok1
      refine ⟨.list (toPs ds), .list [], ?_, ?_, ok.2, rfl, !ds.isEmpty, ?_, k _ z q _ D S⟩
      · exact .lst (SqL.of (by rw [upd_ne ne]; exact ha)) (hB ▸ dpAll_of S.rel.dat ds xs ok1 ra)
      · exact .lst (SqL.of upd_same) .nil
      · show V.bl _ = V.bl _
        rw [← eqv_nil]
        rfl
    have h : zNeNil i z (fun d z1 => match d with | .bl b => Q' b z1 | _ => False) := h
    unfold zNeNil at h
    split at h
    · rename_i ds e0
      obtain ⟨p0, u0, s0, hu0, ⟨xs, rfl, ra⟩, _⟩ := R.look_own e0
      exact ⟨_, s0, Nat.zero_le _, fin hu0 ra h.1 h.2⟩
    · rename_i ds e0
      obtain ⟨v, s0, r⟩ := R.look_dat e0
      obtain ⟨a, xs, rfl, ha, ra⟩ := r.lst_
      exact ⟨_, s0, Nat.zero_le _, fin (R.dat _ _ ha) ra h.1 h.2⟩
    · exact h.elim
/-! ### for k in f(..), a dict that came just now -/
def iKeysL (td : TE) : TI := fun σ H R => td σ H fun x H1 => ∃ d kvs, x = .ref d ∧ H1 d = some (.dK kvs) ∧ ∀ o, R (Itk d o kvs) (upd H1 d (.frz o (.dK kvs)))
theorem pi_keysL {tg e : Expr} {td : TE} (he : PE X e td) : PI X tg e (iKeysL td) := by
  refine ⟨fun pins s σ H R I h => ?_⟩
  refine thn (he.run pins s σ H _ I h) fun u s1 ⟨x, H1, I0, rx, d, kvs, ex, hd0, q⟩ => ?_
  subst ex
  obtain rfl : u = Value.ref d := rx
  obtain ⟨o, I1⟩ := I0.lock hd0 True.intro
  have hd : upd H1 d (.frz o (.dK kvs)) d = some (.frz o (.dK kvs)) := upd_same
  obtain ⟨hs, hgd, hx, es, ep, vs, hdt, hsz, kv, hm⟩ := I1.frzK hd
  refine iter_keys hs hgd hx hdt (pi_one (tk := s1.toks) I1 _ (turn_keys _ hdt) ⟨_, Heap.get?_push_size _ rfl, rfl, ?_⟩ (q o))
  rw [hsz]
  rfl
theorem yields_keys {Y : RC} {D0 : Hp} {a : Addr} {o : Obj} {ks : List Int} {xs : List V} (hl : ks.length = xs.length) (h : D0 a = some (.frz o (.dK ((ks.map Sum.inl).zip xs)))) : Yields B Y D0 (Itk a o ((ks.map Sum.inl).zip xs)) (ks.map Kz.D.int) where
  go := fun i D z σ H R s hi => ⟨R.dat _ _ (s _ _ h), by rw [List.length_map] at hi; rw [List.length_zip, List.length_map, ← hl, Nat.min_self]; exact hi⟩
  stop := fun D z σ H R s => ⟨R.dat _ _ (s _ _ h), by rw [List.length_zip, List.length_map, List.length_map, ← hl, Nat.min_self]; exact Nat.le_refl _⟩
  yld := fun i D z σ H x H' R s hi y => by
    obtain ⟨e, k, v, hk, rfl⟩ := y
    subst e
    rw [List.getElem?_zip_eq_some] at hk
    obtain ⟨h1, h2⟩ := hk
    rw [List.getElem?_map] at h1
    cases e : ks[i]? with
    | none => rw [e] at h1; cases h1
    | some j =>
      rw [e] at h1
      cases h1
      exact ⟨D, .int j, by rw [List.getElem?_map, e]; rfl, Step.refl R, Rp.mk_int j⟩
def ziKeysL (t : ZM) : ZI := fun z Q => t z fun s z1 => match s with
  | .own (.dct ks _) => Q (ks.map D.int) z1
  | _ => False
theorem zi_keysL {tg e : Expr} {t : ZM} (h : DM X B e t) : DI X B tg e (ziKeysL t) := pi_weak (pi_keysL h) fun σ H R ⟨Y, D, z, Q', R0, h, k⟩ =>
  ⟨Y, D, z, _, R0, h, fun s z1 q v H1 D1 S1 r => by
    cases s with
    | dat d => exact q.elim
    | bor d x => exact q.elim
    | own o =>
      cases o with
      | lst ds => exact q.elim
      | ins dx ns ds => exact q.elim
      | dct ks ds =>
        obtain ⟨p, u, rfl, hp, hn, F, xs, rfl, hl, ra⟩ := r
        refine ⟨p, _, rfl, hp, fun o => ?_⟩
        have R1 := Step.acc (o' := .frz o (.dK ((ks.map Sum.inl).zip xs))) S1.rel F hp
        have F1 : Fresh Y D1 z1 σ (upd H1 p (.frz o (.dK ((ks.map Sum.inl).zip xs)))) p := F.to F.d fun i o e => ⟨o, e⟩
        obtain ⟨R2, s2⟩ := R1.adopt0 F1 upd_same
        refine k _ z1 q _ _ _ ⟨R2, S1.same.trans s2, fun q e => ?_, fun q w hq f => ?_⟩ (yields_keys hl upd_same)
        · by_cases x : q = p
          · rw [x, upd_same] at e; cases e
          · rw [upd_ne x] at e; exact S1.grow q e
        · obtain ⟨h1, f1⟩ := S1.fr q w hq f
          have x : q ≠ p := fun e => by rw [e, hn] at hq; cases hq
          exact ⟨by rw [upd_ne x]; exact h1, f1.to (by rw [upd_ne x]; exact f1.d) fun i o e => ⟨o, e⟩⟩⟩
end
end Kz

set_option Elab.async false
set_option linter.all false
set_option autoImplicit false
/-! Plain law: links, ways, rings. No program here. -/
namespace Kz
structure Lk where
  a : Int
  b : Int
  t : Int
  d : Int
deriving DecidableEq
def tokS (r : List Lk) : Int := (r.map Lk.t).sum
def tikS (r : List Lk) : Int := (r.map Lk.d).sum
def okK (n : Int) (l : Lk) : Prop := 0 ≤ l.a ∧ l.a < n ∧ 0 ≤ l.b ∧ l.b < n ∧ 0 ≤ l.t ∧ 0 ≤ l.d
/-- a link of a net of n events -/
def inN (n : Int) (l : Lk) : Prop := 0 ≤ l.a ∧ l.a < n ∧ 0 ≤ l.b ∧ l.b < n
theorem len_sub : ∀ {l m : List Int}, l.Nodup → (∀ x ∈ l, x ∈ m) → l.length ≤ m.length
  | [], m, _, _ => Nat.zero_le _
  | x :: l, m, h, s => by
    rw [List.nodup_cons] at h
    have hx := s x List.mem_cons_self
    have : l.length ≤ (m.erase x).length := len_sub h.2 fun y hy => (List.mem_erase_of_ne (fun e => h.1 (by rw [← e]; exact hy))).mpr (s y (List.mem_cons_of_mem _ hy))
    rw [List.length_erase_of_mem hx] at this
    have hp : 0 < m.length := List.length_pos_of_mem hx
    rw [List.length_cons]
    omega
theorem len_range {l : List Int} {n : Nat} (h : l.Nodup) (s : ∀ x ∈ l, 0 ≤ x ∧ x < n) : l.length ≤ n := by
  have := len_sub (m := (List.range n).map Int.ofNat) h fun x hx => by
    obtain ⟨h1, h2⟩ := s x hx
    refine List.mem_map.mpr ⟨x.toNat, List.mem_range.mpr (by omega), ?_⟩
    show ((x.toNat : Nat) : Int) = x
    omega
  simpa using this
def hs (w : List Lk) : List Int := w.map Lk.a
def endO : List Lk → Int
  | [] => 0
  | [l] => l.b
  | _ :: l :: r => endO (l :: r)
def chain : List Lk → Prop
  | [] => True
  | [_] => True
  | x :: y :: r => x.b = y.a ∧ chain (y :: r)
theorem endO_snoc (l : Lk) : ∀ w : List Lk, endO (w ++ [l]) = l.b
  | [] => rfl
  | [x] => rfl
  | x :: y :: r => by show endO ((y :: r) ++ [l]) = l.b; exact endO_snoc l (y :: r)
theorem endO_app (l : Lk) (r : List Lk) : ∀ w : List Lk, endO (w ++ l :: r) = endO (l :: r)
  | [] => rfl
  | [x] => rfl
  | x :: y :: s => by show endO ((y :: s) ++ l :: r) = _; exact endO_app l r (y :: s)
theorem chain_app (l : Lk) (r : List Lk) : ∀ w : List Lk, w ≠ [] → (chain (w ++ l :: r) ↔ chain w ∧ endO w = l.a ∧ chain (l :: r))
  | [], h => (h rfl).elim
  | [x], _ => by show x.b = l.a ∧ chain (l :: r) ↔ True ∧ x.b = l.a ∧ chain (l :: r); simp
  | x :: y :: s, _ => by
    have ih := chain_app l r (y :: s) (by simp)
    show x.b = y.a ∧ chain ((y :: s) ++ l :: r) ↔ (x.b = y.a ∧ chain (y :: s)) ∧ endO (y :: s) = l.a ∧ chain (l :: r)
    rw [ih]
    constructor
    · rintro ⟨a, b, c⟩; exact ⟨⟨a, b⟩, c⟩
    · rintro ⟨⟨a, b⟩, c⟩; exact ⟨a, b, c⟩
/-- a way from f, its events f and later ones, each once -/
structure Way (ls : List Lk) (f : Int) (w : List Lk) : Prop where
  head : ∃ l r, w = l :: r ∧ l.a = f
  sub : ∀ l ∈ w, l ∈ ls
  chain : chain w
  nd : (hs w).Nodup
  low : ∀ l ∈ w, f ≤ l.a
/-- a ring: it comes back to its least event -/
def Ring (ls : List Lk) (r : List Lk) : Prop := ∃ f, Way ls f r ∧ endO r = f
def Ring1 (ls : List Lk) (f : Int) (r : List Lk) : Prop := Way ls f r ∧ endO r = f
theorem Way.ne {ls : List Lk} {f : Int} {w : List Lk} (h : Way ls f w) : w ≠ [] := by
  obtain ⟨l, r, e, _⟩ := h.head
  rw [e]; simp
theorem Way.one {ls : List Lk} {l : Lk} (h : l ∈ ls) : Way ls l.a [l] :=
  ⟨⟨l, [], rfl, rfl⟩, fun x hx => by rw [List.mem_singleton.mp hx]; exact h, trivial, by simp [hs], fun x hx => by rw [List.mem_singleton.mp hx]; exact Int.le_refl _⟩
theorem Way.snoc {ls : List Lk} {f : Int} {w : List Lk} {l : Lk} (h : Way ls f w) (hl : l ∈ ls) (ha : l.a = endO w) (hn : endO w ∉ hs w) (hf : f ≤ endO w) : Way ls f (w ++ [l]) := by
  obtain ⟨m, r, e, hm⟩ := h.head
  refine ⟨⟨m, r ++ [l], by rw [e]; rfl, hm⟩, fun x hx => ?_, (chain_app l [] w h.ne).mpr ⟨h.chain, ha.symm, trivial⟩, ?_, fun x hx => ?_⟩
  · rcases List.mem_append.mp hx with hx | hx
    · exact h.sub x hx
    · rw [List.mem_singleton.mp hx]; exact hl
  · unfold hs
    rw [List.map_append, List.nodup_append]
    refine ⟨h.nd, by simp, fun a ha' b hb e => ?_⟩
    simp at hb
    rw [hb, ha] at e
    exact hn (by rw [← e]; exact ha')
  · rcases List.mem_append.mp hx with hx | hx
    · exact h.low x hx
    · rw [List.mem_singleton.mp hx, ha]; exact hf
theorem Way.len {ls : List Lk} {f : Int} {w : List Lk} {n : Nat} (h : Way ls f w) (ok : ∀ l ∈ ls, inN n l) : w.length ≤ n := by
  have := len_range (n := n) h.nd fun x hx => by
    obtain ⟨l, hl, rfl⟩ := List.mem_map.mp hx
    have := ok l (h.sub l hl)
    exact ⟨this.1, this.2.1⟩
  unfold hs at this
  rwa [List.length_map] at this
/-- what the search may still go on with -/
def Open (ls : List Lk) (f : Int) (w : List Lk) : Prop := Way ls f w ∧ (endO w = f ∨ (f < endO w ∧ endO w ∉ hs w))
/-- how a ring goes on behind a piece of it -/
theorem Ring1.next {ls : List Lk} {f : Int} {p s : List Lk} {l : Lk} (h : Ring1 ls f (p ++ l :: s)) (hp : p ≠ []) : l ∈ ls ∧ l.a = endO p ∧ f < endO p ∧ endO p ∉ hs p ∧ (l.b = f ∨ (f < l.b ∧ l.b ∉ hs (p ++ [l]))) := by
  obtain ⟨W, he⟩ := h
  obtain ⟨m, r, e, hm⟩ := W.head
  obtain ⟨c1, c2, c3⟩ := (chain_app l s p hp).mp W.chain
  have nd := W.nd
  unfold hs at nd
  rw [List.map_append, List.nodup_append] at nd
  obtain ⟨n1, n2, n3⟩ := nd
  have nin : endO p ∉ hs p := fun hx => n3 _ hx l.a (by simp) (by rw [c2])
  have fin : f ∈ hs p := by
    cases p with
    | nil => exact (hp rfl).elim
    | cons x q =>
      rw [List.cons_append] at e
      obtain ⟨e1, e2⟩ := List.cons.inj e
      rw [← hm, ← e1]
      exact List.mem_cons_self
  have fle : f ≤ l.a := W.low l (by simp)
  have fne : f ≠ endO p := fun e => nin (by rw [← e]; exact fin)
  refine ⟨W.sub l (by simp), c2.symm, by omega, nin, ?_⟩
  cases s with
  | nil =>
    rw [endO_snoc] at he
    exact .inl he
  | cons y s =>
    refine .inr ?_
    have lb : l.b = y.a := c3.1
    have yin : y.a ∉ hs (p ++ [l]) := by
      unfold hs
      rw [List.map_append]
      intro hx
      rcases List.mem_append.mp hx with hx | hx
      · exact n3 _ hx y.a (by simp) rfl
      · simp at hx
        rw [List.map_cons, List.nodup_cons] at n2
        exact n2.1 (by rw [← hx]; simp)
    have fle2 : f ≤ y.a := W.low y (by simp)
    have fne2 : f ≠ y.a := fun e => yin (by rw [← e]; unfold hs; rw [List.map_append]; exact List.mem_append_left _ fin)
    rw [lb]
    exact ⟨by omega, yin⟩
theorem Ring1.at_end {ls : List Lk} {f : Int} {p s : List Lk} (h : Ring1 ls f (p ++ s)) (hp : p ≠ []) (e : endO p = f) : s = [] := by
  cases s with
  | nil => rfl
  | cons l s =>
    obtain ⟨_, _, h3, _⟩ := h.next hp
    omega
/-- the longer ways, as the program takes them -/
def goes (w : List Lk) (f : Int) (l : Lk) : Bool := decide (l.a = endO w) && (decide (l.b = f) || (decide (f < l.b) && !((hs w ++ [endO w]).contains l.b)))
def exts (ls w : List Lk) (f : Int) : List (List Lk) := (ls.filter (goes w f)).map fun l => w ++ [l]
theorem exts_open {ls w : List Lk} {f : Int} (h : Way ls f w) (h2 : f < endO w) (h3 : endO w ∉ hs w) : ∀ v ∈ exts ls w f, Open ls f v := fun v hv => by
  obtain ⟨l, hl, rfl⟩ := List.mem_map.mp hv
  obtain ⟨hl, hg⟩ := List.mem_filter.mp hl
  unfold goes at hg
  simp only [Bool.and_eq_true, Bool.or_eq_true, decide_eq_true_iff, Bool.not_eq_true', List.contains_eq_mem, decide_eq_false_iff_not] at hg
  refine ⟨h.snoc hl hg.1 h3 (by omega), ?_⟩
  rw [endO_snoc]
  rcases hg.2 with e | ⟨e1, e2⟩
  · exact .inl e
  · refine .inr ⟨e1, fun hx => e2 ?_⟩
    unfold hs at hx ⊢
    rw [List.map_append] at hx
    rw [← hg.1]
    exact hx
/-- the rings from f: found, or a piece of them waits -/
structure RInv (ls : List Lk) (f : Int) (F W : List (List Lk)) : Prop where
  ok : ∀ w ∈ W, Open ls f w
  all : ∀ r, Ring1 ls f r → r ∈ F ∨ ∃ p ∈ W, ∃ s, r = p ++ s
def wt (w : List Lk) : Nat := 16 ^ (5 - w.length)
def Phi (W : List (List Lk)) : Nat := (W.map wt).sum
theorem Phi_app (U V : List (List Lk)) : Phi (U ++ V) = Phi U + Phi V := by unfold Phi; rw [List.map_append, List.sum_append]
theorem wt_pos (w : List Lk) : 0 < wt w := Nat.pow_pos (by omega)
theorem Phi_le {c : Nat} : ∀ {W : List (List Lk)}, (∀ w ∈ W, wt w ≤ c) → Phi W ≤ W.length * c
  | [], _ => Nat.zero_le _
  | w :: W, h => by
    have h1 := h w List.mem_cons_self
    have h2 := Phi_le (W := W) fun v hv => h v (List.mem_cons_of_mem _ hv)
    show wt w + Phi W ≤ (W.length + 1) * c
    rw [Nat.add_mul, Nat.one_mul]
    omega
theorem exts_phi {ls w : List Lk} {f : Int} {n : Nat} (h : Open ls f w) (hf : endO w ≠ f) (ok : ∀ l ∈ ls, inN n l) (hn : n ≤ 5) (hl : ls.length ≤ 15) : Phi (exts ls w f) < wt w := by
  have h2 : f < endO w ∧ endO w ∉ hs w := h.2.resolve_left hf
  have hlen : (exts ls w f).length ≤ 15 := by
    unfold exts
    rw [List.length_map]
    exact Nat.le_trans (List.length_filter_le _ _) hl
  by_cases c : w.length ≤ 4
  · have hp := Phi_le (c := 16 ^ (4 - w.length)) (W := exts ls w f) fun v hv => by
      obtain ⟨l, _, rfl⟩ := List.mem_map.mp hv
      unfold wt
      rw [List.length_append, List.length_singleton, show 5 - (w.length + 1) = 4 - w.length from by omega]
      exact Nat.le_refl _
    have e : wt w = 16 * 16 ^ (4 - w.length) := by
      unfold wt
      rw [show 5 - w.length = (4 - w.length) + 1 from by omega, Nat.pow_succ, Nat.mul_comm]
    have hq : (exts ls w f).length * 16 ^ (4 - w.length) ≤ 15 * 16 ^ (4 - w.length) := Nat.mul_le_mul_right _ hlen
    have hpos : 0 < 16 ^ (4 - w.length) := Nat.pow_pos (by omega)
    omega
  · have : exts ls w f = [] := by
      cases e : exts ls w f with
      | nil => rfl
      | cons v V =>
        have hv : v ∈ exts ls w f := by rw [e]; exact List.mem_cons_self
        have hw := (exts_open h.1 h2.1 h2.2 v hv).1.len ok
        obtain ⟨l, _, rfl⟩ := List.mem_map.mp hv
        rw [List.length_append, List.length_singleton] at hw
        omega
    rw [this]
    exact wt_pos w
theorem RInv.found {ls : List Lk} {f : Int} {F W : List (List Lk)} {w : List Lk} (I : RInv ls f F (W ++ [w])) (e : endO w = f) : RInv ls f (F ++ [w]) W ∧ Ring1 ls f w := by
  have ow := I.ok w (by simp)
  refine ⟨⟨fun v hv => I.ok v (by simp [hv]), fun r hr => ?_⟩, ow.1, e⟩
  rcases I.all r hr with h | ⟨p, hp, s, rfl⟩
  · exact .inl (by simp [h])
  · rcases List.mem_append.mp hp with hp | hp
    · exact .inr ⟨p, hp, s, rfl⟩
    · rw [List.mem_singleton.mp hp] at hr ⊢
      rw [hr.at_end ow.1.ne e]
      exact .inl (by simp)
theorem RInv.more {ls : List Lk} {f : Int} {F W : List (List Lk)} {w : List Lk} (I : RInv ls f F (W ++ [w])) (e : endO w ≠ f) : RInv ls f F (W ++ exts ls w f) := by
  have ow := I.ok w (by simp)
  obtain ⟨h1, h2⟩ := ow.2.resolve_left e
  refine ⟨fun v hv => ?_, fun r hr => ?_⟩
  · rcases List.mem_append.mp hv with hv | hv
    · exact I.ok v (by simp [hv])
    · exact exts_open ow.1 h1 h2 v hv
  · rcases I.all r hr with h | ⟨p, hp, s, rfl⟩
    · exact .inl h
    · rcases List.mem_append.mp hp with hp | hp
      · exact .inr ⟨p, by simp [hp], s, rfl⟩
      · rw [List.mem_singleton.mp hp] at hr ⊢
        cases s with
        | nil => rw [List.append_nil] at hr; exact (e hr.2).elim
        | cons l s =>
          obtain ⟨a1, a2, a3, a4, a5⟩ := hr.next ow.1.ne
          refine .inr ⟨w ++ [l], List.mem_append_right _ (List.mem_map.mpr ⟨l, List.mem_filter.mpr ⟨a1, ?_⟩, rfl⟩), s, by simp⟩
          unfold goes
          simp only [Bool.and_eq_true, Bool.or_eq_true, decide_eq_true_iff, Bool.not_eq_true', List.contains_eq_mem, decide_eq_false_iff_not]
          refine ⟨a2, ?_⟩
          rcases a5 with a5 | ⟨a5, a6⟩
          · exact .inl a5
          · refine .inr ⟨a5, fun hx => a6 ?_⟩
            unfold hs at hx ⊢
            rw [List.map_append]
            rw [← a2] at hx
            exact hx
theorem RInv.start {ls : List Lk} {f : Int} (F : List (List Lk)) : RInv ls f F ((ls.filter fun l => decide (l.a = f) && decide (f ≤ l.b)).map fun l => [l]) := by
  refine ⟨fun w hw => ?_, fun r hr => ?_⟩
  · obtain ⟨l, hl, rfl⟩ := List.mem_map.mp hw
    obtain ⟨hl2, hg⟩ := List.mem_filter.mp hl
    simp only [Bool.and_eq_true, decide_eq_true_iff] at hg
    obtain ⟨rfl, hg⟩ := hg
    refine ⟨Way.one hl2, ?_⟩
    show l.b = l.a ∨ (l.a < l.b ∧ l.b ∉ [l.a])
    simp
    omega
  · obtain ⟨W, he⟩ := hr
    obtain ⟨l, s, e, ha⟩ := W.head
    refine .inr ⟨[l], List.mem_map.mpr ⟨l, List.mem_filter.mpr ⟨W.sub l (by rw [e]; simp), ?_⟩, rfl⟩, s, e⟩
    simp only [Bool.and_eq_true, decide_eq_true_iff]
    refine ⟨ha, ?_⟩
    cases s with
    | nil =>
      rw [e] at he
      have : l.b = f := he
      omega
    | cons y s =>
      have c := W.chain
      rw [e] at c
      have : l.b = y.a := c.1
      rw [this]
      exact W.low y (by rw [e]; simp)
theorem RInv.done {ls : List Lk} {f : Int} {F : List (List Lk)} (I : RInv ls f F []) : ∀ r, Ring1 ls f r → r ∈ F := fun r hr => by
  rcases I.all r hr with h | ⟨p, hp, _⟩
  · exact h
  · exact absurd hp (by simp)
end Kz

set_option Elab.async false
set_option linter.all false
set_option autoImplicit false
/-! Plain law: what is led to. -/
namespace Kz
inductive Reach (ls : List Lk) (es : List Int) : Int → Prop
  | base {e : Int} (h : e ∈ es) : Reach ls es e
  | step {l : Lk} (h : Reach ls es l.a) (hl : l ∈ ls) : Reach ls es l.b
structure Led (ls : List Lk) (es ks W : List Int) (R : Lk → Prop) : Prop where
  nd : ks.Nodup
  ok : ∀ e ∈ ks, Reach ls es e
  st : ∀ e ∈ es, e ∈ ks
  wk : ∀ e ∈ W, e ∈ ks
  cl : ∀ l ∈ ls, l.a ∈ ks → l.b ∈ ks ∨ l.a ∈ W ∨ R l
  sz : W.length ≤ ks.length
def ledMu (ks W : List Int) : Nat := W.length + 2 * (1000 - ks.length)
theorem Led.start {ls : List Lk} {es : List Int} (h : es.Nodup) : Led ls es es es fun _ => False :=
  ⟨h, fun e he => .base he, fun e he => he, fun e he => he, fun l hl ha => .inr (.inl ha), Nat.le_refl _⟩
theorem Led.pop {ls : List Lk} {es ks W : List Int} {h : Int} (L : Led ls es ks (W ++ [h]) fun _ => False) : Led ls es ks W fun l => l.a = h := by
  refine ⟨L.nd, L.ok, L.st, fun e he => L.wk e (by simp [he]), fun l hl ha => ?_, by have := L.sz; rw [List.length_append] at this; omega⟩
  rcases L.cl l hl ha with c | c | c
  · exact .inl c
  · rcases List.mem_append.mp c with c | c
    · exact .inr (.inl c)
    · exact .inr (.inr (by simpa using c))
  · exact c.elim
theorem Led.skip {ls : List Lk} {es ks W : List Int} {R : Lk → Prop} {l : Lk} (L : Led ls es ks W R) (h : l.b ∈ ks) : Led ls es ks W fun x => R x ∧ x ≠ l := by
  refine ⟨L.nd, L.ok, L.st, L.wk, fun x hx ha => ?_, L.sz⟩
  rcases L.cl x hx ha with c | c | c
  · exact .inl c
  · exact .inr (.inl c)
  · by_cases e : x = l
    · subst e; exact .inl h
    · exact .inr (.inr ⟨c, e⟩)
theorem Led.weak {ls : List Lk} {es ks W : List Int} {R R' : Lk → Prop} (L : Led ls es ks W R) (h : ∀ l ∈ ls, R l → R' l) : Led ls es ks W R' :=
  ⟨L.nd, L.ok, L.st, L.wk, fun l hl ha => (L.cl l hl ha).imp_right fun c => c.imp_right (h l hl), L.sz⟩
theorem Led.push {ls : List Lk} {es ks W : List Int} {R : Lk → Prop} {l : Lk} (L : Led ls es ks W R) (hl : l ∈ ls) (ha : l.a ∈ ks) (h : l.b ∉ ks) : Led ls es (ks ++ [l.b]) (W ++ [l.b]) fun x => R x ∧ x ≠ l := by
  refine ⟨?_, fun e he => ?_, fun e he => by simp [L.st e he], fun e he => ?_, fun x hx hxa => ?_, by have := L.sz; rw [List.length_append, List.length_append]; simpa using this⟩
  · rw [List.nodup_append]
    exact ⟨L.nd, by simp, fun a ha b hb e => h (by simp at hb; rw [← hb, ← e]; exact ha)⟩
  · rcases List.mem_append.mp he with he | he
    · exact L.ok e he
    · rw [List.mem_singleton.mp he]; exact .step (L.ok _ ha) hl
  · rcases List.mem_append.mp he with he | he
    · exact List.mem_append_left _ (L.wk e he)
    · exact List.mem_append_right _ he
  · rcases List.mem_append.mp hxa with hxa | hxa
    · rcases L.cl x hx hxa with c | c | c
      · exact .inl (List.mem_append_left _ c)
      · exact .inr (.inl (List.mem_append_left _ c))
      · by_cases e : x = l
        · subst e; exact .inl (by simp)
        · exact .inr (.inr ⟨c, e⟩)
    · exact .inr (.inl (List.mem_append_right _ hxa))
theorem Led.done {ls : List Lk} {es ks : List Int} (L : Led ls es ks [] fun _ => False) : ∀ e, e ∈ ks ↔ Reach ls es e := fun e => by
  refine ⟨L.ok e, fun h => ?_⟩
  induction h with
  | base h => exact L.st _ h
  | step h hl ih =>
    rcases L.cl _ hl ih with c | c | c
    · exact c
    · exact absurd c (by simp)
    · exact c.elim
theorem Led.few {ls : List Lk} {es ks W : List Int} {R : Lk → Prop} (L : Led ls es ks W R) (h1 : es.length ≤ 100) (h2 : ls.length ≤ 100) : ks.length ≤ 200 := by
  have sub : ∀ e, Reach ls es e → e ∈ es ++ ls.map Lk.b := fun e h => by
    cases h with
    | base h => exact List.mem_append_left _ h
    | step h hl => exact List.mem_append_right _ (List.mem_map_of_mem hl)
  have := len_sub L.nd fun x hx => sub x (L.ok x hx)
  rw [List.length_append, List.length_map] at this
  omega
end Kz

set_option Elab.async false
set_option linter.all false
set_option autoImplicit false
/-! Plain law: fractions in lowest terms; what rings ask; the best. -/
namespace Kz
def low (a b : Int) : Int × Int := if 0 < b then (a.fdiv (Nat.gcd a.natAbs b.natAbs : Nat), b.fdiv (Nat.gcd a.natAbs b.natAbs : Nat)) else (a.fdiv (0 - (Nat.gcd a.natAbs b.natAbs : Nat)), b.fdiv (0 - (Nat.gcd a.natAbs b.natAbs : Nat)))
def below (x y : Int × Int) : Bool := decide (x.1 * y.2 < y.1 * x.2)
theorem fdiv_mul {a c : Int} (h : c ∣ a) (hc : c ≠ 0) : a.fdiv c * c = a := by
  obtain ⟨k, rfl⟩ := h
  rw [Int.mul_fdiv_cancel_left _ hc, Int.mul_comm]
theorem gcd_dvd_l (a b : Int) : ((Nat.gcd a.natAbs b.natAbs : Nat) : Int) ∣ a := Int.ofNat_dvd_left.mpr (Nat.gcd_dvd_left _ _)
theorem gcd_dvd_r (a b : Int) : ((Nat.gcd a.natAbs b.natAbs : Nat) : Int) ∣ b := Int.ofNat_dvd_left.mpr (Nat.gcd_dvd_right _ _)
/-- p/q is a/b in lowest terms -/
structure Lowest (a b : Int) (f : Int × Int) : Prop where
  pos : 0 < f.2
  eq : f.1 * b = a * f.2
  cop : Nat.gcd f.1.natAbs f.2.natAbs = 1
theorem cop_of {a b c : Int} {p q : Int} (hp : p * c = a) (hq : q * c = b) (hg : c.natAbs = Nat.gcd a.natAbs b.natAbs) (hc : c ≠ 0) : Nat.gcd p.natAbs q.natAbs = 1 := by
  have h : Nat.gcd p.natAbs q.natAbs * c.natAbs = c.natAbs := by
    rw [← Nat.gcd_mul_right, ← Int.natAbs_mul, ← Int.natAbs_mul, hp, hq, ← hg]
  have hz : 0 < c.natAbs := Int.natAbs_pos.mpr hc
  have : Nat.gcd p.natAbs q.natAbs * c.natAbs = 1 * c.natAbs := by rw [h, Nat.one_mul]
  exact Nat.eq_of_mul_eq_mul_right hz this
theorem low_lowest {a b : Int} (hb : b ≠ 0) : Lowest a b (low a b) := by
  have hg : 0 < Nat.gcd a.natAbs b.natAbs := Nat.gcd_pos_of_pos_right _ (by omega)
  have key : ∀ c : Int, c.natAbs = Nat.gcd a.natAbs b.natAbs → c ≠ 0 → c ∣ a → c ∣ b → 0 < b * c → Lowest a b (a.fdiv c, b.fdiv c) := fun c h1 h2 h3 h4 h5 => by
    have ea := fdiv_mul h3 h2
    have eb := fdiv_mul h4 h2
    refine ⟨?_, ?_, cop_of ea eb h1 h2⟩
    · show 0 < b.fdiv c
      rcases Int.lt_trichotomy (b.fdiv c) 0 with k | k | k
      · exfalso
        have : b * c = b.fdiv c * (c * c) := by rw [← Int.mul_assoc, eb]
        have hcc : 0 ≤ c * c := by rcases Int.le_total 0 c with z | z; exact Int.mul_nonneg z z; exact Int.mul_nonneg_of_nonpos_of_nonpos z z
        have := Int.mul_nonpos_of_nonpos_of_nonneg (Int.le_of_lt k) hcc
        omega
      · rw [k, Int.zero_mul] at eb; exact (hb eb.symm).elim
      · exact k
    · show a.fdiv c * b = a * b.fdiv c
      calc a.fdiv c * b = a.fdiv c * (b.fdiv c * c) := by rw [eb]
        _ = (a.fdiv c * c) * b.fdiv c := by rw [Int.mul_comm (b.fdiv c) c, Int.mul_assoc]
        _ = a * b.fdiv c := by rw [ea]
  unfold low
  by_cases c : 0 < b
  · rw [if_pos c]
    exact key _ (Int.natAbs_natCast _) (by omega) (gcd_dvd_l a b) (gcd_dvd_r a b) (Int.mul_pos c (by omega))
  · rw [if_neg c, Int.zero_sub]
    exact key _ (by rw [Int.natAbs_neg, Int.natAbs_natCast]) (by omega) (Int.neg_dvd.mpr (gcd_dvd_l a b)) (Int.neg_dvd.mpr (gcd_dvd_r a b)) (Int.mul_pos_of_neg_of_neg (by omega) (by omega))
theorem dvd_of_cop {p q : Nat} (h : Nat.gcd p q = 1) {m : Nat} (d : q ∣ p * m) : q ∣ m := (Nat.Coprime.dvd_of_dvd_mul_left (Nat.coprime_comm.mp h) d)
theorem lowest_unique {f g : Int × Int} (hf : 0 < f.2) (hg : 0 < g.2) (cf : Nat.gcd f.1.natAbs f.2.natAbs = 1) (cg : Nat.gcd g.1.natAbs g.2.natAbs = 1) (e : f.1 * g.2 = g.1 * f.2) : f = g := by
  have en : f.1.natAbs * g.2.natAbs = g.1.natAbs * f.2.natAbs := by rw [← Int.natAbs_mul, ← Int.natAbs_mul, e]
  have d1 : f.2.natAbs ∣ g.2.natAbs := dvd_of_cop cf ⟨g.1.natAbs, by rw [en, Nat.mul_comm]⟩
  have d2 : g.2.natAbs ∣ f.2.natAbs := dvd_of_cop cg ⟨f.1.natAbs, by rw [← en, Nat.mul_comm]⟩
  have e2 : f.2 = g.2 := by
    have := Nat.dvd_antisymm d1 d2
    omega
  rw [e2] at e
  have e1 : f.1 = g.1 := Int.eq_of_mul_eq_mul_right (by omega) e
  exact Prod.ext e1 e2
theorem below_trans {x y z : Int × Int} (hx : 0 < x.2) (hy : 0 < y.2) (hz : 0 < z.2) (h1 : below y x = false) (h2 : below z y = false) : below z x = false := by
  unfold below at *
  rw [decide_eq_false_iff_not, Int.not_lt] at *
  have a1 := Int.mul_le_mul_of_nonneg_right h1 (Int.le_of_lt hz)
  have a2 := Int.mul_le_mul_of_nonneg_right h2 (Int.le_of_lt hx)
  have e1 : x.1 * y.2 * z.2 = x.1 * z.2 * y.2 := by rw [Int.mul_assoc, Int.mul_comm y.2, ← Int.mul_assoc]
  have e2 : y.1 * x.2 * z.2 = y.1 * z.2 * x.2 := by rw [Int.mul_assoc, Int.mul_comm x.2, ← Int.mul_assoc]
  have e3 : z.1 * y.2 * x.2 = z.1 * x.2 * y.2 := by rw [Int.mul_assoc, Int.mul_comm y.2, ← Int.mul_assoc]
  exact Int.le_of_mul_le_mul_right (a := y.2) (by rw [← e1, ← e3]; omega) hy
theorem below_asymm {x y : Int × Int} (h : below x y = true) : below y x = false := by
  unfold below at *
  rw [decide_eq_true_iff] at h
  rw [decide_eq_false_iff_not]
  omega
def asks (r : List Lk) : Int × Int := low (tikS r) (tokS r)
theorem asks_pos {r : List Lk} (h : tokS r ≠ 0) : 0 < (asks r).2 := (low_lowest h).pos
/-- o: the best of S, or none if S is empty -/
def BstP (S : List Lk → Prop) : Option (List Lk) → Prop
  | none => ∀ r, ¬ S r
  | some r => S r ∧ ∀ r', S r' → below (asks r) (asks r') = false
theorem BstP.keep {S S' : List Lk → Prop} {o : Option (List Lk)} (h : BstP S o) (e : ∀ r, S r ↔ S' r) : BstP S' o := by
  cases o with
  | none => exact fun r hr => h r ((e r).mpr hr)
  | some r => exact ⟨(e r).mp h.1, fun r' hr => h.2 r' ((e r').mpr hr)⟩
theorem BstP.first {S S' : List Lk → Prop} {r : List Lk} (h : BstP S none) (e : ∀ x, S' x ↔ S x ∨ x = r) : BstP S' (some r) :=
  ⟨(e r).mpr (.inr rfl), fun x hx => by
    rcases (e x).mp hx with k | k
    · exact (h x k).elim
    · rw [k]; unfold below; rw [decide_eq_false_iff_not]; omega⟩
theorem BstP.up {S S' : List Lk → Prop} {q r : List Lk} (h : BstP S (some q)) (e : ∀ x, S' x ↔ S x ∨ x = r) (pos : ∀ x, S' x → 0 < (asks x).2) (b : below (asks q) (asks r) = true) : BstP S' (some r) :=
  ⟨(e r).mpr (.inr rfl), fun x hx => by
    rcases (e x).mp hx with k | k
    · exact below_trans (pos x hx) (pos q ((e q).mpr (.inl h.1))) (pos r ((e r).mpr (.inr rfl))) (h.2 x k) (below_asymm b)
    · rw [k]; unfold below; rw [decide_eq_false_iff_not]; omega⟩
theorem BstP.stay {S S' : List Lk → Prop} {q r : List Lk} (h : BstP S (some q)) (e : ∀ x, S' x ↔ S x ∨ x = r) (b : below (asks q) (asks r) = false) : BstP S' (some q) :=
  ⟨(e q).mpr (.inl h.1), fun x hx => by
    rcases (e x).mp hx with k | k
    · exact h.2 x k
    · rw [k]; exact b⟩
end Kz

set_option Elab.async false
set_option linter.all false
set_option maxRecDepth 100000
set_option maxHeartbeats 4000000
set_option autoImplicit false
/-! The small defs. -/
namespace Kz
open PySem PySem.Spec PyProof.Rows L2
section
variable {P : Program} {w : World} {K : PySem.W.Frag} {mg : Str → Option Value} {base : Heap} {B : RB}
/-! ### which data -/
def isL : D → Bool
  | .lst _ => true
  | .tup _ => true
  | _ => false
def isI : D → Bool
  | .int _ => true
  | _ => false
theorem k_LT {d : D} {R : Bool → Prop} (h : tyN d ≠ none) (q : R (isL d)) : ∃ n b, tyN d = some n ∧ kitB2 n "list" "tuple" = some b ∧ R b := by
  cases d <;> first | exact (h rfl).elim | exact ⟨_, true, rfl, by decide +kernel, q⟩ | exact ⟨_, false, rfl, by decide +kernel, q⟩
theorem k_int {d : D} {R : Bool → Prop} (h : tyN d ≠ none) (q : R (isI d || (match d with | .bl _ => true | _ => false))) : ∃ n b, tyN d = some n ∧ kitB n "int" = some b ∧ R b := by
  cases d <;> first | exact (h rfl).elim | exact ⟨_, true, rfl, by decide +kernel, q⟩ | exact ⟨_, false, rfl, by decide +kernel, q⟩
theorem k_bool {d : D} {R : Bool → Prop} (h : tyN d ≠ none) (q : R ((match d with | .bl _ => true | _ => false))) : ∃ n b, tyN d = some n ∧ kitB n "bool" = some b ∧ R b := by
  cases d <;> first | exact (h rfl).elim | exact ⟨_, true, rfl, by decide +kernel, q⟩ | exact ⟨_, false, rfl, by decide +kernel, q⟩
def F_is_list : ZF := fun ds wd Q => ∃ d, ds = [d] ∧ tyN d ≠ none ∧ Q (.dat (.bl (isL d))) wd
theorem len_is_list : ∀ ds wd Q, F_is_list ds wd Q → ds.length = 1 := fun ds wd Q ⟨a, e, _⟩ => by rw [e]; rfl
theorem sc_is_list : FnScope ["thing"] ["thing"] (defScope Kp.s_is_list) := ⟨rfl, rfl, rfl, by decide +kernel, rfl, by decide +kernel, by decide +kernel⟩
theorem ok_is_list (T : Top K mg B) (hK : B.K = K) (A : AllDefs K mg) : ZDef P w K mg base B "is_list" 1 F_is_list := by
  subst hK
  obtain ⟨f, fd, FD, hm⟩ := A 0 Kp.d_is_list rfl rfl
  have sc := sc_is_list
  refine zdef (k := 0) FD hm sc (fun _ _ _ _ _ _ us hl => match us, hl with | [_], _ => rfl) len_is_list fun cdv A0 outer s H E hr => ⟨_, (zs_one (zs_ret (z_isi2 (id := "list") (id2 := "tuple") (zv 0) T.isinstance T.list T.tuple (by decide +kernel) (by decide +kernel)))), fun ds wd Q h => ?_⟩
  obtain ⟨d, rfl, h, q⟩ := h
  exact k_LT (R := fun b => Q (.dat (.bl b)) wd) h q
def F_is_whole : ZF := fun ds wd Q => ∃ d, ds = [d] ∧ tyN d ≠ none ∧ Q (.dat (.bl (isI d))) wd
theorem len_is_whole : ∀ ds wd Q, F_is_whole ds wd Q → ds.length = 1 := fun ds wd Q ⟨a, e, _⟩ => by rw [e]; rfl
theorem sc_is_whole : FnScope ["thing"] ["thing"] (defScope Kp.s_is_whole) := ⟨rfl, rfl, rfl, by decide +kernel, rfl, by decide +kernel, by decide +kernel⟩
theorem ok_is_whole (T : Top K mg B) (hK : B.K = K) (A : AllDefs K mg) : ZDef P w K mg base B "is_whole" 1 F_is_whole := by
  subst hK
  obtain ⟨f, fd, FD, hm⟩ := A 1 Kp.d_is_whole rfl rfl
  have sc := sc_is_whole
  refine zdef (k := 0) FD hm sc (fun _ _ _ _ _ _ us hl => match us, hl with | [_], _ => rfl) len_is_whole fun cdv A0 outer s H E hr => ⟨_, (zs_one (zs_ret (z_andV (z_isi (id := "int") (zv 0) T.isinstance T.int (by decide +kernel)) (z_one (z_notV (z_isi (id := "bool") (zv 0) T.isinstance T.bool (by decide +kernel))))))), fun ds wd Q h => ?_⟩
  obtain ⟨d, rfl, h, q⟩ := h
  refine k_int (R := fun b => _) h ?_
  cases d with
  | bl b => exact k_bool (R := fun b => _) h q
  | int b => exact k_bool (R := fun b => _) h q
  | _ => exact q
def F_is_number : ZF := fun ds wd Q => ∃ d, ds = [d] ∧ tyN d ≠ none ∧ Q (.dat (.bl (match d with | .int i => decide (0 ≤ i) | _ => false))) wd
theorem len_is_number : ∀ ds wd Q, F_is_number ds wd Q → ds.length = 1 := fun ds wd Q ⟨a, e, _⟩ => by rw [e]; rfl
theorem sc_is_number : FnScope ["thing"] ["thing"] (defScope Kp.s_is_number) := ⟨rfl, rfl, rfl, by decide +kernel, rfl, by decide +kernel, by decide +kernel⟩
theorem ok_is_number (T : Top K mg B) (hK : B.K = K) (A : AllDefs K mg) (G_is_whole : ZDef P w K mg base B "is_whole" 1 F_is_whole) : ZDef P w K mg base B "is_number" 2 F_is_number := by
  subst hK
  obtain ⟨f, fd, FD, hm⟩ := A 2 Kp.d_is_number rfl rfl
  have sc := sc_is_number
  refine zdef (k := 1) FD hm sc (fun _ _ _ _ _ _ us hl => match us, hl with | [_], _ => rfl) len_is_number fun cdv A0 outer s H E hr => ⟨_, (zs_one (zs_ret (z_andV (z_E (z_call G_is_whole (hr.mono (by decide)) (by rfl) (za_cons (zv 0) za_nil))) (z_one (z_cmp op_ge l_B0 (zv 0) zint (nomark _)))))), fun ds wd Q h => ?_⟩
  obtain ⟨d, rfl, h, q⟩ := h
  refine ⟨d, rfl, h, ?_⟩
  cases d with
  | int b => exact q
  | _ => exact q
def F_is_positive : ZF := fun ds wd Q => ∃ d, ds = [d] ∧ tyN d ≠ none ∧ Q (.dat (.bl (match d with | .int i => decide (1 ≤ i) | _ => false))) wd
theorem len_is_positive : ∀ ds wd Q, F_is_positive ds wd Q → ds.length = 1 := fun ds wd Q ⟨a, e, _⟩ => by rw [e]; rfl
theorem sc_is_positive : FnScope ["thing"] ["thing"] (defScope Kp.s_is_positive) := ⟨rfl, rfl, rfl, by decide +kernel, rfl, by decide +kernel, by decide +kernel⟩
theorem ok_is_positive (T : Top K mg B) (hK : B.K = K) (A : AllDefs K mg) (G_is_whole : ZDef P w K mg base B "is_whole" 1 F_is_whole) : ZDef P w K mg base B "is_positive" 2 F_is_positive := by
  subst hK
  obtain ⟨f, fd, FD, hm⟩ := A 3 Kp.d_is_positive rfl rfl
  have sc := sc_is_positive
  refine zdef (k := 1) FD hm sc (fun _ _ _ _ _ _ us hl => match us, hl with | [_], _ => rfl) len_is_positive fun cdv A0 outer s H E hr => ⟨_, (zs_one (zs_ret (z_andV (z_E (z_call G_is_whole (hr.mono (by decide)) (by rfl) (za_cons (zv 0) za_nil))) (z_one (z_cmp op_ge l_B0 (zv 0) zint (nomark _)))))), fun ds wd Q h => ?_⟩
  obtain ⟨d, rfl, h, q⟩ := h
  refine ⟨d, rfl, h, ?_⟩
  cases d with
  | int b => exact q
  | _ => exact q

/-! ### fractions -/
def frD (f : Int × Int) : D := .tup [.int f.1, .int f.2]
def F_lowest : ZF := fun ds wd Q => ∃ a b : Int, ds = [.int a, .int b] ∧ b ≠ 0 ∧ b.natAbs < 1073741824 ∧ Q (.dat (frD (low a b))) wd
theorem len_lowest : ∀ ds wd Q, F_lowest ds wd Q → ds.length = 2 := fun ds wd Q ⟨a, b, e, _⟩ => by rw [e]; rfl
theorem size2 : 2 ≤ sizeLine := by rw [sizeLine_eq]; omega
theorem sc_lowest : FnScope ["top", "bottom", "common"] ["top", "bottom"] (defScope Kp.s_lowest) := ⟨rfl, rfl, rfl, by decide +kernel, rfl, by decide +kernel, by decide +kernel⟩
theorem ok_lowest (T : Top K mg B) (hK : B.K = K) (A : AllDefs K mg) : ZDef P w K mg base B "lowest" 1 F_lowest := by
  subst hK
  obtain ⟨f, fd, FD, hm⟩ := A 5 Kp.d_lowest rfl rfl
  have sc := sc_lowest
  refine zdef (k := 0) FD hm sc (fun _ _ _ _ _ _ us hl => match us, hl with | [_, _], _ => rfl) len_lowest fun cdv A0 outer s H E hr => ⟨_, (zs_cons (zs_set (i := 2) (z_M (z_if (z_cmpT op_gt l_B0 (zv 1) zint (nomark _)) (z_E (z_gcd T.gcd (za_cons (zv 0) (za_cons (zv 1) za_nil)))) (z_op op_sub l_I0 zint (z_E (z_gcd T.gcd (za_cons (zv 0) (za_cons (zv 1) za_nil))))))) sc.nd) (zs_one (zs_ret (z_tup (za_cons (z_op op_fdivN l_I (zv 0) (zv 2)) (za_cons (z_op op_fdivN l_I (zv 1) (zv 2)) za_nil)))))), fun ds wd Q h => ?_⟩
  obtain ⟨a, b, rfl, hb, hs, q⟩ := h
  have hg : 0 < Nat.gcd a.natAbs b.natAbs := Nat.gcd_pos_of_pos_right _ (by omega)
  have hle : Nat.gcd a.natAbs b.natAbs ≤ b.natAbs := Nat.gcd_le_right _ (by omega)
  unfold low at q
  refine ite2 (fun c => ?_) fun c => ?_
  · rw [if_pos (of_decide_eq_true c)] at q
    exact ⟨⟨by omega, by omega⟩, ⟨by omega, by omega⟩, size2, q⟩
  · rw [if_neg (of_decide_eq_false (by simpa using c))] at q
    exact ⟨⟨by omega, by omega⟩, ⟨by omega, by omega⟩, size2, q⟩
def F_multiple_of : ZF := fun ds wd Q => ∃ a b : Int, ds = [.int a, .int b] ∧ 0 < a ∧ 0 < b ∧ a < 1073741824 ∧ b < 1073741824 ∧ Q (.dat (.int ((a * b).fdiv (Nat.gcd a.natAbs b.natAbs : Nat)))) wd
theorem len_multiple_of : ∀ ds wd Q, F_multiple_of ds wd Q → ds.length = 2 := fun ds wd Q ⟨a, b, e, _⟩ => by rw [e]; rfl
theorem sc_multiple_of : FnScope ["one", "other"] ["one", "other"] (defScope Kp.s_multiple_of) := ⟨rfl, rfl, rfl, by decide +kernel, rfl, by decide +kernel, by decide +kernel⟩
theorem ok_multiple_of (T : Top K mg B) (hK : B.K = K) (A : AllDefs K mg) : ZDef P w K mg base B "multiple_of" 1 F_multiple_of := by
  subst hK
  obtain ⟨f, fd, FD, hm⟩ := A 4 Kp.d_multiple_of rfl rfl
  have sc := sc_multiple_of
  refine zdef (k := 0) FD hm sc (fun _ _ _ _ _ _ us hl => match us, hl with | [_, _], _ => rfl) len_multiple_of fun cdv A0 outer s H E hr => ⟨_, (zs_one (zs_ret (z_op op_fdivN l_I (z_op op_mul l_I (zv 0) (zv 1)) (z_E (z_gcd T.gcd (za_cons (zv 0) (za_cons (zv 1) za_nil))))))), fun ds wd Q h => ?_⟩
  obtain ⟨a, b, rfl, ha, hb, ha2, hb2, q⟩ := h
  have hg : 0 < Nat.gcd a.natAbs b.natAbs := Nat.gcd_pos_of_pos_right _ (by omega)
  have hle : Nat.gcd a.natAbs b.natAbs ≤ b.natAbs := Nat.gcd_le_right _ (by omega)
  exact ⟨.inl ⟨by omega, by omega⟩, ⟨by omega, by omega⟩, q⟩
def sm (i : Int) : Prop := -(2 ^ 64) < i ∧ i < 2 ^ 64
theorem mulR {i j : Int} (h : sm j) : CMul i j := .inr h
theorem mulL {i j : Int} (h : sm i) : CMul i j := .inl h
/-- two-element data -/
def is2 (d : D) (x y : D) : Prop := d = .lst [x, y] ∨ d = .tup [x, y]
theorem is2.ix0 {d x y : D} {z : Z} {Q : D → Z → Prop} (h : is2 d x y) (q : Q x z) : zIx d (.int 0) z Q := by
  rcases h with rfl | rfl <;> exact ⟨x, rfl, q⟩
theorem is2.ix1 {d x y : D} {z : Z} {Q : D → Z → Prop} (h : is2 d x y) (q : Q y z) : zIx d (.int 1) z Q := by
  rcases h with rfl | rfl <;> exact ⟨y, rfl, q⟩
def isF (d : D) (f : Int × Int) : Prop := is2 d (.int f.1) (.int f.2)
theorem isF_frD (f : Int × Int) : isF (frD f) f := .inr rfl
def F_is_below : ZF := fun ds wd Q => ∃ d e f g, ds = [d, e] ∧ isF d f ∧ isF e g ∧ sm f.2 ∧ sm g.2 ∧ Q (.dat (.bl (below f g))) wd
theorem len_is_below : ∀ ds wd Q, F_is_below ds wd Q → ds.length = 2 := fun ds wd Q ⟨a, b, _, _, e, _⟩ => by rw [e]; rfl
theorem sc_is_below : FnScope ["one", "other"] ["one", "other"] (defScope Kp.s_is_below) := ⟨rfl, rfl, rfl, by decide +kernel, rfl, by decide +kernel, by decide +kernel⟩
theorem ok_is_below (T : Top K mg B) (hK : B.K = K) (A : AllDefs K mg) : ZDef P w K mg base B "is_below" 1 F_is_below := by
  subst hK
  obtain ⟨f, fd, FD, hm⟩ := A 7 Kp.d_is_below rfl rfl
  have sc := sc_is_below
  refine zdef (k := 0) FD hm sc (fun _ _ _ _ _ _ us hl => match us, hl with | [_, _], _ => rfl) len_is_below fun cdv A0 outer s H E hr => ⟨_, (zs_one (zs_ret (z_cmp op_lt l_B0 (z_op op_mul l_I (z_ix (zv 0) zint) (z_ix (zv 1) zint)) (z_op op_mul l_I (z_ix (zv 1) zint) (z_ix (zv 0) zint)) (nomark _)))), fun ds wd Q h => ?_⟩
  obtain ⟨d, e, f1, g, rfl, h1, h2, s1, s2, q⟩ := h
  rcases h1 with rfl | rfl <;> rcases h2 with rfl | rfl <;> exact ⟨_, rfl, _, rfl, mulR s2, _, rfl, _, rfl, mulR s1, q⟩
def F_plus : ZF := fun ds wd Q => ∃ d e f g, ds = [d, e] ∧ isF d f ∧ isF e g ∧ 0 < f.2 ∧ 0 < g.2 ∧ f.2 * g.2 < 1073741824 ∧ Q (.dat (frD (low (f.1 * g.2 + g.1 * f.2) (f.2 * g.2)))) wd
theorem len_plus : ∀ ds wd Q, F_plus ds wd Q → ds.length = 2 := fun ds wd Q ⟨a, b, _, _, e, _⟩ => by rw [e]; rfl
theorem sc_plus : FnScope ["one", "other"] ["one", "other"] (defScope Kp.s_plus) := ⟨rfl, rfl, rfl, by decide +kernel, rfl, by decide +kernel, by decide +kernel⟩
theorem ok_plus (T : Top K mg B) (hK : B.K = K) (A : AllDefs K mg) (G_lowest : ZDef P w K mg base B "lowest" 1 F_lowest) : ZDef P w K mg base B "plus" 2 F_plus := by
  subst hK
  obtain ⟨f, fd, FD, hm⟩ := A 8 Kp.d_plus rfl rfl
  have sc := sc_plus
  refine zdef (k := 1) FD hm sc (fun _ _ _ _ _ _ us hl => match us, hl with | [_, _], _ => rfl) len_plus fun cdv A0 outer s H E hr => ⟨_, (zs_one (zs_ret (z_E (z_call G_lowest (hr.mono (by decide)) (by rfl) (za_cons (z_op op_add l_I0 (z_op op_mul l_I (z_ix (zv 0) zint) (z_ix (zv 1) zint)) (z_op op_mul l_I (z_ix (zv 1) zint) (z_ix (zv 0) zint))) (za_cons (z_op op_mul l_I (z_ix (zv 0) zint) (z_ix (zv 1) zint)) za_nil)))))), fun ds wd Q h => ?_⟩
  obtain ⟨d, e, f1, g, rfl, h1, h2, s1, s3, hm2, q⟩ := h
  have hm1 : 0 < f1.2 * g.2 := Int.mul_pos s1 s3
  have l1 : f1.2 * 1 ≤ f1.2 * g.2 := Int.mul_le_mul_of_nonneg_left (by omega) (by omega)
  have l2 : 1 * g.2 ≤ f1.2 * g.2 := Int.mul_le_mul_of_nonneg_right (by omega) (by omega)
  rw [Int.mul_one] at l1
  rw [Int.one_mul] at l2
  have k1 : sm g.2 := ⟨by omega, by omega⟩
  have k2 : sm f1.2 := ⟨by omega, by omega⟩
  rcases h1 with rfl | rfl <;> rcases h2 with rfl | rfl <;> exact ⟨_, rfl, _, rfl, mulR k1, _, rfl, _, rfl, mulR k2, _, rfl, _, rfl, mulR k1, _, _, rfl, by omega, by omega, q⟩
/-- data that the checks may look at: its type is known, and its parts' are, two deep -/
def tk (d : D) : Prop := tyN d ≠ none
def tks (d : D) : Prop := tk d ∧ match d with
  | .lst xs => ∀ x ∈ xs, tk x
  | .tup xs => ∀ x ∈ xs, tk x
  | _ => True
def intOf : D → Option Int
  | .int i => some i
  | _ => none
def els : D → Option (List D)
  | .lst xs => some xs
  | .tup xs => some xs
  | _ => none
/-- a fraction, by the program's check -/
def frac (d : D) : Option (Int × Int) := match els d with
  | some [.int a, .int b] => if 1 ≤ b then some (a, b) else none
  | _ => none
def F_is_fraction : ZF := fun ds wd Q => ∃ d, ds = [d] ∧ tks d ∧ Q (.dat (.bl (frac d).isSome)) wd
theorem len_is_fraction : ∀ ds wd Q, F_is_fraction ds wd Q → ds.length = 1 := fun ds wd Q ⟨a, e, _⟩ => by rw [e]; rfl
theorem cp2 {α : Type} : ∀ (xs : List α), xs.length ≠ 2 ∨ ∃ x y, xs = [x, y]
  | [] => .inl (by simp)
  | [_] => .inl (by simp)
  | [x, y] => .inr ⟨x, y, rfl⟩
  | _ :: _ :: _ :: _ => .inl (by simp)
theorem sc_is_fraction : FnScope ["thing"] ["thing"] (defScope Kp.s_is_fraction) := ⟨rfl, rfl, rfl, by decide +kernel, rfl, by decide +kernel, by decide +kernel⟩
theorem ok_is_fraction (T : Top K mg B) (hK : B.K = K) (A : AllDefs K mg) (G_is_positive : ZDef P w K mg base B "is_positive" 2 F_is_positive) (G_is_whole : ZDef P w K mg base B "is_whole" 1 F_is_whole) (G_is_list : ZDef P w K mg base B "is_list" 1 F_is_list) : ZDef P w K mg base B "is_fraction" 3 F_is_fraction := by
  subst hK
  obtain ⟨f, fd, FD, hm⟩ := A 6 Kp.d_is_fraction rfl rfl
  have sc := sc_is_fraction
  refine zdef (k := 2) FD hm sc (fun _ _ _ _ _ _ us hl => match us, hl with | [_], _ => rfl) len_is_fraction fun cdv A0 outer s H E hr => ⟨_, (zs_one (zs_ret (z_andV (z_E (z_call G_is_list (hr.mono (by decide)) (by rfl) (za_cons (zv 0) za_nil))) (z_andV (z_cmp op_eq l_eq (z_E (z_bi call_len (l_len rfl) T.len PySem.boot_len (za_cons (zv 0) za_nil))) zint (nomark _)) (z_andV (z_E (z_call G_is_whole (hr.mono (by decide)) (by rfl) (za_cons (z_ix (zv 0) zint) za_nil))) (z_one (z_E (z_call G_is_positive (hr.mono (by decide)) (by rfl) (za_cons (z_ix (zv 0) zint) za_nil))))))))), fun ds wd Q h => ?_⟩
  obtain ⟨d, rfl, h, q⟩ := h
  refine ⟨d, rfl, h.1, ?_⟩
  simp only [zComp, zYes, wipeE, noOwn, List.map, zSeq, zNext, zPass, zRet, zRetM, zRetO, zIfS, zDrop, zSet, zPar, zPar3, zMd, zAd, zVar, zC, zBin, zB, zI, zI0, zEq, zEqD, zNot, zAnd, zOr, zAndV, zOrV, zNotV, zIf, zNeg, zIsN, zNil, zCons, zStar, zLst, zTup, zEmp, zBi, zLen, zMax, zAbs, zIntOf, zListOf, zTupOf, zGcd, zCall, zIsi, zIsi2, zIsi4, zMany, zLinks, zApp, zExt, zPop, zPopAt, zPut, zLenN, zAug, zFrz, zIn, zNotInN, zInD, zGetD, zPutD, zAsg, zgN, zgNil, zgCons, zgTup, ziSeq, ziRng1, ziRng2, ziEnum, ziZip, zNoP, zPt, zCut, zCat, zIxN, setO, fin, svd_dat, svd_own, odd_l, odd_d, st_cc, st_cn, st_nn, if_true, if_false, ite_true, ite_false, dite_true, Bool.false_eq_true, decide_true, decide_false, reduceIte, Bool.false_bne, Bool.true_bne, lk0, lk1, lk2, lk3, lk4, lk5, lk6, lk7, lk8, lk9, lk10, lk11, lk12, lk13, lk14, lk15, lk16, lk17, lk18, lk19, se0, se1, se2, se3, se4, se5, se6, se7, se8, se9, se10, se11, se12, se13, se14, se15, se16, se17, se18, se19]
  have q' : ∀ xs, els d = some xs → (∀ x ∈ xs, tk x) → (xs.length ≠ 2 ∧ (frac d).isSome = false) ∨ ∃ x y, xs = [x, y] ∧ tk x ∧ tk y ∧ ((isI x = true ∧ (match y with | .int i => decide (1 ≤ i) | _ => false) = (frac d).isSome) ∨ (isI x = false ∧ (frac d).isSome = false)) := fun xs e ht => by
    unfold frac
    rw [e]
    rcases cp2 xs with c | ⟨x, y, rfl⟩
    · refine .inl ⟨c, ?_⟩
      split
      · rename_i q; cases q; exact (c rfl).elim
      · rfl
    · refine .inr ⟨x, y, rfl, ht x (by simp), ht y (by simp), ?_⟩
      cases x <;> first | exact .inr ⟨rfl, rfl⟩ | skip
      refine .inl ⟨rfl, ?_⟩
      cases y <;> first | rfl | skip
      rename_i i j
      by_cases c : 1 ≤ j <;> simp [c]
  cases d with
  | lst xs =>
    simp only [isL, if_true]
    rcases q' xs rfl h.2 with ⟨c, e⟩ | ⟨x, y, rfl, t1, t2, c⟩
    · rw [if_neg (by simpa using fun z => c (by omega))]; rw [e] at q; exact q
    · refine ite1 rfl ⟨x, rfl, x, rfl, t1, ?_⟩
      simp only [svd_dat]
      rcases c with ⟨c1, c2⟩ | ⟨c1, c2⟩
      · refine ite1 c1 ?_
        simp only [zComp, zYes, wipeE, noOwn, List.map, zSeq, zNext, zPass, zRet, zRetM, zRetO, zIfS, zDrop, zSet, zPar, zPar3, zMd, zAd, zVar, zC, zBin, zB, zI, zI0, zEq, zEqD, zNot, zAnd, zOr, zAndV, zOrV, zNotV, zIf, zNeg, zIsN, zNil, zCons, zStar, zLst, zTup, zEmp, zBi, zLen, zMax, zAbs, zIntOf, zListOf, zTupOf, zGcd, zCall, zIsi, zIsi2, zIsi4, zMany, zLinks, zApp, zExt, zPop, zPopAt, zPut, zLenN, zAug, zFrz, zIn, zNotInN, zInD, zGetD, zPutD, zAsg, zgN, zgNil, zgCons, zgTup, ziSeq, ziRng1, ziRng2, ziEnum, ziZip, zNoP, zPt, zCut, zCat, zIxN, setO, fin, svd_dat, svd_own, odd_l, odd_d, st_cc, st_cn, st_nn, if_true, if_false, ite_true, ite_false, dite_true, Bool.false_eq_true, decide_true, decide_false, reduceIte, Bool.false_bne, Bool.true_bne, lk0, lk1, lk2, lk3, lk4, lk5, lk6, lk7, lk8, lk9, lk10, lk11, lk12, lk13, lk14, lk15, lk16, lk17, lk18, lk19, se0, se1, se2, se3, se4, se5, se6, se7, se8, se9, se10, se11, se12, se13, se14, se15, se16, se17, se18, se19]
        exact ⟨y, rfl, y, rfl, t2, by rw [c2]; exact q⟩
      · rw [if_neg (by rw [c1]; simp)]; rw [c2] at q; exact q
  | tup xs =>
    simp only [isL, if_true]
    rcases q' xs rfl h.2 with ⟨c, e⟩ | ⟨x, y, rfl, t1, t2, c⟩
    · rw [if_neg (by simpa using fun z => c (by omega))]; rw [e] at q; exact q
    · refine ite1 rfl ⟨x, rfl, x, rfl, t1, ?_⟩
      simp only [svd_dat]
      rcases c with ⟨c1, c2⟩ | ⟨c1, c2⟩
      · refine ite1 c1 ?_
        simp only [zComp, zYes, wipeE, noOwn, List.map, zSeq, zNext, zPass, zRet, zRetM, zRetO, zIfS, zDrop, zSet, zPar, zPar3, zMd, zAd, zVar, zC, zBin, zB, zI, zI0, zEq, zEqD, zNot, zAnd, zOr, zAndV, zOrV, zNotV, zIf, zNeg, zIsN, zNil, zCons, zStar, zLst, zTup, zEmp, zBi, zLen, zMax, zAbs, zIntOf, zListOf, zTupOf, zGcd, zCall, zIsi, zIsi2, zIsi4, zMany, zLinks, zApp, zExt, zPop, zPopAt, zPut, zLenN, zAug, zFrz, zIn, zNotInN, zInD, zGetD, zPutD, zAsg, zgN, zgNil, zgCons, zgTup, ziSeq, ziRng1, ziRng2, ziEnum, ziZip, zNoP, zPt, zCut, zCat, zIxN, setO, fin, svd_dat, svd_own, odd_l, odd_d, st_cc, st_cn, st_nn, if_true, if_false, ite_true, ite_false, dite_true, Bool.false_eq_true, decide_true, decide_false, reduceIte, Bool.false_bne, Bool.true_bne, lk0, lk1, lk2, lk3, lk4, lk5, lk6, lk7, lk8, lk9, lk10, lk11, lk12, lk13, lk14, lk15, lk16, lk17, lk18, lk19, se0, se1, se2, se3, se4, se5, se6, se7, se8, se9, se10, se11, se12, se13, se14, se15, se16, se17, se18, se19]
        exact ⟨y, rfl, y, rfl, t2, by rw [c2]; exact q⟩
      · rw [if_neg (by rw [c1]; simp)]; rw [c2] at q; exact q
  | _ => exact q
end
end Kz

set_option Elab.async false
set_option linter.all false
set_option maxRecDepth 100000
set_option maxHeartbeats 4000000
set_option autoImplicit false
/-! Links, checks, sums. -/
namespace Kz
open PySem PySem.Spec PyProof.Rows L2
def lkD (l : Lk) : D := .tup [.int l.a, .int l.b, .int l.t, .int l.d]
/-- a link's data, list or tuple -/
def isK (x : D) (l : Lk) : Prop := x = .lst [.int l.a, .int l.b, .int l.t, .int l.d] ∨ x = .tup [.int l.a, .int l.b, .int l.t, .int l.d]
def ringD (r : List Lk) : D := .lst (r.map lkD)
theorem tyn {d : D} {s : String} (h : tyN d = some s) : tyN d ≠ none := by rw [h]; exact fun z => nomatch z
theorem tkm {α β : Type} {f : α → β} {r : List α} {i : Nat} {x : α} (h : r[i]? = some x) : (r.take i).map f ++ [f x] = (r.take (i + 1)).map f := by
  rw [List.take_add_one, h]; simp
theorem gmap {α β : Type} {f : α → β} {r : List α} {i : Nat} {d : β} (h : (r.map f)[i]? = some d) : ∃ x, r[i]? = some x ∧ d = f x := by
  rw [List.getElem?_map] at h
  cases e : r[i]? with
  | none => rw [e] at h; cases h
  | some x => rw [e] at h; cases h; exact ⟨x, rfl, rfl⟩
section
variable {P : Program} {w : World} {K : PySem.W.Frag} {mg : Str → Option Value} {base : Heap} {B : RB}
def F_sums_of : ZF := fun ds wd Q => ∃ r : List Lk, ds = [ringD r] ∧ Q (.dat (.tup [.int (tikS r), .int (tokS r)])) wd
theorem len_sums_of : ∀ ds wd Q, F_sums_of ds wd Q → ds.length = 1 := fun ds wd Q ⟨a, e, _⟩ => by rw [e]; rfl
theorem sc_sums_of : FnScope ["ring", "link"] ["ring"] (defScope Kp.s_sums_of) := ⟨rfl, rfl, rfl, by decide +kernel, rfl, by decide +kernel, by decide +kernel⟩
theorem ok_sums_of (T : Top K mg B) (hK : B.K = K) (A : AllDefs K mg) : ZDef P w K mg base B "sums_of" 1 F_sums_of := by
  subst hK
  obtain ⟨f, fd, FD, hm⟩ := A 17 Kp.d_sums_of rfl rfl
  have sc := sc_sums_of
  refine zdef (k := 0) FD hm sc (fun _ _ _ _ _ _ us hl => match us, hl with | [_], _ => rfl) len_sums_of fun cdv A0 outer s H E hr => ⟨_, (zs_one (zs_ret (z_tup (za_cons (z_E (z_bi (cr_sum rfl) (l_sum rfl) T.sum (by decide +kernel) (za_cons (z_E (z_comp (own := [("link", 1)]) (zi_seq (zv 0)) (blkOk_by (by rfl)) (fun _ _ _ _ _ => (zg_name 1 sc.nd)) (fun _ _ _ _ _ => zts_nil) (fun _ _ _ _ _ => (z_ix (zv 1) zint)) sc.nd)) za_nil))) (za_cons (z_E (z_bi (cr_sum rfl) (l_sum rfl) T.sum (by decide +kernel) (za_cons (z_E (z_comp (own := [("link", 1)]) (zi_seq (zv 0)) (blkOk_by (by rfl)) (fun _ _ _ _ _ => (zg_name 1 sc.nd)) (fun _ _ _ _ _ => zts_nil) (fun _ _ _ _ _ => (z_ix (zv 1) zint)) sc.nd)) za_nil))) za_nil))))), fun ds wd Q h => ?_⟩
  obtain ⟨r, rfl, q⟩ := h
  unfold ringD
  simp only [zComp, zYes, wipeE, noOwn, List.map, zSeq, zNext, zPass, zRet, zRetM, zRetO, zIfS, zDrop, zSet, zPar, zPar3, zMd, zAd, zVar, zC, zBin, zB, zI, zI0, zEq, zEqD, zNot, zAnd, zOr, zAndV, zOrV, zNotV, zIf, zNeg, zIsN, zNil, zCons, zStar, zLst, zTup, zEmp, zBi, zLen, zMax, zAbs, zIntOf, zListOf, zTupOf, zGcd, zCall, zIsi, zIsi2, zIsi4, zMany, zLinks, zApp, zExt, zPop, zPopAt, zPut, zLenN, zAug, zFrz, zIn, zNotInN, zInD, zGetD, zPutD, zAsg, zgN, zgNil, zgCons, zgTup, ziSeq, ziRng1, ziRng2, ziEnum, ziZip, zNoP, zPt, zCut, zCat, zIxN, setO, fin, svd_dat, svd_own, odd_l, odd_d, st_cc, st_cn, st_nn, if_true, if_false, ite_true, ite_false, dite_true, Bool.false_eq_true, decide_true, decide_false, reduceIte, Bool.false_bne, Bool.true_bne, lk0, lk1, lk2, lk3, lk4, lk5, lk6, lk7, lk8, lk9, lk10, lk11, lk12, lk13, lk14, lk15, lk16, lk17, lk18, lk19, se0, se1, se2, se3, se4, se5, se6, se7, se8, se9, se10, se11, se12, se13, se14, se15, se16, se17, se18, se19]
  refine fun hl => ⟨hl, rfl, fun i acc w => acc = (r.take i).map (fun l => D.int l.d) ∧ wd = w, ⟨rfl, rfl⟩, fun i d acc w hd ⟨ha, hw⟩ => ?_, fun acc w ⟨ha, hw⟩ => ?_⟩
  · obtain ⟨x, hx, rfl⟩ := gmap hd
    exact ⟨(by trivial), (by trivial), _, rfl, (by trivial), by rw [ha]; exact tkm hx, hw⟩
  rw [List.length_map, List.take_length] at ha
  subst ha hw
  refine ⟨r.map Lk.d, by rw [List.map_map]; rfl, fun hl => ⟨hl, rfl, fun i acc w => acc = (r.take i).map (fun l => D.int l.t) ∧ wd = w, ⟨rfl, rfl⟩, fun i d acc w hd ⟨ha, hw⟩ => ?_, fun acc w ⟨ha, hw⟩ => ?_⟩⟩
  · obtain ⟨x, hx, rfl⟩ := gmap hd
    exact ⟨(by trivial), (by trivial), _, rfl, (by trivial), by rw [ha]; exact tkm hx, hw⟩
  rw [List.length_map, List.take_length] at ha
  subst ha hw
  exact ⟨r.map Lk.t, by rw [List.map_map]; rfl, size2, q⟩
/-- checks of links: all ours pass -/
def F_are_numbers : ZF := fun ds wd Q => ∃ x l, ds = [x, .int 4] ∧ isK x l ∧ 0 ≤ l.a ∧ 0 ≤ l.b ∧ 0 ≤ l.t ∧ 0 ≤ l.d ∧ Q (.dat (.bl true)) wd
theorem len_are_numbers : ∀ ds wd Q, F_are_numbers ds wd Q → ds.length = 2 := fun ds wd Q ⟨a, _, e, _⟩ => by rw [e]; rfl
theorem sc_are_numbers : FnScope ["thing", "many", "number"] ["thing", "many"] (defScope Kp.s_are_numbers) := ⟨rfl, rfl, rfl, by decide +kernel, rfl, by decide +kernel, by decide +kernel⟩
theorem ok_are_numbers (T : Top K mg B) (hK : B.K = K) (A : AllDefs K mg) (G_is_number : ZDef P w K mg base B "is_number" 2 F_is_number) (G_is_list : ZDef P w K mg base B "is_list" 1 F_is_list) : ZDef P w K mg base B "are_numbers" 3 F_are_numbers := by
  subst hK
  obtain ⟨f, fd, FD, hm⟩ := A 9 Kp.d_are_numbers rfl rfl
  have sc := sc_are_numbers
  refine zdef (k := 2) FD hm sc (fun _ _ _ _ _ _ us hl => match us, hl with | [_, _], _ => rfl) len_are_numbers fun cdv A0 outer s H E hr => ⟨_, (zs_one (zs_ret (z_andV (z_E (z_call G_is_list (hr.mono (by decide)) (by rfl) (za_cons (zv 0) za_nil))) (z_andV (z_cmp op_eq l_eq (z_E (z_bi call_len (l_len rfl) T.len PySem.boot_len (za_cons (zv 0) za_nil))) (zv 1) (nomark _)) (z_one (z_E (z_bi (cr_all rfl) (l_all rfl) T.all (by decide +kernel) (za_cons (z_E (z_comp (own := [("number", 2)]) (zi_seq (zv 0)) (blkOk_by (by rfl)) (fun _ _ _ _ _ => (zg_name 2 sc.nd)) (fun _ _ _ _ _ => zts_nil) (fun _ _ _ _ _ => (z_E (z_call G_is_number (hr.mono (by decide)) (by rfl) (za_cons (zv 2) za_nil)))) sc.nd)) za_nil)))))))), fun ds wd Q h => ?_⟩
  obtain ⟨x, l, rfl, hx, h1, h2, h3, h4, q⟩ := h
  simp only [zComp, zYes, wipeE, noOwn, List.map, zSeq, zNext, zPass, zRet, zRetM, zRetO, zIfS, zDrop, zSet, zPar, zPar3, zMd, zAd, zVar, zC, zBin, zB, zI, zI0, zEq, zEqD, zNot, zAnd, zOr, zAndV, zOrV, zNotV, zIf, zNeg, zIsN, zNil, zCons, zStar, zLst, zTup, zEmp, zBi, zLen, zMax, zAbs, zIntOf, zListOf, zTupOf, zGcd, zCall, zIsi, zIsi2, zIsi4, zMany, zLinks, zApp, zExt, zPop, zPopAt, zPut, zLenN, zAug, zFrz, zIn, zNotInN, zInD, zGetD, zPutD, zAsg, zgN, zgNil, zgCons, zgTup, ziSeq, ziRng1, ziRng2, ziEnum, ziZip, zNoP, zPt, zCut, zCat, zIxN, setO, fin, svd_dat, svd_own, odd_l, odd_d, st_cc, st_cn, st_nn, if_true, if_false, ite_true, ite_false, dite_true, Bool.false_eq_true, decide_true, decide_false, reduceIte, Bool.false_bne, Bool.true_bne, lk0, lk1, lk2, lk3, lk4, lk5, lk6, lk7, lk8, lk9, lk10, lk11, lk12, lk13, lk14, lk15, lk16, lk17, lk18, lk19, se0, se1, se2, se3, se4, se5, se6, se7, se8, se9, se10, se11, se12, se13, se14, se15, se16, se17, se18, se19]
  have step : ∀ (i : Nat) (d : D) (acc : List D) (w : Wd), ([D.int l.a, .int l.b, .int l.t, .int l.d] : List D)[i]? = some d → acc = List.replicate i (D.bl true) ∧ wd = w → F_is_number [d] w fun d w' => acc ++ [d.d] = List.replicate (i + 1) (D.bl true) ∧ wd = w' := fun i d acc w hd ⟨ha, hw⟩ => by
    have : ∃ j : Int, 0 ≤ j ∧ d = .int j := by
      match i, hd with
      | 0, hd => cases hd; exact ⟨_, h1, rfl⟩
      | 1, hd => cases hd; exact ⟨_, h2, rfl⟩
      | 2, hd => cases hd; exact ⟨_, h3, rfl⟩
      | 3, hd => cases hd; exact ⟨_, h4, rfl⟩
      | i + 4, hd => simp at hd
    obtain ⟨j, hj, rfl⟩ := this
    exact ⟨_, rfl, tyn rfl, by rw [ha, List.replicate_succ']; show _ ++ [D.bl (decide (0 ≤ j))] = _; rw [decide_eq_true hj], hw⟩
  have step2 : ∀ (i : Nat) (d : D) (acc : List D) (w : Wd), ([D.int l.a, .int l.b, .int l.t, .int l.d] : List D)[i]? = some d → acc = List.replicate i (D.bl true) ∧ wd = w → F_is_number [d] w fun d w' => True ∧ acc ++ [d.d] = List.replicate (i + 1) (D.bl true) ∧ wd = w' := fun i d acc w hd hw => let ⟨a, b, c, e⟩ := step i d acc w hd hw; ⟨a, b, c, (by trivial), e⟩
  rcases hx with rfl | rfl
  · refine ⟨_, rfl, tyn rfl, ?_⟩
    simp only [zComp, zYes, wipeE, noOwn, List.map, zSeq, zNext, zPass, zRet, zRetM, zRetO, zIfS, zDrop, zSet, zPar, zPar3, zMd, zAd, zVar, zC, zBin, zB, zI, zI0, zEq, zEqD, zNot, zAnd, zOr, zAndV, zOrV, zNotV, zIf, zNeg, zIsN, zNil, zCons, zStar, zLst, zTup, zEmp, zBi, zLen, zMax, zAbs, zIntOf, zListOf, zTupOf, zGcd, zCall, zIsi, zIsi2, zIsi4, zMany, zLinks, zApp, zExt, zPop, zPopAt, zPut, zLenN, zAug, zFrz, zIn, zNotInN, zInD, zGetD, zPutD, zAsg, zgN, zgNil, zgCons, zgTup, ziSeq, ziRng1, ziRng2, ziEnum, ziZip, zNoP, zPt, zCut, zCat, zIxN, setO, fin, svd_dat, svd_own, odd_l, odd_d, st_cc, st_cn, st_nn, if_true, if_false, ite_true, ite_false, dite_true, Bool.false_eq_true, decide_true, decide_false, reduceIte, Bool.false_bne, Bool.true_bne, lk0, lk1, lk2, lk3, lk4, lk5, lk6, lk7, lk8, lk9, lk10, lk11, lk12, lk13, lk14, lk15, lk16, lk17, lk18, lk19, se0, se1, se2, se3, se4, se5, se6, se7, se8, se9, se10, se11, se12, se13, se14, se15, se16, se17, se18, se19, isL]
    refine ite1 rfl (fun hl => ⟨hl, (by trivial), fun i acc w => acc = List.replicate i (D.bl true) ∧ wd = w, ⟨rfl, rfl⟩, fun i d acc w hd hw => ⟨(by trivial), (by trivial), step2 i d acc w hd hw⟩, fun acc w ⟨ha, hw⟩ => ?_⟩)
    subst ha hw
    exact ⟨[true, true, true, true], rfl, q⟩
  · refine ⟨_, rfl, tyn rfl, ?_⟩
    simp only [zComp, zYes, wipeE, noOwn, List.map, zSeq, zNext, zPass, zRet, zRetM, zRetO, zIfS, zDrop, zSet, zPar, zPar3, zMd, zAd, zVar, zC, zBin, zB, zI, zI0, zEq, zEqD, zNot, zAnd, zOr, zAndV, zOrV, zNotV, zIf, zNeg, zIsN, zNil, zCons, zStar, zLst, zTup, zEmp, zBi, zLen, zMax, zAbs, zIntOf, zListOf, zTupOf, zGcd, zCall, zIsi, zIsi2, zIsi4, zMany, zLinks, zApp, zExt, zPop, zPopAt, zPut, zLenN, zAug, zFrz, zIn, zNotInN, zInD, zGetD, zPutD, zAsg, zgN, zgNil, zgCons, zgTup, ziSeq, ziRng1, ziRng2, ziEnum, ziZip, zNoP, zPt, zCut, zCat, zIxN, setO, fin, svd_dat, svd_own, odd_l, odd_d, st_cc, st_cn, st_nn, if_true, if_false, ite_true, ite_false, dite_true, Bool.false_eq_true, decide_true, decide_false, reduceIte, Bool.false_bne, Bool.true_bne, lk0, lk1, lk2, lk3, lk4, lk5, lk6, lk7, lk8, lk9, lk10, lk11, lk12, lk13, lk14, lk15, lk16, lk17, lk18, lk19, se0, se1, se2, se3, se4, se5, se6, se7, se8, se9, se10, se11, se12, se13, se14, se15, se16, se17, se18, se19, isL]
    refine ite1 rfl (fun hl => ⟨hl, (by trivial), fun i acc w => acc = List.replicate i (D.bl true) ∧ wd = w, ⟨rfl, rfl⟩, fun i d acc w hd hw => ⟨(by trivial), (by trivial), step2 i d acc w hd hw⟩, fun acc w ⟨ha, hw⟩ => ?_⟩)
    subst ha hw
    exact ⟨[true, true, true, true], rfl, q⟩
def F_is_arc : ZF := fun ds wd Q => ∃ x l n, ds = [x, .int n] ∧ isK x l ∧ okK n l ∧ Q (.dat (.bl true)) wd
theorem len_is_arc : ∀ ds wd Q, F_is_arc ds wd Q → ds.length = 2 := fun ds wd Q ⟨a, _, _, e, _⟩ => by rw [e]; rfl
theorem sc_is_arc : FnScope ["thing", "many"] ["thing", "many"] (defScope Kp.s_is_arc) := ⟨rfl, rfl, rfl, by decide +kernel, rfl, by decide +kernel, by decide +kernel⟩
theorem ok_is_arc (T : Top K mg B) (hK : B.K = K) (A : AllDefs K mg) (G_are_numbers : ZDef P w K mg base B "are_numbers" 3 F_are_numbers) : ZDef P w K mg base B "is_arc" 4 F_is_arc := by
  subst hK
  obtain ⟨f, fd, FD, hm⟩ := A 10 Kp.d_is_arc rfl rfl
  have sc := sc_is_arc
  refine zdef (k := 3) FD hm sc (fun _ _ _ _ _ _ us hl => match us, hl with | [_, _], _ => rfl) len_is_arc fun cdv A0 outer s H E hr => ⟨_, (zs_one (zs_ret (z_andV (z_E (z_call G_are_numbers (hr.mono (by decide)) (by rfl) (za_cons (zv 0) (za_cons zint za_nil)))) (z_andV (z_cmp op_lt l_B0 (z_ix (zv 0) zint) (zv 1) (nomark _)) (z_one (z_cmp op_lt l_B0 (z_ix (zv 0) zint) (zv 1) (nomark _))))))), fun ds wd Q h => ?_⟩
  obtain ⟨x, l, n, rfl, hx, ⟨h1, h2, h3, h4, h5, h6⟩, q⟩ := h
  refine ⟨x, l, rfl, hx, h1, h3, h5, h6, ?_⟩
  simp only [zComp, zYes, wipeE, noOwn, List.map, zSeq, zNext, zPass, zRet, zRetM, zRetO, zIfS, zDrop, zSet, zPar, zPar3, zMd, zAd, zVar, zC, zBin, zB, zI, zI0, zEq, zEqD, zNot, zAnd, zOr, zAndV, zOrV, zNotV, zIf, zNeg, zIsN, zNil, zCons, zStar, zLst, zTup, zEmp, zBi, zLen, zMax, zAbs, zIntOf, zListOf, zTupOf, zGcd, zCall, zIsi, zIsi2, zIsi4, zMany, zLinks, zApp, zExt, zPop, zPopAt, zPut, zLenN, zAug, zFrz, zIn, zNotInN, zInD, zGetD, zPutD, zAsg, zgN, zgNil, zgCons, zgTup, ziSeq, ziRng1, ziRng2, ziEnum, ziZip, zNoP, zPt, zCut, zCat, zIxN, setO, fin, svd_dat, svd_own, odd_l, odd_d, st_cc, st_cn, st_nn, if_true, if_false, ite_true, ite_false, dite_true, Bool.false_eq_true, decide_true, decide_false, reduceIte, Bool.false_bne, Bool.true_bne, lk0, lk1, lk2, lk3, lk4, lk5, lk6, lk7, lk8, lk9, lk10, lk11, lk12, lk13, lk14, lk15, lk16, lk17, lk18, lk19, se0, se1, se2, se3, se4, se5, se6, se7, se8, se9, se10, se11, se12, se13, se14, se15, se16, se17, se18, se19]
  rcases hx with rfl | rfl <;> exact ⟨_, rfl, ite1 (decide_eq_true h2) ⟨_, rfl, by show Q (.dat (.bl (decide (l.b < n)))) _; rw [decide_eq_true h4]; exact q⟩⟩
def F_asked : ZF := fun ds wd Q => ∃ r : List Lk, ds = [ringD r] ∧ tokS r ≠ 0 ∧ (tokS r).natAbs < 1073741824 ∧ Q (.dat (frD (low (tikS r) (tokS r)))) wd
theorem len_asked : ∀ ds wd Q, F_asked ds wd Q → ds.length = 1 := fun ds wd Q ⟨a, e, _⟩ => by rw [e]; rfl
theorem sc_asked : FnScope ["ring", "ticks", "tokens"] ["ring"] (defScope Kp.s_asked) := ⟨rfl, rfl, rfl, by decide +kernel, rfl, by decide +kernel, by decide +kernel⟩
theorem ok_asked (T : Top K mg B) (hK : B.K = K) (A : AllDefs K mg) (G_sums_of : ZDef P w K mg base B "sums_of" 1 F_sums_of) (G_lowest : ZDef P w K mg base B "lowest" 1 F_lowest) : ZDef P w K mg base B "asked" 2 F_asked := by
  subst hK
  obtain ⟨f, fd, FD, hm⟩ := A 21 Kp.d_asked rfl rfl
  have sc := sc_asked
  refine zdef (k := 1) FD hm sc (fun _ _ _ _ _ _ us hl => match us, hl with | [_], _ => rfl) len_asked fun cdv A0 outer s H E hr => ⟨_, (zs_cons (zs_asg (z_E (z_call G_sums_of (hr.mono (by decide)) (by rfl) (za_cons (zv 0) za_nil))) (zg_tup (n := 2) (zg_cons (zg_name 1 sc.nd) (zg_cons (zg_name 2 sc.nd) zg_nil)))) (zs_one (zs_ret (z_E (z_call G_lowest (hr.mono (by decide)) (by rfl) (za_cons (zv 1) (za_cons (zv 2) za_nil))))))), fun ds wd Q h => ?_⟩
  obtain ⟨r, rfl, h1, h2, q⟩ := h
  exact ⟨r, rfl, rfl, rfl, _, _, rfl, h1, h2, q⟩
/-- the program's own arcs, tuples all -/
def F_checked_arcs : ZF := fun ds wd Q => ∃ (n : Int) (ls : List Lk), ds = [.int n, .lst (ls.map lkD)] ∧ ls.length ≤ 100 ∧ (∀ l ∈ ls, okK n l) ∧ Q (.own (.lst (ls.map lkD))) wd
theorem len_checked_arcs : ∀ ds wd Q, F_checked_arcs ds wd Q → ds.length = 2 := fun ds wd Q ⟨a, _, e, _⟩ => by rw [e]; rfl
theorem sc_checked_arcs : FnScope ["many", "arcs", "index", "thing", "arc"] ["many", "arcs"] (defScope Kp.s_checked_arcs) := ⟨rfl, rfl, rfl, by decide +kernel, rfl, by decide +kernel, by decide +kernel⟩
theorem ok_checked_arcs (T : Top K mg B) (hK : B.K = K) (A : AllDefs K mg) (G_is_list : ZDef P w K mg base B "is_list" 1 F_is_list) (G_is_arc : ZDef P w K mg base B "is_arc" 4 F_is_arc) : ZDef P w K mg base B "checked_arcs" 5 F_checked_arcs := by
  subst hK
  obtain ⟨f, fd, FD, hm⟩ := A 11 Kp.d_checked_arcs rfl rfl
  have sc := sc_checked_arcs
  refine zdef (k := 4) FD hm sc (fun _ _ _ _ _ _ us hl => match us, hl with | [_, _], _ => rfl) len_checked_arcs fun cdv A0 outer s H E hr => ⟨_, (zs_cons (zs_if (z_not (z_val (z_E (z_call G_is_list (hr.mono (by decide)) (by rfl) (za_cons (zv 1) za_nil))))) (zs_one zs_never) zs_nil) (zs_cons (zs_for (zi_enum (zv 1) T.enumerate) (zg_tup (n := 2) (zg_cons (zg_name 2 sc.nd) (zg_cons (zg_name 3 sc.nd) zg_nil))) (zs_one (zs_if (z_not (z_val (z_E (z_call G_is_arc (hr.mono (by decide)) (by rfl) (za_cons (zv 3) (za_cons (zv 0) za_nil)))))) (zs_one zs_never) zs_nil))) (zs_one (zs_retM (z_comp (own := [("arc", 4)]) (zi_seq (zv 1)) (blkOk_by (by rfl)) (fun _ _ _ _ _ => (zg_name 4 sc.nd)) (fun _ _ _ _ _ => zts_nil) (fun _ _ _ _ _ => (z_E (z_ty call_tuple_of (l_tup rfl) T.tuple (by decide +kernel) (za_cons (zv 4) za_nil)))) sc.nd))))), fun ds wd Q h => ?_⟩
  obtain ⟨n, ls, rfl, hl, ok, q⟩ := h
  refine ⟨_, rfl, tyn rfl, ?_⟩
  simp only [zComp, zYes, wipeE, noOwn, List.map, zSeq, zNext, zPass, zRet, zRetM, zRetO, zIfS, zDrop, zSet, zPar, zPar3, zMd, zAd, zVar, zC, zBin, zB, zI, zI0, zEq, zEqD, zNot, zAnd, zOr, zAndV, zOrV, zNotV, zIf, zNeg, zIsN, zNil, zCons, zStar, zLst, zTup, zEmp, zBi, zLen, zMax, zAbs, zIntOf, zListOf, zTupOf, zGcd, zCall, zIsi, zIsi2, zIsi4, zMany, zLinks, zApp, zExt, zPop, zPopAt, zPut, zLenN, zAug, zFrz, zIn, zNotInN, zInD, zGetD, zPutD, zAsg, zgN, zgNil, zgCons, zgTup, ziSeq, ziRng1, ziRng2, ziEnum, ziZip, zNoP, zPt, zCut, zCat, zIxN, setO, fin, svd_dat, svd_own, odd_l, odd_d, st_cc, st_cn, st_nn, if_true, if_false, ite_true, ite_false, dite_true, Bool.false_eq_true, decide_true, decide_false, reduceIte, Bool.false_bne, Bool.true_bne, lk0, lk1, lk2, lk3, lk4, lk5, lk6, lk7, lk8, lk9, lk10, lk11, lk12, lk13, lk14, lk15, lk16, lk17, lk18, lk19, se0, se1, se2, se3, se4, se5, se6, se7, se8, se9, se10, se11, se12, se13, se14, se15, se16, se17, se18, se19, isL]
  refine ⟨fun i z => ∃ x y, z = ⟨[some (.dat (.int n)), some (.dat (.lst (ls.map lkD))), x, y, none], wd⟩, ⟨_, _, rfl⟩, fun i d z hd ⟨x, y, hz⟩ => ?_, fun z ⟨x, y, hz⟩ => ?_⟩
  · subst hz
    rw [List.getElem?_mapIdx] at hd
    cases e : (ls.map lkD)[i]? with
    | none => rw [e] at hd; cases hd
    | some u =>
      rw [e] at hd
      cases hd
      obtain ⟨l, hl, rfl⟩ := gmap e
      simp only [zComp, zYes, wipeE, noOwn, List.map, zSeq, zNext, zPass, zRet, zRetM, zRetO, zIfS, zDrop, zSet, zPar, zPar3, zMd, zAd, zVar, zC, zBin, zB, zI, zI0, zEq, zEqD, zNot, zAnd, zOr, zAndV, zOrV, zNotV, zIf, zNeg, zIsN, zNil, zCons, zStar, zLst, zTup, zEmp, zBi, zLen, zMax, zAbs, zIntOf, zListOf, zTupOf, zGcd, zCall, zIsi, zIsi2, zIsi4, zMany, zLinks, zApp, zExt, zPop, zPopAt, zPut, zLenN, zAug, zFrz, zIn, zNotInN, zInD, zGetD, zPutD, zAsg, zgN, zgNil, zgCons, zgTup, ziSeq, ziRng1, ziRng2, ziEnum, ziZip, zNoP, zPt, zCut, zCat, zIxN, setO, fin, svd_dat, svd_own, odd_l, odd_d, st_cc, st_cn, st_nn, if_true, if_false, ite_true, ite_false, dite_true, Bool.false_eq_true, decide_true, decide_false, reduceIte, Bool.false_bne, Bool.true_bne, lk0, lk1, lk2, lk3, lk4, lk5, lk6, lk7, lk8, lk9, lk10, lk11, lk12, lk13, lk14, lk15, lk16, lk17, lk18, lk19, se0, se1, se2, se3, se4, se5, se6, se7, se8, se9, se10, se11, se12, se13, se14, se15, se16, se17, se18, se19, List.length_cons, List.length_nil]
      exact ⟨(by trivial), (by trivial), _, l, _, rfl, .inr rfl, ok l (List.mem_of_getElem? hl), _, _, rfl⟩
  · subst hz
    simp only [zComp, zYes, wipeE, noOwn, List.map, zSeq, zNext, zPass, zRet, zRetM, zRetO, zIfS, zDrop, zSet, zPar, zPar3, zMd, zAd, zVar, zC, zBin, zB, zI, zI0, zEq, zEqD, zNot, zAnd, zOr, zAndV, zOrV, zNotV, zIf, zNeg, zIsN, zNil, zCons, zStar, zLst, zTup, zEmp, zBi, zLen, zMax, zAbs, zIntOf, zListOf, zTupOf, zGcd, zCall, zIsi, zIsi2, zIsi4, zMany, zLinks, zApp, zExt, zPop, zPopAt, zPut, zLenN, zAug, zFrz, zIn, zNotInN, zInD, zGetD, zPutD, zAsg, zgN, zgNil, zgCons, zgTup, ziSeq, ziRng1, ziRng2, ziEnum, ziZip, zNoP, zPt, zCut, zCat, zIxN, setO, fin, svd_dat, svd_own, odd_l, odd_d, st_cc, st_cn, st_nn, if_true, if_false, ite_true, ite_false, dite_true, Bool.false_eq_true, decide_true, decide_false, reduceIte, Bool.false_bne, Bool.true_bne, lk0, lk1, lk2, lk3, lk4, lk5, lk6, lk7, lk8, lk9, lk10, lk11, lk12, lk13, lk14, lk15, lk16, lk17, lk18, lk19, se0, se1, se2, se3, se4, se5, se6, se7, se8, se9, se10, se11, se12, se13, se14, se15, se16, se17, se18, se19]
    refine fun hl => ⟨hl, (by trivial), fun i acc w => acc = (ls.take i).map lkD ∧ wd = w, ⟨rfl, rfl⟩, fun i d acc w hd ⟨ha, hw⟩ => ?_, fun acc w ⟨ha, hw⟩ => ?_⟩
    · obtain ⟨l, hx, rfl⟩ := gmap hd
      exact ⟨(by trivial), (by trivial), (by trivial), by rw [ha]; exact tkm hx, hw⟩
    · rw [List.length_map, List.take_length] at ha
      subst ha hw
      exact q
end
end Kz

set_option Elab.async false
set_option linter.all false
set_option maxRecDepth 100000
set_option maxHeartbeats 4000000
set_option autoImplicit false
/-! The program's rings. -/
namespace Kz
open PySem PySem.Spec PyProof.Rows L2
def linksD (ls : List Lk) : D := .lst (ls.map lkD)
theorem atI_last {α : Type} (xs : List α) (x : α) : atI (xs ++ [x]) (-1) = some x := by
  unfold atI ixN
  rw [if_neg (by omega), List.length_append, List.length_singleton, if_pos (by omega)]
  show (xs ++ [x])[(((xs.length + 1 : Nat) : Int) + -1).toNat]? = some x
  rw [show (((xs.length + 1 : Nat) : Int) + -1).toNat = xs.length from by omega]
  simp
theorem snoc_of {α : Type} {w : List α} (h : w ≠ []) : ∃ v l, w = v ++ [l] := ⟨w.dropLast, w.getLast h, (List.dropLast_concat_getLast h).symm⟩
theorem tkf_yes {α β : Type} {f : α → β} {p : α → Bool} {r : List α} {i : Nat} {x : α} (h : r[i]? = some x) (hp : p x = true) : ((r.take i).filter p).map f ++ [f x] = ((r.take (i + 1)).filter p).map f := by
  rw [List.take_add_one, h]; simp [hp]
theorem tkf_no {α β : Type} {f : α → β} {p : α → Bool} {r : List α} {i : Nat} {x : α} (h : r[i]? = some x) (hp : p x = false) : ((r.take i).filter p).map f = ((r.take (i + 1)).filter p).map f := by
  rw [List.take_add_one, h]; simp [hp]
theorem endO_at {v : List Lk} {l : Lk} : l.b = endO (v ++ [l]) := (endO_snoc l v).symm
theorem bnf (b : Bool) : (false != b) = b := by cases b <;> rfl
theorem bnt (b : Bool) : (true != b) = !b := by cases b <;> rfl
theorem ieq {i j : Int} {c : Prop} : (false != (i == j)) = true ↔ i = j := by rw [bnf, beq_iff_eq]
section
variable {P : Program} {w : World} {K : PySem.W.Frag} {mg : Str → Option Value} {base : Heap} {B : RB}
def F_longer_ways : ZF := fun ds wd Q => ∃ (ls w : List Lk) (f : Int), ds = [linksD ls, ringD w, .int f] ∧ w ≠ [] ∧ w.length ≤ 1000 ∧ Q (.own (.lst ((exts ls w f).map ringD))) wd
theorem len_longer_ways : ∀ ds wd Q, F_longer_ways ds wd Q → ds.length = 3 := fun ds wd Q ⟨a, _, _, e, _⟩ => by rw [e]; rfl
theorem sc_longer_ways : FnScope ["links", "way", "first", "met", "link", "more"] ["links", "way", "first"] (defScope Kp.s_longer_ways) := ⟨rfl, rfl, rfl, by decide +kernel, rfl, by decide +kernel, by decide +kernel⟩
theorem ok_longer_ways (T : Top K mg B) (hK : B.K = K) (A : AllDefs K mg) : ZDef P w K mg base B "longer_ways" 1 F_longer_ways := by
  subst hK
  obtain ⟨f, fd, FD, hm⟩ := A 12 Kp.d_longer_ways rfl rfl
  have sc := sc_longer_ways
  refine zdef (k := 0) FD hm sc (fun _ _ _ _ _ _ us hl => match us, hl with | [_, _, _], _ => rfl) len_longer_ways fun cdv A0 outer s H E hr => ⟨_, (zs_cons (zs_set (i := 3) (z_M (z_E (z_cat (z_E (z_comp (own := [("link", 4)]) (zi_seq (zv 1)) (blkOk_by (by rfl)) (fun _ _ _ _ _ => (zg_name 4 sc.nd)) (fun _ _ _ _ _ => zts_nil) (fun _ _ _ _ _ => (z_ix (zv 4) zint)) sc.nd)) (z_E (z_lst (za_cons (z_ix (z_ix (zv 1) (z_neg zint)) zint) za_nil)))))) sc.nd) (zs_cons (zs_setLc (i := 5) (own := [("link", 4)]) (zi_seq (zv 0)) (blkOk_by (by rfl)) (fun _ _ _ _ _ => (zg_name 4 sc.nd)) (fun _ _ _ _ _ => (zts_one (z_cmpT op_eq l_eq (z_ix (zv 4) zint) (z_ix (z_ix (zv 1) (z_neg zint)) zint) (nomark _)))) (fun _ _ _ _ _ => (zv 4)) sc.nd) (zs_one (zs_retM (z_comp (own := [("link", 4)]) (zi_seq (zv 5)) (blkOk_by (by rfl)) (fun _ _ _ _ _ => (zg_name 4 sc.nd)) (fun _ _ _ _ _ => (zts_one (PW.pt (z_or (z_cmpT op_eq l_eq (z_ix (zv 4) zint) (zv 2) (nomark _)) (z_or1 (PW.pt (z_and (z_cmpT op_gt l_B0 (z_ix (zv 4) zint) (zv 2) (nomark _)) (z_and1 (z_notIn (z_ix (zv 4) zint) (zv 3)))))))))) (fun _ _ _ _ _ => (z_E (z_lst (za_star (zv 1) (za_cons (zv 4) za_nil))))) sc.nd))))), fun ds wd Q h => ?_⟩
  obtain ⟨ls, w, f, rfl, hw, hl, q⟩ := h
  refine fun hl1 => ⟨hl1, rfl, fun i acc w' => acc = (w.take i).map (fun l => D.int l.a) ∧ wd = w', ⟨rfl, rfl⟩, fun i d acc w' hd ⟨ha, hw⟩ => ?_, fun acc w' ⟨ha, hw⟩ => ?_⟩
  · obtain ⟨x, hx, rfl⟩ := gmap hd
    exact ⟨rfl, rfl, _, rfl, rfl, by rw [ha]; exact tkm hx, hw⟩
  rw [List.length_map, List.take_length] at ha
  subst ha hw
  obtain ⟨v, l, rfl⟩ := snoc_of hw
  have hlast : atI ((v ++ [l]).map lkD) (-1) = some (lkD l) := by rw [List.map_append]; exact atI_last _ _
  refine ⟨lkD l, hlast, .int l.b, rfl, Nat.le_trans (by decide : 1 ≤ 2) size2, by rw [List.length_map, sizeLine_eq]; show (v ++ [l]).length + 1 ≤ _; omega, ?_⟩
  refine fun hl2 => ⟨hl2, rfl, fun i acc w' => acc = ((ls.take i).filter fun x => decide (x.a = endO (v ++ [l]))).map lkD ∧ wd = w', ⟨rfl, rfl⟩, fun i d acc w' hd ⟨ha, hw⟩ => ?_, fun acc w' ⟨ha, hw⟩ => ?_⟩
  · obtain ⟨x, hx, rfl⟩ := gmap hd
    refine ⟨rfl, .int x.a, rfl, lkD l, hlast, .int l.b, rfl, rfl, ite2 (fun c => ?_) fun c => ?_⟩
    · have g : decide (x.a = endO (v ++ [l])) = true := by rw [← endO_at]; simpa using c
      exact ⟨rfl, by rw [ha]; exact tkf_yes (p := fun x => decide (x.a = endO (v ++ [l]))) hx g, hw⟩
    · have g : decide (x.a = endO (v ++ [l])) = false := by rw [← endO_at]; simpa using c
      exact ⟨by rw [ha]; exact tkf_no (p := fun x => decide (x.a = endO (v ++ [l]))) hx g, hw⟩
  rw [List.length_map, List.take_length] at ha
  subst ha hw
  refine fun hl3 => ⟨hl3, rfl, fun i acc w' => acc = (((ls.filter fun x => decide (x.a = endO (v ++ [l]))).take i).filter (goes (v ++ [l]) f)).map (fun x => ringD (v ++ [l] ++ [x])) ∧ wd = w', ⟨rfl, rfl⟩, fun i d acc w' hd ⟨ha, hw⟩ => ?_, fun acc w' ⟨ha, hw⟩ => ?_⟩
  · obtain ⟨x, hx, rfl⟩ := gmap hd
    have hxa : x.a = endO (v ++ [l]) := by
      have := (List.mem_filter.mp (List.mem_of_getElem? hx)).2
      simpa using this
    have yes : goes (v ++ [l]) f x = true → ((ringD (v ++ [l] ++ [x]) = D.lst ((v ++ [l]).map lkD ++ [lkD x])) ∧ ((v ++ [l]).map lkD ++ [lkD x]).length ≤ sizeLine) ∧ acc ++ [D.lst ((v ++ [l]).map lkD ++ [lkD x])] = (((ls.filter fun x => decide (x.a = endO (v ++ [l]))).take (i + 1)).filter (goes (v ++ [l]) f)).map (fun x => ringD (v ++ [l] ++ [x])) := fun g => by
      have e : ringD (v ++ [l] ++ [x]) = D.lst ((v ++ [l]).map lkD ++ [lkD x]) := by unfold ringD; rw [List.map_append]; rfl
      refine ⟨⟨e, ?_⟩, ?_⟩
      · rw [List.length_append, List.length_map, List.length_singleton, sizeLine_eq]; omega
      · rw [ha, ← e]; exact tkf_yes (f := fun x => ringD (v ++ [l] ++ [x])) hx g
    have no : goes (v ++ [l]) f x = false → acc = (((ls.filter fun x => decide (x.a = endO (v ++ [l]))).take (i + 1)).filter (goes (v ++ [l]) f)).map (fun x => ringD (v ++ [l] ++ [x])) := fun g => by
      rw [ha]; exact tkf_no hx g
    have gx : goes (v ++ [l]) f x = (decide (x.b = f) || (decide (f < x.b) && !((hs (v ++ [l]) ++ [endO (v ++ [l])]).contains x.b))) := by
      unfold goes; rw [decide_eq_true hxa, Bool.true_and]
    refine ⟨rfl, .int x.b, rfl, ite2 (fun c => ?_) fun c => ?_⟩
    · have g : goes (v ++ [l]) f x = true := by rw [gx, decide_eq_true (by simpa using c), Bool.true_or]
      obtain ⟨⟨e, z⟩, y⟩ := yes g
      exact ⟨rfl, z, rfl, y, hw⟩
    · have nf : decide (x.b = f) = false := decide_eq_false (by simpa using c)
      refine ⟨.int x.b, rfl, ite2 (fun c2 => ?_) fun c2 => ?_⟩
      · refine ⟨.int x.b, rfl, hs (v ++ [l]) ++ [endO (v ++ [l])], ?_, ?_⟩
        · rw [← endO_at]
          unfold hs
          rw [List.map_append (f := D.int), List.map_map]
          rfl
        · refine ⟨rfl, ite2 (fun c3 => ?_) fun c3 => ?_⟩
          · have g : goes (v ++ [l]) f x = true := by
              rw [gx, nf, Bool.false_or, c2, Bool.true_and]
              simpa using c3
            obtain ⟨⟨e, z⟩, y⟩ := yes g
            exact ⟨z, rfl, y, hw⟩
          · refine ⟨no ?_, hw⟩
            rw [gx, nf, Bool.false_or, c2, Bool.true_and]
            simpa using c3
      · have g : goes (v ++ [l]) f x = false := by
          rw [gx, nf, Bool.false_or, show decide (f < x.b) = false from by simpa using c2, Bool.false_and]
        exact ⟨rfl, no g, hw⟩
  · subst hw
    have e : acc = (exts ls (v ++ [l]) f).map ringD := by
      rw [ha, List.length_map, List.take_length]
      unfold exts
      rw [List.filter_filter, List.map_map]
      have : (fun x => goes (v ++ [l]) f x && decide (x.a = endO (v ++ [l]))) = goes (v ++ [l]) f := by
        funext x
        unfold goes
        by_cases c : x.a = endO (v ++ [l]) <;> simp [c]
      rw [this]
      rfl
    rw [e]
    exact q
def lenD : D → Nat
  | .lst xs => xs.length
  | _ => 0
def PhiD (ds : List D) : Nat := (ds.map fun d => 16 ^ (5 - lenD d)).sum
theorem PhiD_eq (W : List (List Lk)) : PhiD (W.map ringD) = Phi W := by
  unfold PhiD Phi
  rw [List.map_map]
  congr 1
  refine List.map_congr_left fun w _ => ?_
  show 16 ^ (5 - (w.map lkD).length) = wt w
  rw [List.length_map]; rfl
theorem Phi_len : ∀ W : List (List Lk), W.length ≤ Phi W
  | [] => Nat.zero_le _
  | w :: W => by
    have := Phi_len W
    have h := wt_pos w
    show W.length + 1 ≤ wt w + Phi W
    omega
abbrev capR : Nat := 983040
def F_rings_of : ZF := fun ds wd Q => ∃ (ls : List Lk) (n : Nat), ds = [linksD ls] ∧ n ≤ 5 ∧ ls.length ≤ 15 ∧ (∀ l ∈ ls, inN n l) ∧ ∀ rs : List (List Lk), (∀ r, r ∈ rs ↔ Ring ls r) → rs.length ≤ 4915200 → Q (.own (.lst (rs.map ringD))) wd
theorem len_rings_of : ∀ ds wd Q, F_rings_of ds wd Q → ds.length = 1 := fun ds wd Q ⟨a, _, e, _⟩ => by rw [e]; rfl
theorem sc_rings_of : FnScope ["links", "found", "first", "link", "waiting", "way"] ["links"] (defScope Kp.s_rings_of) := ⟨rfl, rfl, rfl, by decide +kernel, rfl, by decide +kernel, by decide +kernel⟩
theorem ok_rings_of (T : Top K mg B) (hK : B.K = K) (A : AllDefs K mg) (G_longer_ways : ZDef P w K mg base B "longer_ways" 1 F_longer_ways) : ZDef P w K mg base B "rings_of" 2 F_rings_of := by
  subst hK
  obtain ⟨f, fd, FD, hm⟩ := A 13 Kp.d_rings_of rfl rfl
  have sc := sc_rings_of
  refine zdef (k := 1) FD hm sc (fun _ _ _ _ _ _ us hl => match us, hl with | [_], _ => rfl) len_rings_of fun cdv A0 outer s H E hr => ⟨_, (zs_cons (zs_set (i := 1) (z_lst za_nil) sc.nd) (zs_cons (zs_for (zi_seq (z_E (z_sortSet (own := [("link", 3)]) T.sorted (by decide +kernel) (zi_seq (zv 0)) (blkOk_by (by rfl)) (fun _ _ _ _ _ => (zg_name 3 sc.nd)) (fun _ _ _ _ _ => (z_ix (zv 3) zint)) sc.nd))) (zg_name 2 sc.nd) (zs_cons (zs_setLc (i := 4) (own := [("link", 3)]) (zi_seq (zv 0)) (blkOk_by (by rfl)) (fun _ _ _ _ _ => (zg_name 3 sc.nd)) (fun _ _ _ _ _ => (zts_one (PW.pt (z_and (z_cmpT op_eq l_eq (z_ix (zv 3) zint) (zv 2) (nomark _)) (z_and1 (z_cmpT op_ge l_B0 (z_ix (zv 3) zint) (zv 2) (nomark _))))))) (fun _ _ _ _ _ => (z_E (z_lst (za_cons (zv 3) za_nil)))) sc.nd) (zs_one (zs_while (z_cmpT op_gt l_B0 (z_lenN 4 T.len) zint (nomark _)) (zs_cons (zs_set (i := 5) (z_M (z_pop 4)) sc.nd) (zs_one (zs_if (z_cmpT op_eq l_eq (z_ix (z_ix (zv 5) (z_neg zint)) zint) (zv 2) (nomark _)) (zs_one (zs_expr (z_app 1 (zv 5)))) (zs_one (zs_expr (z_ext 4 (z_E (z_call G_longer_ways (hr.mono (by decide)) (by rfl) (za_cons (zv 0) (za_cons (zv 5) (za_cons (zv 2) za_nil))))))))))))))) (zs_one (zs_retO 1)))), fun ds wd Q h => ?_⟩
  obtain ⟨ls, n, rfl, hn, hl, ok, q⟩ := h
  refine ⟨Nat.zero_le _, ?_⟩
  refine fun hl1 => ⟨by rw [List.length_map]; omega, rfl, fun i => ((ls[i]?).map Lk.a).getD 0, fun i d hd => ?_, fun ns hs1 hs2 hs3 => ?_⟩
  · obtain ⟨x, hx, rfl⟩ := gmap hd
    exact ⟨rfl, .int x.a, rfl, rfl, rfl, by show D.int x.a = D.int (((ls[i]?).map Lk.a).getD 0); rw [hx]; rfl⟩
  have hns : ∀ f, f ∈ ns ↔ ∃ l ∈ ls, l.a = f := fun f => by
    rw [hs2 f]
    constructor
    · rintro ⟨i, hi, e⟩
      rw [List.length_map] at hi
      have e : ((ls[i]?).map Lk.a).getD 0 = f := e
      rw [List.getElem?_eq_getElem hi] at e
      exact ⟨ls[i], List.getElem_mem hi, e⟩
    · rintro ⟨l, hl, e⟩
      obtain ⟨i, hi⟩ := List.getElem?_of_mem hl
      refine ⟨i, by rw [List.length_map]; exact (List.getElem?_eq_some_iff.mp hi).1, ?_⟩
      show ((ls[i]?).map Lk.a).getD 0 = f
      rw [hi]; exact e
  have hnl : ns.length ≤ 5 := by
    have : ns.length ≤ n := len_range (hs1.imp fun h => Int.ne_of_lt h) fun x hx => by
      obtain ⟨l, hl, rfl⟩ := (hns x).mp hx
      have := ok l hl
      exact ⟨this.1, this.2.1⟩
    omega
  refine fun hl2 => ⟨fun i z => ∃ F x2 x4 x5, z = ⟨[some (.dat (linksD ls)), some (.own (.lst (F.map ringD))), x2, none, x4, x5], wd⟩ ∧ (∀ r ∈ F, Ring ls r) ∧ (∀ f ∈ ns.take i, ∀ r, Ring1 ls f r → r ∈ F) ∧ F.length ≤ i * capR,
    ⟨[], _, _, _, rfl, (fun r h => nomatch h), (fun f h => by simp at h), Nat.zero_le _⟩, fun i d z hd ⟨F, x2, x4, x5, hz, h1, h2, h3⟩ => ?_, fun z ⟨F, x2, x4, x5, hz, h1, h2, h3⟩ => ?_⟩
  · subst hz
    obtain ⟨f, hf, rfl⟩ := gmap hd
    have hi : i < ns.length := (List.getElem?_eq_some_iff.mp hf).1
    refine fun hl3 => ⟨hl3, rfl, fun j acc w' => acc = ((ls.take j).filter fun l => decide (l.a = f) && decide (f ≤ l.b)).map (fun l => ringD [l]) ∧ wd = w', ⟨rfl, rfl⟩, fun j d acc w' hd ⟨ha, hw⟩ => ?_, fun acc w' ⟨ha, hw⟩ => ?_⟩
    · obtain ⟨x, hx, rfl⟩ := gmap hd
      refine ⟨rfl, .int x.a, rfl, ite2 (fun c => ?_) fun c => ?_⟩
      · refine ⟨.int x.b, rfl, rfl, ite2 (fun c2 => ?_) fun c2 => ?_⟩
        · refine ⟨Nat.le_trans (by decide : 1 ≤ 2) size2, rfl, ?_, hw⟩
          rw [ha]
          refine tkf_yes (p := fun l => decide (l.a = f) && decide (f ≤ l.b)) (f := fun l => ringD [l]) hx ?_
          rw [decide_eq_true (show x.a = f by simpa using c), c2]; rfl
        · refine ⟨?_, hw⟩
          rw [ha]
          refine tkf_no (p := fun l => decide (l.a = f) && decide (f ≤ l.b)) (f := fun l => ringD [l]) hx ?_
          rw [show decide (f ≤ x.b) = false by simpa using c2, Bool.and_false]
      · refine ⟨rfl, ?_, hw⟩
        rw [ha]
        refine tkf_no (p := fun l => decide (l.a = f) && decide (f ≤ l.b)) (f := fun l => ringD [l]) hx ?_
        rw [show decide (x.a = f) = false by simpa using c, Bool.false_and]
    rw [List.length_map, List.take_length] at ha
    subst ha hw
    have e0 : (ls.filter fun l => decide (l.a = f) && decide (f ≤ l.b)).map (fun l => ringD [l]) = ((ls.filter fun l => decide (l.a = f) && decide (f ≤ l.b)).map fun l => [l]).map ringD := by rw [List.map_map]; rfl
    refine ⟨fun z => ∃ G W x5, z = ⟨[some (.dat (linksD ls)), some (.own (.lst (G.map ringD))), some (.dat (.int f)), none, some (.own (.lst (W.map ringD))), x5], wd⟩ ∧ RInv ls f G W ∧ (∀ r ∈ G, Ring ls r) ∧ (∀ f ∈ ns.take i, ∀ r, Ring1 ls f r → r ∈ G) ∧ G.length + Phi W ≤ (i + 1) * capR,
      fun z => match look z.e 4 with | some (.own (.lst ds)) => PhiD ds | _ => 0, ⟨F, _, x5, by rw [e0]; rfl, RInv.start F, h1, h2, ?_⟩, fun z ⟨G, W, x5, hz, R, g1, g2, g3⟩ => ?_⟩
    · have hp : Phi ((ls.filter fun l => decide (l.a = f) && decide (f ≤ l.b)).map fun l => [l]) ≤ ((ls.filter fun l => decide (l.a = f) && decide (f ≤ l.b)).map fun l => [l]).length * 65536 := Phi_le fun w hw => by
        obtain ⟨l, _, rfl⟩ := List.mem_map.mp hw
        show 16 ^ 4 ≤ 65536
        decide
      have hq : ((ls.filter fun l => decide (l.a = f) && decide (f ≤ l.b)).map fun l => [l]).length ≤ 15 := by
        rw [List.length_map]
        exact Nat.le_trans (List.length_filter_le _ _) hl
      unfold capR at h3 ⊢
      omega
    · subst hz
      refine ite2 (fun c => ?_) fun c => ?_
      · have hW : W ≠ [] := fun e => by subst e; simp at c
        obtain ⟨V, w, rfl⟩ := snoc_of hW
        have ow := R.ok w (by simp)
        obtain ⟨v, l, rfl⟩ := snoc_of ow.1.ne
        have hp : Phi (V ++ [v ++ [l]]) = Phi V + wt (v ++ [l]) := by rw [Phi_app]; rfl
        have cap : (i + 1) * capR ≤ 4915200 := by unfold capR; omega
        have hwl : (v ++ [l]).length ≤ 5 := Nat.le_trans (ow.1.len ok) hn
        have hpop : ((V ++ [v ++ [l]]).map ringD)[((V ++ [v ++ [l]]).map ringD).length - 1]? = some (ringD (v ++ [l])) := by
          rw [List.map_append]; simp
        have hdl : ((V ++ [v ++ [l]]).map ringD).dropLast = V.map ringD := by rw [List.map_append]; simp
        refine ⟨ringD (v ++ [l]), hpop, ?_⟩
        rw [hdl]
        have hlast : atI ((v ++ [l]).map lkD) (-1) = some (lkD l) := by rw [List.map_append]; exact atI_last _ _
        refine ⟨lkD l, hlast, .int l.b, rfl, ite2 (fun c2 => ?_) fun c2 => ?_⟩
        · have e : endO (v ++ [l]) = f := by rw [endO_snoc]; simpa using c2
          obtain ⟨R2, hr⟩ := R.found e
          have hz := wt_pos (v ++ [l])
          have eG : (G ++ [v ++ [l]]).map ringD = G.map ringD ++ [ringD (v ++ [l])] := by rw [List.map_append]; rfl
          refine ⟨by rw [List.length_map, sizeLine_eq]; omega, ⟨G ++ [v ++ [l]], V, some (.dat (ringD (v ++ [l]))), by rw [eG]; rfl, R2, fun r hr2 => ?_, fun f' hf' r hr2 => List.mem_append_left _ (g2 f' hf' r hr2), ?_⟩, ?_⟩
          · rcases List.mem_append.mp hr2 with h | h
            · exact g1 r h
            · rw [List.mem_singleton.mp h]; exact ⟨f, hr⟩
          · rw [List.length_append, List.length_singleton]; omega
          · show PhiD (V.map ringD) < PhiD ((V ++ [v ++ [l]]).map ringD)
            rw [PhiD_eq, PhiD_eq]; omega
        · have e : endO (v ++ [l]) ≠ f := by rw [endO_snoc]; simpa using c2
          have R2 := R.more e
          have eV : (V ++ exts ls (v ++ [l]) f).map ringD = V.map ringD ++ (exts ls (v ++ [l]) f).map ringD := List.map_append
          have hx := exts_phi ow e ok hn hl
          refine ⟨ls, v ++ [l], f, rfl, by simp, by omega, ?_⟩
          have hq : V.length + (exts ls (v ++ [l]) f).length ≤ 4915200 := by
            have := Phi_len (V ++ exts ls (v ++ [l]) f)
            rw [Phi_app, List.length_append] at this
            omega
          refine ⟨by rw [List.length_map, List.length_map, sizeLine_eq]; omega, ⟨G, V ++ exts ls (v ++ [l]) f, some (.dat (ringD (v ++ [l]))), by rw [eV]; rfl, R2, g1, g2, ?_⟩, ?_⟩
          · rw [Phi_app]; omega
          · show PhiD (V.map ringD ++ (exts ls (v ++ [l]) f).map ringD) < PhiD ((V ++ [v ++ [l]]).map ringD)
            rw [← List.map_append, PhiD_eq, PhiD_eq, Phi_app]; omega
      · have hW : W = [] := by
          cases W with
          | nil => rfl
          | cons w W => exact (c (by simp)).elim
        subst hW
        refine ⟨G, _, _, _, rfl, g1, fun f' hf' r hr => ?_, by have : Phi [] = 0 := rfl; omega⟩
        rw [List.take_add_one, hf] at hf'
        rcases List.mem_append.mp hf' with h | h
        · exact g2 f' h r hr
        · simp at h
          rw [h] at hr
          exact R.done r hr
  · subst hz
    refine q F (fun r => ⟨h1 r, fun ⟨f, W, e⟩ => h2 f ?_ r ⟨W, e⟩⟩) ?_
    · rw [List.length_map, List.take_length]
      obtain ⟨l, s, e2, ha⟩ := W.head
      exact (hns f).mpr ⟨l, W.sub l (by rw [e2]; simp), ha⟩
    · rw [List.length_map] at h3
      unfold capR at h3
      omega
end
end Kz

set_option Elab.async false
set_option linter.all false
set_option maxRecDepth 100000
set_option maxHeartbeats 4000000
set_option autoImplicit false
/-! What is led to. -/
namespace Kz
open PySem PySem.Spec PyProof.Rows L2
section
variable {P : Program} {w : World} {K : PySem.W.Frag} {mg : Str → Option Value} {base : Heap} {B : RB}
def allT (ks : List Int) : List D := ks.map fun _ => D.bl true
theorem dput_all (ks : List Int) (k : Int) : dputV ks (allT ks) k (.bl true) = allT (dputK ks k) := by
  unfold dputV dputK
  split
  · have : ∀ m : List Int, List.zipWith (fun j d => if j = k then D.bl true else d) m (allT m) = allT m := fun m => by
      induction m with
      | nil => rfl
      | cons x m ih =>
        show (if x = k then D.bl true else D.bl true) :: List.zipWith _ m (allT m) = D.bl true :: allT m
        rw [ih, ite_self]
    exact this ks
  · unfold allT
    rw [List.map_append]; rfl
theorem dput_new {ks : List Int} {k : Int} (h : k ∉ ks) : dputK ks k = ks ++ [k] := by unfold dputK; rw [if_neg h]
theorem tk1 {α : Type} {r : List α} {i : Nat} {x : α} (h : r[i]? = some x) : r.take (i + 1) = r.take i ++ [x] := by rw [List.take_add_one, h]; rfl
def F_led_to : ZF := fun ds wd Q => ∃ (ls : List Lk) (es : List Int), ds = [linksD ls, .lst (es.map D.int)] ∧ es.Nodup ∧ es.length ≤ 100 ∧ ls.length ≤ 100 ∧ ∀ ks : List Int, ks.Nodup → (∀ e, e ∈ ks ↔ Reach ls es e) → Q (.own (.dct ks (allT ks))) wd
theorem len_led_to : ∀ ds wd Q, F_led_to ds wd Q → ds.length = 2 := fun ds wd Q ⟨a, _, e, _⟩ => by rw [e]; rfl
theorem sc_led_to : FnScope ["links", "events", "found", "waiting", "event", "here", "link"] ["links", "events"] (defScope Kp.s_led_to) := ⟨rfl, rfl, rfl, by decide +kernel, rfl, by decide +kernel, by decide +kernel⟩
theorem ok_led_to (T : Top K mg B) (hK : B.K = K) (A : AllDefs K mg) : ZDef P w K mg base B "led_to" 1 F_led_to := by
  subst hK
  obtain ⟨f, fd, FD, hm⟩ := A 15 Kp.d_led_to rfl rfl
  have sc := sc_led_to
  refine zdef (k := 0) FD hm sc (fun _ _ _ _ _ _ us hl => match us, hl with | [_, _], _ => rfl) len_led_to fun cdv A0 outer s H E hr => ⟨_, (zs_cons (zs_par (i := 2) (j := 3) (z_dcomp (own := [("event", 4)]) (zi_seq (zv 1)) (blkOk_by (by rfl)) (fun _ _ _ _ _ => (zg_name 4 sc.nd)) (fun _ _ _ _ _ => zts_nil) (fun _ _ _ _ _ => (zv 4)) (fun _ _ _ _ _ => zbl) sc.nd) (z_ty call_list_of (l_list rfl) T.list (by decide +kernel) (za_cons (zv 1) za_nil)) sc.nd) (zs_cons (zs_while (z_cmpT op_gt l_B0 (z_lenN 3 T.len) zint (nomark _)) (zs_cons (zs_set (i := 5) (z_M (z_pop 3)) sc.nd) (zs_one (zs_for (zi_seq (zv 0)) (zg_name 6 sc.nd) (zs_one (zs_if (PW.pt (z_and (z_cmpT op_eq l_eq (z_ix (zv 6) zint) (zv 5) (nomark _)) (z_and1 (z_notInD 2 (z_ix (zv 6) zint) (hu_of hr))))) (zs_cons (zs_putD 2 (z_ix (zv 6) zint) zbl (hu_of hr)) (zs_one (zs_expr (z_app 3 (z_ix (zv 6) zint))))) zs_nil)))))) (zs_one (zs_retO 2)))), fun ds wd Q h => ?_⟩
  obtain ⟨ls, es, rfl, nd, he, hl, q⟩ := h
  refine fun hl1 => ⟨hl1, rfl, fun i ks ac => ac = allT ks ∧ ks = es.take i, ⟨rfl, rfl⟩, fun i d ks ac hd ⟨h1, h2⟩ => ?_, fun ks ac ⟨h1, h2⟩ => ?_⟩
  · obtain ⟨x, hx, rfl⟩ := gmap hd
    refine ⟨rfl, rfl, rfl, rfl, x, rfl, by rw [h1]; exact dput_all ks x, ?_⟩
    have hn : x ∉ ks := by
      rw [h2]
      intro hm
      have : (es.take (i + 1)).Nodup := (List.take_sublist _ _).nodup nd
      rw [tk1 hx, List.nodup_append] at this
      exact this.2.2 x hm x (by simp) rfl
    rw [dput_new hn, h2, tk1 hx]
  rw [List.length_map, List.take_length] at h2
  subst h1 h2
  refine ⟨fun z => ∃ es' W x5 x6, z = ⟨[some (.dat (linksD ls)), some (.dat (.lst (ks.map D.int))), some (.own (.dct es' (allT es'))), some (.own (.lst (W.map D.int))), none, x5, x6], wd⟩ ∧ Led ls ks es' W fun _ => False,
    fun z => match look z.e 2, look z.e 3 with | some (.own (.dct ks _)), some (.own (.lst ds)) => ds.length + 2 * (1000 - ks.length) | _, _ => 0, ⟨ks, ks, _, _, rfl, Led.start nd⟩, fun z ⟨ks', W, x5, x6, hz, L⟩ => ?_⟩
  subst hz
  refine ite2 (fun c => ?_) fun c => ?_
  · have hW : W ≠ [] := fun e => by subst e; simp at c
    obtain ⟨V, h, rfl⟩ := snoc_of hW
    have hpop : ((V ++ [h]).map D.int)[((V ++ [h]).map D.int).length - 1]? = some (D.int h) := by
      rw [List.map_append]; simp
    have hdl : ((V ++ [h]).map D.int).dropLast = V.map D.int := by rw [List.map_append]; simp
    refine ⟨D.int h, hpop, ?_⟩
    rw [hdl]
    have hks := L.wk h (by simp)
    have L2' := L.pop
    have hmu : V.length + 2 * (1000 - ks'.length) < ((V ++ [h]).map D.int).length + 2 * (1000 - ks'.length) := by
      rw [List.length_map, List.length_append, List.length_singleton]; omega
    generalize hM : ((V ++ [h]).map D.int).length + 2 * (1000 - ks'.length) = M at hmu
    refine fun hl2 => ⟨fun i z => ∃ es' W x6, z = ⟨[some (.dat (linksD ls)), some (.dat (.lst (ks.map D.int))), some (.own (.dct es' (allT es'))), some (.own (.lst (W.map D.int))), none, some (.dat (.int h)), x6], wd⟩ ∧ h ∈ es' ∧ Led ls ks es' W (fun l => l.a = h ∧ l ∉ ls.take i) ∧ W.length + 2 * (1000 - es'.length) < M,
      ⟨ks', V, _, rfl, hks, L2'.weak fun l _ e => ⟨e, by simp⟩, hmu⟩, fun i d z hd ⟨es', W, x6, hz, hh, L3, hmu3⟩ => ?_, fun z ⟨es', W, x6, hz, hh, L3, hmu3⟩ => ?_⟩
    · subst hz
      obtain ⟨l, hll, rfl⟩ := gmap hd
      have hin : l ∈ ls := List.mem_of_getElem? hll
      have few := L3.few he hl
      have szw := L3.sz
      refine ⟨.int l.a, rfl, ite2 (fun c2 => ?_) fun c2 => ?_⟩
      · have ea : l.a = h := by simpa using c2
        refine ⟨.int l.b, rfl, ite2 (fun c3 => ?_) fun c3 => ?_⟩
        · have nb : l.b ∉ es' := by simpa using c3
          refine ⟨.int l.b, rfl, by rw [sizeLine_eq]; omega, .int l.b, rfl, by rw [List.length_map, sizeLine_eq]; omega, es' ++ [l.b], W ++ [l.b], some (.dat (lkD l)), ?_, List.mem_append_left _ hh, (L3.push hin (by rw [ea]; exact hh) nb).weak fun x _ ⟨⟨e1, e2⟩, e3⟩ => ⟨e1, ?_⟩, by rw [List.length_append, List.length_append, List.length_singleton]; omega⟩
          · rw [← dput_new nb, ← dput_all, List.map_append]; rfl
          · rw [tk1 hll]; simp [e2, e3]
        · have nb : l.b ∈ es' := by simpa using c3
          refine ⟨es', W, some (.dat (lkD l)), rfl, hh, (L3.skip nb).weak fun x _ ⟨⟨e1, e2⟩, e3⟩ => ⟨e1, ?_⟩, hmu3⟩
          rw [tk1 hll]; simp [e2, e3]
      · have ea : l.a ≠ h := by simpa using c2
        refine ⟨es', W, some (.dat (lkD l)), rfl, hh, L3.weak fun x _ ⟨e1, e2⟩ => ⟨e1, ?_⟩, hmu3⟩
        rw [tk1 hll]
        simp only [List.mem_append, List.mem_singleton, not_or]
        exact ⟨e2, fun e => ea (by rw [← e]; exact e1)⟩
    · subst hz
      refine ⟨⟨es', W, _, _, rfl, L3.weak fun l hl ⟨_, e2⟩ => e2 ?_⟩, ?_⟩
      · rw [List.length_map, List.take_length]; exact hl
      · show (W.map D.int).length + 2 * (1000 - es'.length) < ((V ++ [h]).map D.int).length + 2 * (1000 - ks'.length)
        rw [hM, List.length_map]; exact hmu3
  · have hW : W = [] := by
      cases W with
      | nil => rfl
      | cons w W => exact (c (by simp)).elim
    subst hW
    exact q ks' L.nd L.done
end
end Kz

set_option Elab.async false
set_option linter.all false
set_option autoImplicit false
/-! Plain law: the nets of the draw and their bounds. -/
namespace Kz
structure NetOk (n : Nat) (ls : List Lk) : Prop where
  n0 : 0 < n
  n5 : n ≤ 5
  l15 : ls.length ≤ 15
  inn : ∀ l ∈ ls, inN n l
  tb : ∀ l ∈ ls, -2 ≤ l.t ∧ l.t ≤ 2
  db : ∀ l ∈ ls, -20 ≤ l.d ∧ l.d ≤ 20
  self : ∀ e : Int, 0 ≤ e → e < n → (⟨e, e, 1, 0⟩ : Lk) ∈ ls
theorem tok_bd : ∀ {w : List Lk}, (∀ l ∈ w, -2 ≤ l.t ∧ l.t ≤ 2) → -(2 * (w.length : Int)) ≤ tokS w ∧ tokS w ≤ 2 * (w.length : Int)
  | [], _ => by simp [tokS]
  | l :: w, h => by
    have h1 := h l List.mem_cons_self
    have h2 := tok_bd (w := w) fun x hx => h x (List.mem_cons_of_mem _ hx)
    have e : tokS (l :: w) = l.t + tokS w := by simp [tokS]
    rw [e, List.length_cons]
    omega
theorem tik_bd : ∀ {w : List Lk}, (∀ l ∈ w, -20 ≤ l.d ∧ l.d ≤ 20) → -(20 * (w.length : Int)) ≤ tikS w ∧ tikS w ≤ 20 * (w.length : Int)
  | [], _ => by simp [tikS]
  | l :: w, h => by
    have h1 := h l List.mem_cons_self
    have h2 := tik_bd (w := w) fun x hx => h x (List.mem_cons_of_mem _ hx)
    have e : tikS (l :: w) = l.d + tikS w := by simp [tikS]
    rw [e, List.length_cons]
    omega
theorem NetOk.tok {n : Nat} {ls r : List Lk} (N : NetOk n ls) (h : Ring ls r) : -10 ≤ tokS r ∧ tokS r ≤ 10 := by
  obtain ⟨f, W, _⟩ := h
  have h1 := tok_bd fun l hl => N.tb l (W.sub l hl)
  have h2 := W.len N.inn
  have h3 := N.n5
  omega
theorem NetOk.tik {n : Nat} {ls r : List Lk} (N : NetOk n ls) (h : Ring ls r) : -100 ≤ tikS r ∧ tikS r ≤ 100 := by
  obtain ⟨f, W, _⟩ := h
  have h1 := tik_bd fun l hl => N.db l (W.sub l hl)
  have h2 := W.len N.inn
  have h3 := N.n5
  omega
theorem low_le {a b : Int} (hb : b ≠ 0) : (low a b).2.natAbs ≤ b.natAbs := by
  have L := low_lowest (a := a) hb
  have e : (low a b).1.natAbs * b.natAbs = a.natAbs * (low a b).2.natAbs := by rw [← Int.natAbs_mul, ← Int.natAbs_mul, L.eq]
  have d : (low a b).2.natAbs ∣ b.natAbs := dvd_of_cop L.cop ⟨a.natAbs, by rw [e, Nat.mul_comm]⟩
  exact Nat.le_of_dvd (Int.natAbs_pos.mpr hb) d
theorem low_le1 {a b : Int} (hb : b ≠ 0) : (low a b).1.natAbs ≤ a.natAbs := by
  have L := low_lowest (a := a) hb
  have e : (low a b).1.natAbs * b.natAbs = a.natAbs * (low a b).2.natAbs := by rw [← Int.natAbs_mul, ← Int.natAbs_mul, L.eq]
  have h := low_le (a := a) hb
  have hz : 0 < b.natAbs := Int.natAbs_pos.mpr hb
  have : (low a b).1.natAbs * b.natAbs ≤ a.natAbs * b.natAbs := by rw [e]; exact Nat.mul_le_mul_left _ h
  exact Nat.le_of_mul_le_mul_right this hz
theorem NetOk.asks {n : Nat} {ls r : List Lk} (N : NetOk n ls) (h : Ring ls r) (ht : tokS r ≠ 0) : 0 < (asks r).2 ∧ (asks r).2 ≤ 10 ∧ -100 ≤ (asks r).1 ∧ (asks r).1 ≤ 100 := by
  have h1 := N.tok h
  have h2 := N.tik h
  have h3 := low_le (a := tikS r) ht
  have h4 := low_le1 (a := tikS r) ht
  have h5 := asks_pos ht
  unfold Kz.asks at h5 ⊢
  omega
/-- rings with tokens that lead to e -/
def LeadS (ls : List Lk) (e : Int) (r : List Lk) : Prop := Ring ls r ∧ 0 < tokS r ∧ Reach ls (hs r) e
def IsBest (ls : List Lk) (e : Int) (r : List Lk) : Prop := BstP (LeadS ls e) (some r)
theorem self_ring {ls : List Lk} {e : Int} (h : (⟨e, e, 1, 0⟩ : Lk) ∈ ls) : Ring ls [⟨e, e, 1, 0⟩] := ⟨e, Way.one h, rfl⟩
theorem self_lead {ls : List Lk} {e : Int} (h : (⟨e, e, 1, 0⟩ : Lk) ∈ ls) : LeadS ls e [⟨e, e, 1, 0⟩] := ⟨self_ring h, (show (0 : Int) < 1 + 0 by omega), .base (by simp [hs])⟩
end Kz

set_option Elab.async false
set_option linter.all false
set_option maxRecDepth 100000
set_option maxHeartbeats 4000000
set_option autoImplicit false
/-! The lower rings. -/
namespace Kz
open PySem PySem.Spec PyProof.Rows L2
section
variable {P : Program} {w : World} {K : PySem.W.Frag} {mg : Str → Option Value} {base : Heap} {B : RB}
def optD : Option (List Lk) → D
  | none => .non
  | some r => ringD r
theorem atI_nat {α : Type} {xs : List α} {j : Int} {x : α} (h0 : 0 ≤ j) (h : xs[j.toNat]? = some x) : atI xs j = some x := by
  have lt := (List.getElem?_eq_some_iff.mp h).1
  unfold atI ixN
  rw [if_pos h0, if_pos (by omega)]
  exact h
theorem ixN_nat {n : Nat} {j : Int} (h0 : 0 ≤ j) (h : j < n) : ixN n j = some j.toNat := by
  unfold ixN
  rw [if_pos h0, if_pos h]
theorem rep_set {α : Type} {a : α} {n : Nat} : List.replicate n a ++ [a] = List.replicate (n + 1) a := (List.replicate_succ' ..).symm
def F_lower_rings : ZF := fun ds wd Q => ∃ (n : Nat) (ls : List Lk), ds = [.int n, linksD ls] ∧ NetOk n ls ∧ ∀ lows : List (List Lk), lows.length = n → (∀ (e : Nat) r, lows[e]? = some r → IsBest ls e r) → Q (.own (.lst (lows.map ringD))) wd
theorem len_lower_rings : ∀ ds wd Q, F_lower_rings ds wd Q → ds.length = 2 := fun ds wd Q ⟨a, _, e, _⟩ => by rw [e]; rfl
def seen (ls : List Lk) (rs : List (List Lk)) (e : Int) (r : List Lk) : Prop := r ∈ rs ∧ LeadS ls e r
theorem sc_lower_rings : FnScope ["many", "links", "found", "event", "ring", "link"] ["many", "links"] (defScope Kp.s_lower_rings) := ⟨rfl, rfl, rfl, by decide +kernel, rfl, by decide +kernel, by decide +kernel⟩
theorem ok_lower_rings (T : Top K mg B) (hK : B.K = K) (A : AllDefs K mg) (G_rings_of : ZDef P w K mg base B "rings_of" 2 F_rings_of) (G_sums_of : ZDef P w K mg base B "sums_of" 1 F_sums_of) (G_led_to : ZDef P w K mg base B "led_to" 1 F_led_to) (G_is_below : ZDef P w K mg base B "is_below" 1 F_is_below) (G_asked : ZDef P w K mg base B "asked" 2 F_asked) : ZDef P w K mg base B "lower_rings" 3 F_lower_rings := by
  subst hK
  obtain ⟨f, fd, FD, hm⟩ := A 25 Kp.d_lower_rings rfl rfl
  have sc := sc_lower_rings
  refine zdef (k := 2) FD hm sc (fun _ _ _ _ _ _ us hl => match us, hl with | [_, _], _ => rfl) len_lower_rings fun cdv A0 outer s H E hr => ⟨_, (zs_cons (zs_setLc (i := 2) (own := [("event", 3)]) (zi_rng1 (zv 0) T.range) (blkOk_by (by rfl)) (fun _ _ _ _ _ => (zg_name 3 sc.nd)) (fun _ _ _ _ _ => zts_nil) (fun _ _ _ _ _ => znon) sc.nd) (zs_cons (zs_for (zi_seq (z_E (z_call G_rings_of (hr.mono (by decide)) (by rfl) (za_cons (zv 1) za_nil)))) (zg_name 4 sc.nd) (zs_one (zs_if (z_cmpT op_gt l_B0 (z_ix (z_E (z_call G_sums_of (hr.mono (by decide)) (by rfl) (za_cons (zv 4) za_nil))) zint) zint (nomark _)) (zs_one (zs_for (zi_keysL (z_call G_led_to (hr.mono (by decide)) (by rfl) (za_cons (zv 1) (za_cons (z_E (z_comp (own := [("link", 5)]) (zi_seq (zv 4)) (blkOk_by (by rfl)) (fun _ _ _ _ _ => (zg_name 5 sc.nd)) (fun _ _ _ _ _ => zts_nil) (fun _ _ _ _ _ => (z_ix (zv 5) zint)) sc.nd)) za_nil)))) (zg_name 3 sc.nd) (zs_one (zs_if (PW.pt (z_or (z_isNT (z_ixN 2 (zv 3))) (z_or1 (z_val (z_E (z_call G_is_below (hr.mono (by decide)) (by rfl) (za_cons (z_E (z_call G_asked (hr.mono (by decide)) (by rfl) (za_cons (z_ixN 2 (zv 3)) za_nil))) (za_cons (z_E (z_call G_asked (hr.mono (by decide)) (by rfl) (za_cons (zv 4) za_nil))) za_nil)))))))) (zs_one (zs_put 2 (zv 3) (zv 4))) zs_nil)))) zs_nil))) (zs_one (zs_retO 2)))), fun ds wd Q h => ?_⟩
  obtain ⟨n, ls, rfl, N, q⟩ := h
  have n5 := N.n5
  refine ⟨by omega, by omega, ?_⟩
  refine ⟨by rw [rangeD_length, sizeLine_eq]; omega, rfl, fun i acc w' => acc = List.replicate i D.non ∧ wd = w', ⟨rfl, rfl⟩, fun i d acc w' hd ⟨ha, hw⟩ => ⟨rfl, rfl, rfl, by rw [ha, ← rep_set], hw⟩, fun acc w' ⟨ha, hw⟩ => ?_⟩
  rw [rangeD_length, Int.toNat_natCast] at ha
  subst ha hw
  refine ⟨ls, n, rfl, N.n5, N.l15, N.inn, fun rs hrs hrl => ?_⟩
  refine fun hl1 => ⟨fun i z => ∃ fs x3 x4, z = ⟨[some (.dat (.int n)), some (.dat (linksD ls)), some (.own (.lst (fs.map optD))), x3, x4, none], wd⟩ ∧ fs.length = n ∧ ∀ (e : Nat) o, fs[e]? = some o → BstP (seen ls (rs.take i) e) o,
    ⟨List.replicate n none, _, _, by rw [List.map_replicate]; rfl, by simp, fun e o ho => ?_⟩, fun i d z hd ⟨fs, x3, x4, hz, hfl, hb⟩ => ?_, fun z ⟨fs, x3, x4, hz, hfl, hb⟩ => ?_⟩
  · rw [List.getElem?_replicate] at ho
    split at ho
    · cases ho; exact fun r hr => absurd hr.1 (by simp)
    · cases ho
  · subst hz
    obtain ⟨r, hr, rfl⟩ := gmap hd
    have ring : Ring ls r := (hrs r).mp (List.mem_of_getElem? hr)
    have tb := N.tok ring
    refine ⟨r, rfl, .int (tokS r), rfl, ite2 (fun c => ?_) fun c => ?_⟩
    · have hp : 0 < tokS r := by simpa using c
      refine fun hl2 => ⟨hl2, rfl, fun j acc w' => acc = (r.take j).map (fun l => D.int l.a) ∧ wd = w', ⟨rfl, rfl⟩, fun j d acc w' hd ⟨ha, hw⟩ => ?_, fun acc w' ⟨ha, hw⟩ => ?_⟩
      · obtain ⟨x, hx, rfl⟩ := gmap hd
        exact ⟨rfl, rfl, _, rfl, rfl, by rw [ha]; exact tkm hx, hw⟩
      rw [List.length_map, List.take_length] at ha
      subst ha hw
      obtain ⟨f0, W, hE⟩ := ring
      have ring : Ring ls r := ⟨f0, W, hE⟩
      have wl := W.len N.inn
      refine ⟨ls, hs r, by unfold hs; rw [List.map_map]; rfl, W.nd, by unfold hs; rw [List.length_map]; omega, by have := N.l15; omega, fun ks knd hks => ?_⟩
      have reach : ∀ e ∈ ks, 0 ≤ e ∧ e < n := fun e he => by
        have : ∀ x, Reach ls (hs r) x → 0 ≤ x ∧ x < n := fun x hx => by
          cases hx with
          | base h =>
            obtain ⟨l, hl, rfl⟩ := List.mem_map.mp h
            have := N.inn l (W.sub l hl)
            exact ⟨this.1, this.2.1⟩
          | step h hl => have := N.inn _ hl; exact ⟨this.2.2.1, this.2.2.2⟩
        exact this e ((hks e).mp he)
      refine ⟨fun j z => ∃ fs x3, z = ⟨[some (.dat (.int n)), some (.dat (linksD ls)), some (.own (.lst (fs.map optD))), x3, some (.dat (ringD r)), none], wd⟩ ∧ fs.length = n ∧ ∀ (e : Nat) o, fs[e]? = some o → BstP (seen ls (if (e : Int) ∈ ks.take j then rs.take (i + 1) else rs.take i) e) o,
        ⟨fs, _, rfl, hfl, fun e o ho => by rw [if_neg (by simp)]; exact hb e o ho⟩, fun j d z hd ⟨fs, x3, hz, hfl, hb⟩ => ?_, fun z ⟨fs, x3, hz, hfl, hb⟩ => ?_⟩
      · subst hz
        obtain ⟨k, hk, rfl⟩ := gmap hd
        obtain ⟨k0, k1⟩ := reach k (List.mem_of_getElem? hk)
        have hlt : k.toNat < fs.length := by omega
        obtain ⟨o, ho⟩ : ∃ o, fs[k.toNat]? = some o := ⟨fs[k.toNat], List.getElem?_eq_getElem hlt⟩
        have kn : k ∉ ks.take j := by
          have : (ks.take (j + 1)).Nodup := (List.take_sublist _ _).nodup knd
          rw [tk1 hk, List.nodup_append] at this
          exact fun hm => this.2.2 k hm k (by simp) rfl
        have ek : ((k.toNat : Nat) : Int) = k := by omega
        have bo := hb _ _ ho
        rw [ek, if_neg kn] at bo
        have hat : atI (fs.map optD) k = some (optD o) := atI_nat k0 (by rw [List.getElem?_map, ho]; rfl)
        have lead : LeadS ls k r := ⟨ring, hp, (hks k).mp (List.mem_of_getElem? hk)⟩
        have more : ∀ x, seen ls (rs.take (i + 1)) k x ↔ seen ls (rs.take i) k x ∨ x = r := fun x => by
          unfold seen
          rw [tk1 hr, List.mem_append, List.mem_singleton]
          constructor
          · rintro ⟨h | h, h2⟩
            · exact .inl ⟨h, h2⟩
            · exact .inr h
          · rintro (⟨h, h2⟩ | h)
            · exact ⟨.inl h, h2⟩
            · exact ⟨.inr h, by rw [h]; exact lead⟩
        -- what remains to be shown with the new value at k
        have upd : ∀ o', BstP (seen ls (rs.take (i + 1)) k) o' → ∀ (e : Nat) u, (fs.set k.toNat o')[e]? = some u → BstP (seen ls (if (e : Int) ∈ ks.take (j + 1) then rs.take (i + 1) else rs.take i) e) u := fun o' b e u hu => by
          by_cases q : k.toNat = e
          · subst q
            rw [List.getElem?_set_self hlt] at hu
            cases hu
            rw [ek, if_pos (by rw [tk1 hk]; simp)]
            exact b
          · rw [List.getElem?_set_ne q] at hu
            have b := hb e u hu
            have : ((e : Int) ∈ ks.take (j + 1)) ↔ (e : Int) ∈ ks.take j := by
              rw [tk1 hk, List.mem_append, List.mem_singleton]
              constructor
              · rintro (h | h)
                · exact h
                · omega
              · exact .inl
            simp only [this]
            exact b
        have same : o = some r ∨ True := .inr trivial
        have setmap : ∀ o', (fs.map optD).set k.toNat (optD o') = (fs.set k.toNat o').map optD := fun o' => (List.map_set ..).symm
        have stay : fs.set k.toNat o = fs := by
          apply List.ext_getElem?
          intro e
          by_cases q : k.toNat = e
          · subst q; rw [List.getElem?_set_self hlt, ho]
          · rw [List.getElem?_set_ne q]
        have put : ∃ m, ixN (fs.map optD).length k = some m ∧ m = k.toNat := ⟨k.toNat, ixN_nat k0 (by rw [List.length_map]; omega), rfl⟩
        obtain ⟨m, hm, rfl⟩ := put
        cases o with
        | none =>
          refine ⟨.non, hat, ite2 (fun c2 => ?_) fun c2 => absurd rfl c2⟩
          refine ite2 (fun c3 => ?_) fun c3 => absurd rfl c3
          exact ⟨_, hm, fs.set k.toNat (some r), _, by rw [← setmap]; rfl, by rw [List.length_set]; exact hfl, upd _ (bo.first more)⟩
        | some p =>
          have pl : LeadS ls k p := bo.1.2
          have ap := N.asks pl.1 (Int.ne_of_gt pl.2.1)
          have ar := N.asks ring (Int.ne_of_gt hp)
          have tp := N.tok pl.1
          refine ⟨ringD p, hat, ite2 (fun c2 => absurd (show (false : Bool) = true from c2) (by decide)) fun c2 => ?_⟩
          refine ⟨ringD p, hat, p, rfl, Int.ne_of_gt pl.2.1, by omega, r, rfl, Int.ne_of_gt hp, by omega, _, _, _, _, rfl, isF_frD _, isF_frD _, ⟨by have := ap.1; show -(2 ^ 64) < (asks p).2; omega, by show (asks p).2 < 2 ^ 64; omega⟩, ⟨by have := ar.1; show -(2 ^ 64) < (asks r).2; omega, by show (asks r).2 < 2 ^ 64; omega⟩, ?_⟩
          refine ite2 (fun c3 => ?_) fun c3 => ?_
          · refine ⟨_, hm, fs.set k.toNat (some r), _, by rw [← setmap]; rfl, by rw [List.length_set]; exact hfl, upd _ (bo.up more (fun x hx => asks_pos (Int.ne_of_gt hx.2.2.1)) c3)⟩
          · refine ⟨fs, _, rfl, hfl, ?_⟩
            have := upd (some p) (bo.stay more (Bool.eq_false_iff.mpr c3))
            rw [stay] at this
            exact this
      · subst hz
        refine ⟨fs, _, _, rfl, hfl, fun e o ho => ?_⟩
        have b := hb e o ho
        rw [List.length_map, List.take_length] at b
        by_cases m : (e : Int) ∈ ks
        · rw [if_pos m] at b; exact b
        · rw [if_neg m] at b
          refine b.keep fun x => ?_
          unfold seen
          rw [tk1 hr, List.mem_append, List.mem_singleton]
          constructor
          · rintro ⟨h, h2⟩; exact ⟨.inl h, h2⟩
          · rintro ⟨h | h, h2⟩
            · exact ⟨h, h2⟩
            · rw [h] at h2; exact (m ((hks e).mpr h2.2.2)).elim
    · refine ⟨fs, _, _, rfl, hfl, fun e o ho => (hb e o ho).keep fun x => ?_⟩
      unfold seen
      rw [tk1 hr, List.mem_append, List.mem_singleton]
      constructor
      · rintro ⟨h, h2⟩; exact ⟨.inl h, h2⟩
      · rintro ⟨h | h, h2⟩
        · exact ⟨h, h2⟩
        · rw [h] at h2; exact (c (by simpa using h2.2.1)).elim
  · subst hz
    have hb' : ∀ (e : Nat) o, fs[e]? = some o → ∃ r, o = some r ∧ IsBest ls e r := fun e o ho => by
      have b := hb e o ho
      rw [List.length_map, List.take_length] at b
      have b : BstP (LeadS ls e) o := b.keep fun x => ⟨fun h => h.2, fun h => ⟨(hrs x).mpr h.1, h⟩⟩
      cases o with
      | none =>
        have lt : e < n := by rw [← hfl]; exact (List.getElem?_eq_some_iff.mp ho).1
        exact (b _ (self_lead (N.self e (by omega) (by omega)))).elim
      | some r => exact ⟨r, rfl, b⟩
    have all : ∃ lows : List (List Lk), fs = lows.map some := by
      refine ⟨fs.map fun o => o.getD [], ?_⟩
      rw [List.map_map]
      apply List.ext_getElem?
      intro e
      rw [List.getElem?_map]
      cases ho : fs[e]? with
      | none => rfl
      | some o =>
        obtain ⟨r, rfl, _⟩ := hb' e o ho
        rfl
    obtain ⟨lows, rfl⟩ := all
    have e1 : (lows.map some).map optD = lows.map ringD := by rw [List.map_map]; rfl
    show Q (.own (.lst ((lows.map some).map optD))) wd
    rw [e1]
    refine q lows (by rw [List.length_map] at hfl; exact hfl) fun e r hr => ?_
    obtain ⟨r', e2, b⟩ := hb' e (some r) (by rw [List.getElem?_map, hr]; rfl)
    cases e2
    exact b
end
end Kz

set_option Elab.async false
set_option linter.all false
set_option autoImplicit false
/-! Plain law: clashes; the same links in another order. -/
namespace Kz
def headA : List Lk → Int
  | l :: _ => l.a
  | [] => 0
def Clash (ls : List Lk) : Prop := (∃ r, Ring ls r ∧ tokS r = 0 ∧ 0 < tikS r) ∨ ∃ r q, Ring ls r ∧ tokS r < 0 ∧ IsBest ls (headA r) q ∧ below (asks r) (asks q) = true
theorem Ring1.head_ {ls : List Lk} {f : Int} {r : List Lk} (h : Ring1 ls f r) : headA r = f := by
  obtain ⟨l, s, rfl, e⟩ := h.1.head
  exact e
theorem best_eq {ls : List Lk} {e : Int} {q r : List Lk} (h1 : IsBest ls e q) (h2 : IsBest ls e r) : asks q = asks r := by
  have a := h1.2 r h2.1
  have b := h2.2 q h1.1
  have tq : tokS q ≠ 0 := Int.ne_of_gt h1.1.2.1
  have tr : tokS r ≠ 0 := Int.ne_of_gt h2.1.2.1
  have Lq := low_lowest (a := tikS q) tq
  have Lr := low_lowest (a := tikS r) tr
  unfold below at a b
  rw [decide_eq_false_iff_not] at a b
  exact lowest_unique Lq.pos Lr.pos Lq.cop Lr.cop (show (asks q).1 * (asks r).2 = (asks r).1 * (asks q).2 by omega)
section
variable {ls ms : List Lk} (h : ∀ l, l ∈ ls ↔ l ∈ ms)
include h
theorem Way.congr {f : Int} {w : List Lk} (W : Way ls f w) : Way ms f w := ⟨W.head, fun l hl => (h l).mp (W.sub l hl), W.chain, W.nd, W.low⟩
theorem Ring.congr {r : List Lk} : Ring ls r ↔ Ring ms r :=
  ⟨fun ⟨f, W, e⟩ => ⟨f, W.congr h, e⟩, fun ⟨f, W, e⟩ => ⟨f, W.congr fun l => (h l).symm, e⟩⟩
theorem Reach.congr1 {es : List Int} {e : Int} (R : Reach ls es e) : Reach ms es e := by
  induction R with
  | base hh => exact .base hh
  | step _ hl ih => exact .step ih ((h _).mp hl)
theorem LeadS.congr {e : Int} {r : List Lk} : LeadS ls e r ↔ LeadS ms e r :=
  ⟨fun ⟨a, b, c⟩ => ⟨(Ring.congr h).mp a, b, c.congr1 h⟩, fun ⟨a, b, c⟩ => ⟨(Ring.congr h).mpr a, b, c.congr1 fun l => (h l).symm⟩⟩
theorem IsBest.congr {e : Int} {r : List Lk} : IsBest ls e r ↔ IsBest ms e r :=
  ⟨fun b => BstP.keep b fun x => LeadS.congr h, fun b => BstP.keep b fun x => (LeadS.congr h).symm⟩
theorem Clash.congr : Clash ls ↔ Clash ms := by
  unfold Clash
  constructor
  · rintro (⟨r, a, b⟩ | ⟨r, q, a, b, c, d⟩)
    · exact .inl ⟨r, (Ring.congr h).mp a, b⟩
    · exact .inr ⟨r, q, (Ring.congr h).mp a, b, (IsBest.congr h).mp c, d⟩
  · rintro (⟨r, a, b⟩ | ⟨r, q, a, b, c, d⟩)
    · exact .inl ⟨r, (Ring.congr h).mpr a, b⟩
    · exact .inr ⟨r, q, (Ring.congr h).mpr a, b, (IsBest.congr h).mpr c, d⟩
theorem NetOk.congr {n : Nat} (N : NetOk n ls) (hl : ms.length ≤ 15) : NetOk n ms :=
  ⟨N.n0, N.n5, hl, fun l hm => N.inn l ((h l).mpr hm), fun l hm => N.tb l ((h l).mpr hm), fun l hm => N.db l ((h l).mpr hm), fun e a b => (h _).mp (N.self e a b)⟩
end
/-- what each event asks at the least -/
structure LowsOf (n : Nat) (ls : List Lk) (fs : List (Int × Int)) : Prop where
  len : fs.length = n
  at_ : ∀ (e : Nat) f, fs[e]? = some f → ∃ r, IsBest ls e r ∧ f = asks r
theorem LowsOf.unique {n : Nat} {ls : List Lk} {fs gs : List (Int × Int)} (h : LowsOf n ls fs) (k : LowsOf n ls gs) : fs = gs := by
  apply List.ext_getElem (h.len.trans k.len.symm)
  intro e h1 h2
  obtain ⟨r, br, er⟩ := h.at_ e _ (List.getElem?_eq_getElem h1)
  obtain ⟨q, bq, eq⟩ := k.at_ e _ (List.getElem?_eq_getElem h2)
  rw [er, eq, best_eq br bq]
theorem LowsOf.congr {n : Nat} {ls ms : List Lk} {fs : List (Int × Int)} (h : ∀ l, l ∈ ls ↔ l ∈ ms) (k : LowsOf n ls fs) : LowsOf n ms fs :=
  ⟨k.len, fun e f hf => let ⟨r, b, e2⟩ := k.at_ e f hf; ⟨r, (IsBest.congr h).mp b, e2⟩⟩
end Kz

set_option Elab.async false
set_option linter.all false
set_option maxRecDepth 100000
set_option maxHeartbeats 4000000
set_option autoImplicit false
/-! Ways between, clashes. -/
namespace Kz
open PySem PySem.Spec PyProof.Rows L2
section
variable {P : Program} {w : World} {K : PySem.W.Frag} {mg : Str → Option Value} {base : Heap} {B : RB}
theorem atI_zero {α : Type} (x : α) (xs : List α) : atI (x :: xs) 0 = some x := atI_nat (Int.le_refl _) rfl
theorem dget_mem : ∀ {ks : List Int} {vs : List D} {k : Int}, k ∈ ks → ks.length = vs.length → ∃ d ∈ vs, dget ks vs k = some d
  | [], _, _, h, _ => absurd h (by simp)
  | _ :: _, [], _, _, h => by simp at h
  | j :: ks, d :: vs, k, h, hl => by
    unfold dget
    by_cases e : j = k
    · exact ⟨d, List.mem_cons_self, by rw [if_pos e]⟩
    · obtain ⟨d', m, h'⟩ := dget_mem (ks := ks) (vs := vs) (k := k) ((List.mem_cons.mp h).resolve_left fun x => e x.symm) (by simpa using hl)
      exact ⟨d', List.mem_cons_of_mem _ m, by rw [if_neg e]; exact h'⟩
theorem dputV_new {ks : List Int} {vs : List D} {k : Int} {x : D} (h : k ∉ ks) : dputV ks vs k x = vs ++ [x] := by unfold dputV; rw [if_neg h]
def F_way_between : ZF := fun ds wd Q => ∃ (ls : List Lk) (bs es : List Int), ds = [linksD ls, .lst (bs.map D.int), .lst (es.map D.int)] ∧ bs.Nodup ∧ bs.length ≤ 100 ∧ ls.length ≤ 100 ∧ Q (.dat .non) wd ∧ ∀ v : List Lk, Q (.dat (ringD v)) wd
theorem len_way_between : ∀ ds wd Q, F_way_between ds wd Q → ds.length = 3 := fun ds wd Q ⟨a, _, _, e, _⟩ => by rw [e]; rfl
theorem sc_way_between : FnScope ["links", "begins", "ends", "ways", "waiting", "at", "event", "here", "link"] ["links", "begins", "ends"] (defScope Kp.s_way_between) := ⟨rfl, rfl, rfl, by decide +kernel, rfl, by decide +kernel, by decide +kernel⟩
theorem ok_way_between (T : Top K mg B) (hK : B.K = K) (A : AllDefs K mg) : ZDef P w K mg base B "way_between" 1 F_way_between := by
  subst hK
  obtain ⟨f, fd, FD, hm⟩ := A 26 Kp.d_way_between rfl rfl
  have sc := sc_way_between
  refine zdef (k := 0) FD hm sc (fun _ _ _ _ _ _ us hl => match us, hl with | [_, _, _], _ => rfl) len_way_between fun cdv A0 outer s H E hr => ⟨_, (zs_cons (zs_par3 (i := 3) (j := 4) (l := 5) (z_dcomp (own := [("event", 6)]) (zi_seq (zv 1)) (blkOk_by (by rfl)) (fun _ _ _ _ _ => (zg_name 6 sc.nd)) (fun _ _ _ _ _ => zts_nil) (fun _ _ _ _ _ => (zv 6)) (fun _ _ _ _ _ => (z_E (z_lst za_nil))) sc.nd) (z_ty call_list_of (l_list rfl) T.list (by decide +kernel) (za_cons (zv 1) za_nil)) (z_M zint) sc.nd) (zs_cons (zs_while (z_cmpT op_lt l_B0 (zv 5) (z_lenN 4 T.len) (nomark _)) (zs_cons (zs_set (i := 7) (z_M (z_ixN 4 (zv 5))) sc.nd) (zs_cons (zs_aug 5 zint sc.nd) (zs_cons (zs_if (z_in (zv 7) (zv 2)) (zs_one (zs_ret (z_getD 3 (zv 7) (hu_of hr)))) zs_nil) (zs_one (zs_for (zi_seq (zv 0)) (zg_name 8 sc.nd) (zs_one (zs_if (PW.pt (z_and (z_cmpT op_eq l_eq (z_ix (zv 8) zint) (zv 7) (nomark _)) (z_and1 (z_notInD 3 (z_ix (zv 8) zint) (hu_of hr))))) (zs_cons (zs_putD 3 (z_ix (zv 8) zint) (z_E (z_lst (za_star (z_getD 3 (zv 7) (hu_of hr)) (za_cons (zv 8) za_nil)))) (hu_of hr)) (zs_one (zs_expr (z_app 4 (z_ix (zv 8) zint))))) zs_nil)))))))) (zs_one (zs_ret znon)))), fun ds wd Q h => ?_⟩
  obtain ⟨ls, bs, es, rfl, nd, hb, hl, q1, q2⟩ := h
  refine fun hl1 => ⟨hl1, rfl, fun i ks ac => ac = ks.map (fun _ => ringD []) ∧ ks = bs.take i, ⟨rfl, rfl⟩, fun i d ks ac hd ⟨h1, h2⟩ => ?_, fun ks ac ⟨h1, h2⟩ => ?_⟩
  · obtain ⟨x, hx, rfl⟩ := gmap hd
    have hn : x ∉ ks := by
      rw [h2]
      intro hm
      have : (bs.take (i + 1)).Nodup := (List.take_sublist _ _).nodup nd
      rw [tk1 hx, List.nodup_append] at this
      exact this.2.2 x hm x (by simp) rfl
    refine ⟨rfl, rfl, Nat.zero_le _, rfl, rfl, x, rfl, ?_, ?_⟩
    · rw [dputV_new hn, dput_new hn, h1, List.map_append]; rfl
    · rw [dput_new hn, h2, tk1 hx]
  rw [List.length_map, List.take_length] at h2
  subst h1 h2
  have e0 : ks.map (fun _ => ringD []) = (ks.map fun _ => ([] : List Lk)).map ringD := by rw [List.map_map]; rfl
  refine ⟨fun z => ∃ ys vs, ∃ at_ : Nat, ∃ x7 x8, z = ⟨[some (.dat (linksD ls)), some (.dat (.lst (ks.map D.int))), some (.dat (.lst (es.map D.int))), some (.own (.dct ys (vs.map ringD))), some (.own (.lst (ys.map D.int))), some (.dat (.int at_)), none, x7, x8], wd⟩ ∧ ys.length = vs.length ∧ (∀ v ∈ vs, v.length ≤ ys.length) ∧ Led ls ks ys [] (fun _ => True) ∧ at_ ≤ ys.length,
    fun z => match look z.e 5 with | some (.dat (.int a)) => 1000 - a.toNat | _ => 0, ⟨ks, ks.map fun _ => [], 0, _, _, by rw [← e0]; rfl, by simp, fun v hv => ?_, ⟨nd, fun e h => .base h, fun e h => h, fun e h => absurd h (by simp), fun l _ _ => .inr (.inr trivial), Nat.zero_le _⟩, Nat.zero_le _⟩, fun z ⟨ys, vs, a, x7, x8, hz, hyv, hvl, L, ha⟩ => ?_⟩
  · obtain ⟨_, _, rfl⟩ := List.mem_map.mp hv
    exact Nat.zero_le _
  subst hz
  refine ite2 (fun c => ?_) fun c => ?_
  · have hlt : a < ys.length := by
      have : (a : Int) < ((ys.map D.int).length : Nat) := by simpa using c
      rw [List.length_map] at this
      omega
    have few := L.few hb hl
    refine ⟨.int ys[a], atI_nat (by omega) (by rw [Int.toNat_natCast, List.getElem?_map, List.getElem?_eq_getElem hlt]; rfl), ?_⟩
    generalize hh : ys[a] = h
    have hin : h ∈ ys := by rw [← hh]; exact List.getElem_mem hlt
    refine ⟨es, rfl, ite2 (fun c2 => ?_) fun c2 => ?_⟩
    · obtain ⟨d, hd, e⟩ := dget_mem (vs := vs.map ringD) hin (by rw [List.length_map]; exact hyv)
      obtain ⟨v, _, rfl⟩ := List.mem_map.mp hd
      exact ⟨ringD v, e, q2 v⟩
    · refine fun hl2 => ⟨fun i z => ∃ ys vs x8, z = ⟨[some (.dat (linksD ls)), some (.dat (.lst (ks.map D.int))), some (.dat (.lst (es.map D.int))), some (.own (.dct ys (vs.map ringD))), some (.own (.lst (ys.map D.int))), some (.dat (.int ((a : Int) + 1))), none, some (.dat (.int h)), x8], wd⟩ ∧ ys.length = vs.length ∧ (∀ v ∈ vs, v.length ≤ ys.length) ∧ Led ls ks ys [] (fun _ => True) ∧ a < ys.length ∧ h ∈ ys,
        ⟨ys, vs, _, rfl, hyv, hvl, L, hlt, hin⟩, fun i d z hd ⟨ys, vs, x8, hz, hyv, hvl, L, hlt, hin⟩ => ?_, fun z ⟨ys, vs, x8, hz, hyv, hvl, L, hlt, hin⟩ => ?_⟩
      · subst hz
        obtain ⟨l, hll, rfl⟩ := gmap hd
        have lin : l ∈ ls := List.mem_of_getElem? hll
        have few := L.few hb hl
        refine ⟨.int l.a, rfl, ite2 (fun c3 => ?_) fun c3 => ?_⟩
        · have ea : l.a = h := by simpa using c3
          refine ⟨.int l.b, rfl, ite2 (fun c4 => ?_) fun c4 => ?_⟩
          · have nb : l.b ∉ ys := by simpa using c4
            obtain ⟨d, hd, e⟩ := dget_mem (vs := vs.map ringD) hin (by rw [List.length_map]; exact hyv)
            obtain ⟨v, hv, rfl⟩ := List.mem_map.mp hd
            have hv' := hvl v hv
            have e2 : ringD (v ++ [l]) = .lst (v.map lkD ++ [lkD l]) := by unfold ringD; rw [List.map_append]; rfl
            refine ⟨ringD v, e, by show (v.map lkD ++ [lkD l]).length ≤ sizeLine; rw [List.length_append, List.length_map, List.length_singleton, sizeLine_eq]; omega, .int l.b, rfl, by rw [sizeLine_eq]; omega, .int l.b, rfl, by rw [List.length_map, sizeLine_eq]; omega, ys ++ [l.b], vs ++ [v ++ [l]], some (.dat (lkD l)), ?_, by simp [hyv], fun u hu => ?_, ?_, by rw [List.length_append]; omega, List.mem_append_left _ hin⟩
            · have e3 : (vs ++ [v ++ [l]]).map ringD = dputV ys (vs.map ringD) l.b (.lst (v.map lkD ++ [lkD l])) := by rw [dputV_new nb, List.map_append, ← e2]; rfl
              rw [e3, ← dput_new nb, dput_new nb, List.map_append]; rfl
            · rw [List.length_append, List.length_singleton]
              rcases List.mem_append.mp hu with hu | hu
              · have := hvl u hu; omega
              · rw [List.mem_singleton.mp hu, List.length_append, List.length_singleton]; omega
            · refine ⟨?_, fun e he => ?_, fun e he => List.mem_append_left _ (L.st e he), fun e he => absurd he (by simp), fun _ _ _ => .inr (.inr trivial), Nat.zero_le _⟩
              · rw [List.nodup_append]
                exact ⟨L.nd, by simp, fun a ha b hb e => nb (by simp at hb; rw [← hb, ← e]; exact ha)⟩
              · rcases List.mem_append.mp he with he | he
                · exact L.ok e he
                · rw [List.mem_singleton.mp he]; exact .step (L.ok _ (by rw [ea]; exact hin)) lin
          · exact ⟨ys, vs, some (.dat (lkD l)), rfl, hyv, hvl, L, hlt, hin⟩
        · exact ⟨ys, vs, some (.dat (lkD l)), rfl, hyv, hvl, L, hlt, hin⟩
      · subst hz
        have few := L.few hb hl
        refine ⟨⟨ys, vs, a + 1, _, _, rfl, hyv, hvl, L, hlt⟩, ?_⟩
        show 1000 - ((a : Int) + 1).toNat < 1000 - (a : Int).toNat
        omega
  · exact q1
def F_clash_of : ZF := fun ds wd Q => ∃ (n : Nat) (ls : List Lk) (lows : List (List Lk)), ds = [linksD ls, .lst (lows.map ringD)] ∧ NetOk n ls ∧ lows.length = n ∧ (∀ (e : Nat) r, lows[e]? = some r → IsBest ls e r) ∧
  (Clash ls → ∀ x y z, Q (.dat (.tup [x, y, z])) wd) ∧ (¬ Clash ls → Q (.dat .non) wd)
theorem len_clash_of : ∀ ds wd Q, F_clash_of ds wd Q → ds.length = 2 := fun ds wd Q ⟨a, _, _, e, _⟩ => by rw [e]; rfl
theorem size3 : 3 ≤ sizeLine := by rw [sizeLine_eq]; omega
theorem sc_clash_of : FnScope ["links", "lowers", "rings", "ring", "ticks", "tokens", "lower", "way", "link"] ["links", "lowers"] (defScope Kp.s_clash_of) := ⟨rfl, rfl, rfl, by decide +kernel, rfl, by decide +kernel, by decide +kernel⟩
theorem ok_clash_of (T : Top K mg B) (hK : B.K = K) (A : AllDefs K mg) (G_rings_of : ZDef P w K mg base B "rings_of" 2 F_rings_of) (G_sums_of : ZDef P w K mg base B "sums_of" 1 F_sums_of) (G_is_below : ZDef P w K mg base B "is_below" 1 F_is_below) (G_asked : ZDef P w K mg base B "asked" 2 F_asked) (G_way_between : ZDef P w K mg base B "way_between" 1 F_way_between) : ZDef P w K mg base B "clash_of" 3 F_clash_of := by
  subst hK
  obtain ⟨f, fd, FD, hm⟩ := A 27 Kp.d_clash_of rfl rfl
  have sc := sc_clash_of
  refine zdef (k := 2) FD hm sc (fun _ _ _ _ _ _ us hl => match us, hl with | [_, _], _ => rfl) len_clash_of fun cdv A0 outer s H E hr => ⟨_, (zs_cons (zs_set (i := 2) (z_M (z_E (z_call G_rings_of (hr.mono (by decide)) (by rfl) (za_cons (zv 0) za_nil)))) sc.nd) (zs_cons (zs_for (zi_seq (zv 2)) (zg_name 3 sc.nd) (zs_cons (zs_asg (z_E (z_call G_sums_of (hr.mono (by decide)) (by rfl) (za_cons (zv 3) za_nil))) (zg_tup (n := 2) (zg_cons (zg_name 4 sc.nd) (zg_cons (zg_name 5 sc.nd) zg_nil)))) (zs_one (zs_if (PW.pt (z_and (z_cmpT op_eq l_eq (zv 5) zint (nomark _)) (z_and1 (z_cmpT op_gt l_B0 (zv 4) zint (nomark _))))) (zs_one (zs_ret (z_tup (za_cons (z_E (z_ty call_list_of (l_list rfl) T.list (by decide +kernel) (za_cons (zv 3) za_nil))) (za_cons znon (za_cons znon za_nil)))))) zs_nil)))) (zs_cons (zs_for (zi_seq (zv 2)) (zg_name 3 sc.nd) (zs_cons (zs_set (i := 6) (z_M (z_ix (zv 1) (z_ix (z_ix (zv 3) zint) zint))) sc.nd) (zs_one (zs_if (PW.pt (z_and (z_cmpT op_lt l_B0 (z_ix (z_E (z_call G_sums_of (hr.mono (by decide)) (by rfl) (za_cons (zv 3) za_nil))) zint) zint (nomark _)) (z_and1 (z_val (z_E (z_call G_is_below (hr.mono (by decide)) (by rfl) (za_cons (z_E (z_call G_asked (hr.mono (by decide)) (by rfl) (za_cons (zv 3) za_nil))) (za_cons (z_E (z_call G_asked (hr.mono (by decide)) (by rfl) (za_cons (zv 6) za_nil))) za_nil)))))))) (zs_cons (zs_set (i := 7) (z_M (z_E (z_call G_way_between (hr.mono (by decide)) (by rfl) (za_cons (zv 0) (za_cons (z_E (z_comp (own := [("link", 8)]) (zi_seq (zv 6)) (blkOk_by (by rfl)) (fun _ _ _ _ _ => (zg_name 8 sc.nd)) (fun _ _ _ _ _ => zts_nil) (fun _ _ _ _ _ => (z_ix (zv 8) zint)) sc.nd)) (za_cons (z_E (z_comp (own := [("link", 8)]) (zi_seq (zv 3)) (blkOk_by (by rfl)) (fun _ _ _ _ _ => (zg_name 8 sc.nd)) (fun _ _ _ _ _ => zts_nil) (fun _ _ _ _ _ => (z_ix (zv 8) zint)) sc.nd)) za_nil)))))) sc.nd) (zs_one (zs_ret (z_tup (za_cons (z_E (z_ty call_list_of (l_list rfl) T.list (by decide +kernel) (za_cons (zv 6) za_nil))) (za_cons (zv 7) (za_cons (z_E (z_ty call_list_of (l_list rfl) T.list (by decide +kernel) (za_cons (zv 3) za_nil))) za_nil))))))) zs_nil)))) (zs_one (zs_ret znon))))), fun ds wd Q h => ?_⟩
  obtain ⟨n, ls, lows, rfl, N, hlow, hbest, q1, q2⟩ := h
  have n5 := N.n5
  refine ⟨ls, n, rfl, N.n5, N.l15, N.inn, fun rs hrs hrl => ?_⟩
  refine fun hl1 => ⟨fun i z => ∃ x3 x4 x5, z = ⟨[some (.dat (linksD ls)), some (.dat (.lst (lows.map ringD))), some (.dat (.lst (rs.map ringD))), x3, x4, x5, none, none, none], wd⟩ ∧ ∀ r ∈ rs.take i, ¬ (tokS r = 0 ∧ 0 < tikS r),
    ⟨_, _, _, rfl, fun r h => absurd h (by simp)⟩, fun i d z hd ⟨x3, x4, x5, hz, hno⟩ => ?_, fun z ⟨x3, x4, x5, hz, hno⟩ => ?_⟩
  · subst hz
    obtain ⟨r, hr, rfl⟩ := gmap hd
    have ring : Ring ls r := (hrs r).mp (List.mem_of_getElem? hr)
    refine ⟨r, rfl, rfl, rfl, ?_⟩
    refine ite2 (fun c => ?_) fun c => ?_
    · refine ite2 (fun c2 => ?_) fun c2 => ?_
      · exact ⟨size3, q1 (.inl ⟨r, ring, by simpa using c, by simpa using c2⟩) _ _ _⟩
      · refine ⟨_, _, _, rfl, fun x hx => ?_⟩
        rw [tk1 hr] at hx
        rcases List.mem_append.mp hx with hx | hx
        · exact hno x hx
        · rw [List.mem_singleton.mp hx]; exact fun h => c2 (decide_eq_true h.2)
    · refine ⟨_, _, _, rfl, fun x hx => ?_⟩
      rw [tk1 hr] at hx
      rcases List.mem_append.mp hx with hx | hx
      · exact hno x hx
      · rw [List.mem_singleton.mp hx]; exact fun h => c (by rw [h.1]; rfl)
  · subst hz
    rw [List.length_map, List.take_length] at hno
    refine fun hl2 => ⟨fun i z => ∃ x3 x4 x5 x6, z = ⟨[some (.dat (linksD ls)), some (.dat (.lst (lows.map ringD))), some (.dat (.lst (rs.map ringD))), x3, x4, x5, x6, none, none], wd⟩ ∧ ∀ r ∈ rs.take i, ∀ q, IsBest ls (headA r) q → ¬ (tokS r < 0 ∧ below (asks r) (asks q) = true),
      ⟨_, _, _, _, rfl, fun r h => absurd h (by simp)⟩, fun i d z hd ⟨x3, x4, x5, x6, hz, hno2⟩ => ?_, fun z ⟨x3, x4, x5, x6, hz, hno2⟩ => ?_⟩
    · subst hz
      obtain ⟨r, hr, rfl⟩ := gmap hd
      have ring : Ring ls r := (hrs r).mp (List.mem_of_getElem? hr)
      obtain ⟨f0, W, hE⟩ := id ring
      obtain ⟨l, s0, rfl, hf⟩ := W.head
      have il := N.inn l (W.sub l List.mem_cons_self)
      have hlt : l.a.toNat < lows.length := by have := il.1; have := il.2.1; omega
      have ho : lows[l.a.toNat]? = some lows[l.a.toNat] := List.getElem?_eq_getElem hlt
      generalize hq : lows[l.a.toNat] = q at ho
      have bq := hbest _ _ ho
      rw [show ((l.a.toNat : Nat) : Int) = l.a from by have := il.1; omega] at bq
      obtain ⟨g0, W2, hE2⟩ := id bq.1.1
      have tb := N.tok ring
      have tq := N.tok bq.1.1
      have aq := N.asks bq.1.1 (Int.ne_of_gt bq.1.2.1)
      refine ⟨lkD l, atI_zero _ _, .int l.a, rfl, ringD q, atI_nat il.1 (by rw [List.getElem?_map, ho]; rfl), ?_⟩
      refine ⟨l :: s0, rfl, .int (tokS (l :: s0)), rfl, ite2 (fun c => ?_) fun c => ?_⟩
      · have ht : tokS (l :: s0) < 0 := by simpa using c
        have ar := N.asks ring (Int.ne_of_lt ht)
        refine ⟨l :: s0, rfl, Int.ne_of_lt ht, by omega, q, rfl, Int.ne_of_gt bq.1.2.1, by omega, _, _, _, _, rfl, isF_frD _, isF_frD _, ⟨by have := ar.1; show -(2 ^ 64) < (asks (l :: s0)).2; omega, by show (asks (l :: s0)).2 < 2 ^ 64; omega⟩, ⟨by have := aq.1; show -(2 ^ 64) < (asks q).2; omega, by show (asks q).2 < 2 ^ 64; omega⟩, ?_⟩
        refine ite2 (fun c2 => ?_) fun c2 => ?_
        · have clash : Clash ls := .inr ⟨l :: s0, q, ring, ht, bq, c2⟩
          refine fun hl3 => ⟨hl3, rfl, fun j acc w' => acc = (q.take j).map (fun l => D.int l.a) ∧ wd = w', ⟨rfl, rfl⟩, fun j d acc w' hd ⟨ha, hw⟩ => ?_, fun acc w' ⟨ha, hw⟩ => ?_⟩
          · obtain ⟨x, hx, rfl⟩ := gmap hd
            exact ⟨rfl, rfl, _, rfl, rfl, by rw [ha]; exact tkm hx, hw⟩
          rw [List.length_map, List.take_length] at ha
          subst ha hw
          refine fun hl4 => ⟨hl4, rfl, fun j acc w' => acc = ((l :: s0).take j).map (fun l => D.int l.a) ∧ wd = w', ⟨rfl, rfl⟩, fun j d acc w' hd ⟨ha, hw⟩ => ?_, fun acc w' ⟨ha, hw⟩ => ?_⟩
          · obtain ⟨x, hx, rfl⟩ := gmap hd
            exact ⟨rfl, rfl, _, rfl, rfl, by rw [ha]; exact tkm hx, hw⟩
          rw [List.length_map, List.take_length] at ha
          subst ha hw
          have wl := W2.len N.inn
          refine ⟨ls, hs q, hs (l :: s0), ?_, W2.nd, by unfold hs; rw [List.length_map]; omega, by have := N.l15; omega, ?_, fun v => ?_⟩
          · unfold hs
            rw [List.map_map, List.map_map]
            rfl
          · exact ⟨size3, q1 clash _ _ _⟩
          · exact ⟨size3, q1 clash _ _ _⟩
        · refine ⟨_, _, _, _, rfl, fun x hx p hp => ?_⟩
          rw [tk1 hr] at hx
          rcases List.mem_append.mp hx with hx | hx
          · exact hno2 x hx p hp
          · rw [List.mem_singleton.mp hx] at hp ⊢
            rintro ⟨_, h2⟩
            rw [best_eq hp bq] at h2
            exact c2 h2
      · refine ⟨_, _, _, _, rfl, fun x hx p hp => ?_⟩
        rw [tk1 hr] at hx
        rcases List.mem_append.mp hx with hx | hx
        · exact hno2 x hx p hp
        · rw [List.mem_singleton.mp hx]
          exact fun h => c (decide_eq_true h.1)
    · subst hz
      rw [List.length_map, List.take_length] at hno2
      refine q2 ?_
      rintro (⟨r, a, b⟩ | ⟨r, q, a, b, c, d⟩)
      · exact hno r ((hrs r).mpr a) b
      · exact hno2 r ((hrs r).mpr a) q c ⟨b, d⟩
end
end Kz

set_option Elab.async false
set_option linter.all false
set_option maxRecDepth 100000
set_option maxHeartbeats 4000000
/-! enumerate of a tuple. -/
namespace PySem
open Sem (wp)
theorem kz_enumerate_new1 {v : Value} {o : Obj} {H : Heap → Prop} (B : Begins v o H) :
    Meets (Builtin.«enumerate.__new__» ⟨[.type "enumerate", v], []⟩) (fun _ R s => H s.heap ∧
      R (.ok (.ret (.ref (s.heap.push o).objs.size))) { s with heap := (s.heap.push o).push { cls := .type "enumerate", data := .fields #[.none, .bool false, .ref s.heap.objs.size, rawInt 0, .none, .none] } }) :=
  .of_wp fun prog w A R s h => by
    obtain ⟨hp, g, d, tk, os⟩ := s; obtain ⟨h1, h⟩ := h
    have hsub := sub_enumerate
    have q1 : ∀ {A' : Around} {E : Value → Shared → Prop} {Q : Value → Shared → Prop}, Q (.ref hp.objs.size) ⟨hp.push o, g, d, tk, os⟩ → wpAny (model prog w) A' (pyIter v) Q E ⟨hp, g, d, tk, os⟩ :=
      fun q => B.iter prog w _ _ ⟨hp, g, d, tk, os⟩ _ h1 q
    wp_walk using q1
    refine wpAny_stack_any fun st => wpAny_pure ?_
    split
    · rename_i c _ _ _ _ _
      cases (c == Value.type "enumerate")
      · wp_walk using q1
        exact ⟨_, rfl, h⟩
      · wp_walk using q1
        exact ⟨_, rfl, h⟩
    · wp_walk using q1
      exact ⟨_, rfl, h⟩
section
variable {prog : Program} {w : World} {A : Around} {E : Value → Shared → Prop} {s : Shared}
theorem kz_enum_begins {v : Value} {o : Obj} {H : Heap → Prop} {Q : Value → Shared → Prop} (B : Begins v o H) (h1 : H s.heap)
    (h : ∀ h', IsEnum h' (s.heap.objs.size + 1) s.heap.objs.size 0 .none → h'.get? s.heap.objs.size = some o → h'.objs.size = s.heap.objs.size + 2 →
      (∀ b o, s.heap.get? b = some o → h'.get? b = some o) → Q (.ref (s.heap.objs.size + 1)) { s with heap := h' }) :
    wpAny (model prog w) A (call (.type "enumerate") [v]) Q E s := by
  refine callType_new F.called_enumerate (by decide) (F.typeCall_enumerate_1 _) (F.newCall_enumerate_1 _) (fun obj => F.args_object_init_2 obj _) F.entry_enumerate_new
    (kz_enumerate_new1 B) ⟨h1, ?_⟩
  have hz : (s.heap.push o).objs.size = s.heap.objs.size + 1 := Heap.size_push ..
  show _ ∧ _
  rw [hz]
  have he : IsEnum ((s.heap.push o).push { cls := .type "enumerate", data := .fields #[.none, .bool false, .ref s.heap.objs.size, rawInt 0, .none, .none] }) (s.heap.objs.size + 1) s.heap.objs.size 0 .none := by
    have := Heap.get?_push_size (s.heap.push o) (o := { cls := .type "enumerate", data := .fields #[.none, .bool false, .ref s.heap.objs.size, rawInt 0, .none, .none] }) rfl
    rw [hz] at this; exact this
  refine ⟨⟨_, he, rfl⟩, h _ he (Heap.get?_push_of_some _ (Heap.get?_push_size _ B.free)) (by rw [Heap.size_push, hz]) fun b o x => Heap.get?_push_of_some _ (Heap.get?_push_of_some _ x)⟩
end
end PySem
namespace Kz
open PySem PySem.Spec PyProof.Rows L2
def IteT (K : PySem.W.Frag) (a : Addr) : It :=
  ⟨fun i H => ∃ (xs : List V) (x : V), SqT K H a xs ∧ xs[i]? = some x, fun i H v H' => ∃ T x, v = .ref T ∧ H T = none ∧ H' = upd H T (.tup [.int (i : Nat), x]) ∧ ∀ xs, SqT K H a xs → xs[i]? = some x, fun i H => ∃ xs : List V, SqT K H a xs ∧ xs.length ≤ i⟩
theorem turn_enumT {P : Program} {w : World} {K : PySem.W.Frag} {elts : List Expr} {kk : Nat} {tpos : Pos} (a e it : Addr) (hae : a ≠ e) (hai : a ≠ it) :
    Turn P w K (.Tuple elts kk tpos) (IteT K a) [e, it] e (fun i h => (∃ old, IsEnum h e it ((i : Nat) : Int) old) ∧ h.IsTupleIter it a i ∧ e ≠ it) where
  mem := by simp
  obj := fun i h st b hb => by
    obtain ⟨⟨old, he⟩, ⟨o, ho, hc, hd⟩, _⟩ := st
    have e' : b = e ∨ b = it := by simpa using hb
    rcases e' with z | z
    · rw [z]; exact ⟨_, he, fun v q => nomatch q⟩
    · rw [z]; exact ⟨o, ho, fun v q => by rw [hd] at q; cases q⟩
  keep := fun i h h' st k => let ⟨⟨old, he⟩, hi, hne⟩ := st; ⟨⟨old, k e (by simp) _ he⟩, hi.at fun o q => k it (by simp) o q, hne⟩
  item := by
    intro X hP hw hK hc i pins s σ H E I hf st hg
    subst hP hw hK
    obtain ⟨⟨old, he⟩, hit, hne⟩ := st
    obtain ⟨xs, x, hq, hx⟩ := hg
    obtain ⟨its, rv, p, hz⟩ := I.tuple hq
    obtain ⟨u, hu, ru⟩ := rv.get hx
    have hel : e < s.heap.objs.size := Heap.lt_size he
    have hil : it < s.heap.objs.size := by obtain ⟨_, q, _⟩ := hit; exact Heap.lt_size q
    have hlt : i < its.toArray.size := by
      have := (List.getElem?_eq_some_iff.mp hu).1
      simpa using this
    have D := Draws.tuple (prog := X.prog) (w := X.w) (A := X.A.in1) (I.ok.hd hc) it a hai its.toArray
    refine wpAny_pyNext_enum_itemD D he ⟨hit, show s.heap.IsTuple a its.toArray from p⟩ hlt hne (by simp [hne, Ne.symm hae]) fun y h' tk hy ho hst hT hsz hk => ?_
    have hyu : y = u := by
      have h1 : its.toArray[i]? = some y := hy
      have h2 : its.toArray[i]? = some u := by simpa using hu
      rw [h1] at h2
      exact Option.some.inj h2
    subst hyu
    refine ⟨_, rfl, wpAny_letOwnedTupleGo_enum (s := { s with heap := h', toks := tk + 1 }) ho fun h'' he' sb => ?_⟩
    have hT2 : h''.get? s.heap.objs.size = some { cls := .type "tuple", data := .seq #[.int i tk, y] } := (sb.2 _ (Nat.ne_of_gt hel)).trans hT
    have new : ObjOk X.prog X.w (upd H s.heap.objs.size (.tup [.int (i : Nat), x])) h'' s.heap.objs.size (.tup [.int (i : Nat), x]) :=
      ⟨by show 2 ≤ sizeLine; decide, [.int i tk, y], .cons ⟨_, rfl⟩ (.cons ru .nil), ⟨_, hT2, rfl, _, rfl⟩⟩
    have I1 : Inv X pins σ (upd H s.heap.objs.size (.tup [.int (i : Nat), x])) { s with heap := h'', toks := tk + 1 } :=
      I.turnedNew (ch := [e, it]) (fun b ob hb q => (sb.2 b (fun z => hb (by simp [z]))).trans (hk b ob (fun z => hb (by simp [z])) (fun z => hb (by simp [z])) q)) hf (Nat.le_refl _) new
    refine ⟨.ref s.heap.objs.size, _, I1, rfl, ⟨_, x, rfl, I.hok.fresh (Nat.le_refl _), rfl, fun ys hy => by rw [I.tuple_inj hy hq]; exact hx⟩, ⟨⟨y, ?_⟩, hst.1.at fun o q => (sb.2 it (Ne.symm hne)).trans q, hne⟩, fun b hb => ?_⟩
    · have e1 : ((i + 1 : Nat) : Int) = (i : Int) + 1 := by omega
      rw [e1]; exact he'
    · have hb' : b < s.heap.objs.size := by
        have e' : b = e ∨ b = it := by simpa using hb
        rcases e' with z | z
        · rw [z]; exact hel
        · rw [z]; exact hil
      rw [upd_ne (Nat.ne_of_lt hb')]
      exact (hf b hb).1
  done := by
    intro X hP hw hK hc i pins s σ H E I hf st hg
    subst hP hw hK
    obtain ⟨⟨old, he⟩, hit, hne⟩ := st
    obtain ⟨xs, hq, hx⟩ := hg
    obtain ⟨its, rv, p, hz⟩ := I.tuple hq
    obtain ⟨f0, f1, f2, f3, f4, f5⟩ := hf it (by simp)
    have hl := rv.length
    unfold pyNext
    have hT : s.TypeIs (.ref e) "enumerate" := ⟨_, he, rfl⟩
    refine wpAny_bind (wpAny_attempt (wpAny_callSpecial?_slot (name := Str.ofString "__next__") hT F.slot_enumerate_next
      (wpAny_call_entry F.slot_enumerate_next hT F.entry_enumerate_next ?_ (F.args_enumerate_next_1 _))))
    show wpAny _ _ (field (.ref e) 2 >>= _) _ _ _
    refine wpAny_bind (wpAny_field he rfl (x := .ref it) rfl ?_)
    refine wpAny_bind (wpAny_nextOf_tuple_end (I.ok.hd hc) hit (show s.heap.IsTuple a its.toArray from p) (by simp; omega) fun h' x he' hx' => ?_)
    obtain ⟨o, ho, hc2⟩ := hx'
    refine wpAny_bind (wpAny_isInstance (T := "StopIteration") (b := true) ⟨o, ho, hc2⟩ isSubtype_stop ?_)
    exact wpAny_pure ⟨rfl, I.turned (t' := s.toks) (fun b o hb q => he' b o hb q) f0 f1 f3 f4 f5⟩
  self := fun A i s Q E st h => let ⟨⟨_, he⟩, _⟩ := st; wpAny_pyIter_enum he h
def iEnumB (K : PySem.W.Frag) (ta : TA) : TI := fun σ H R => ta σ H fun vs H1 => ∃ a xs, vs = [.ref a] ∧ ((SqL K H1 a xs ∧ R (Ite K a) H1) ∨ (SqT K H1 a xs ∧ R (IteT K a) H1))
theorem pi_enumB {X : Cx} {e : Expr} {ta : TA} {p pos tpos : Pos} {elts : List Expr} {kk : Nat} (hg : Gl X "enumerate") (hm : X.mg "enumerate" = none) (ha : PA X [e] ta) (hs : starEach [e] X.env = [(false, eval e X.env)] := by rfl) :
    PI X (.Tuple elts kk tpos) (.Call (.Name "enumerate" p) [e] [] pos) (iEnumB X.K ta) := by
  refine ⟨fun pins s σ H R I h => ?_⟩
  refine Call_ (ld_blt I hg hm boot_enumerate (PyProof.Rows.callWith_type1 (thn (ha.run pos pins s σ H _ I h) fun us s1 ⟨vs, H1, I1, r1, q1⟩ => ?_) hs rfl))
  obtain ⟨a, xs, ex, q⟩ := q1
  subst ex
  cases r1 with
  | cons r rr =>
    cases rr
    cases r
    have fin : ∀ b ∈ [s1.heap.objs.size + 1, s1.heap.objs.size], FpOk X pins H1 b := fun b hb => by
      have e' : b = s1.heap.objs.size + 1 ∨ b = s1.heap.objs.size := by simpa using hb
      have hle : s1.heap.objs.size ≤ b := by
        rcases e' with z | z
        · rw [z]; exact Nat.le_add_right _ _
        · rw [z]; exact Nat.le_refl _
      exact I1.fpOk hle (I1.hok.fresh hle)
    rcases q with ⟨hq, q⟩ | ⟨hq, q⟩
    · obtain ⟨its, rv, p', hz⟩ := I1.list hq
      refine call_enumerate_list p'.isList fun h' he hit hsz hk => wpAny_pyIter_enum he ?_
      have I2 : Inv X pins σ H1 { s1 with heap := h' } := I1.kept (t' := s1.toks) hk
      exact ⟨s1.heap.objs.size + 1, [s1.heap.objs.size + 1, s1.heap.objs.size], _, _, H1, rfl, I2, turn_enum a (s1.heap.objs.size + 1) s1.heap.objs.size, ⟨⟨.none, he⟩, hit, Nat.succ_ne_self _⟩, fin, q⟩
    · obtain ⟨its, rv, p', hz⟩ := I1.tuple hq
      have ht : s1.heap.IsTuple a its.toArray := p'
      have hlt : a < s1.heap.objs.size := by obtain ⟨o, ho, _⟩ := ht; exact Heap.lt_size ho
      refine kz_enum_begins (begins_tuple a its.toArray) ht fun h' he hit hsz hk => wpAny_pyIter_enum he ?_
      have I2 : Inv X pins σ H1 { s1 with heap := h' } := I1.kept (t' := s1.toks) hk
      exact ⟨s1.heap.objs.size + 1, [s1.heap.objs.size + 1, s1.heap.objs.size], _, _, H1, rfl, I2, turn_enumT a (s1.heap.objs.size + 1) s1.heap.objs.size (Nat.ne_of_lt (Nat.lt_succ_of_lt hlt)) (Nat.ne_of_lt hlt), ⟨⟨.none, he⟩, ⟨_, hit, rfl, rfl⟩, Nat.succ_ne_self _⟩, fin, q⟩
section
variable {X : Cx} {B : RB}
theorem yields_enumT {Y : RC} {D0 : Hp} {a : Addr} {xs : List V} {ds : List Kz.D} {K : PySem.W.Frag} (h : D0 a = some (.tup xs)) (r : RpA B D0 ds xs) : Yields B Y D0 (IteT K a) (ds.mapIdx fun i d => .tup [.int (i : Int), d]) where
  go := fun i D z σ H R s hi => by
    have hx : i < xs.length := by rw [← r.length]; simpa using hi
    exact ⟨xs, xs[i], SqT.of (R.dat _ _ (s _ _ h)), by simp [hx]⟩
  stop := fun D z σ H R s => ⟨xs, SqT.of (R.dat _ _ (s _ _ h)), by rw [← r.length]; simp⟩
  yld := fun i D z σ H x H' R s hi y => by
    obtain ⟨T, v, e1, e2, e3, y⟩ := y
    subst e1 e3
    have hx := y xs (SqT.of (R.dat _ _ (s _ _ h)))
    obtain ⟨d, h1, h2⟩ := r.get hx
    have S := Step.laid (o := .tup [.int (i : Nat), v]) R e2
    refine ⟨_, .tup [.int (i : Int), d], by rw [List.getElem?_mapIdx, h1]; rfl, S, ?_⟩
    exact Rp.mk_tup upd_same (RpA.mk_cons (Rp.mk_int _) (RpA.mk_cons (Rp.mono (s.trans S.same) _ _ h2) RpA.mk_nil))
def ziEnumB (t : ZE) : ZI := fun z Q => t z fun d z1 => match d with
  | .lst ds => Q (ds.mapIdx fun i d => .tup [.int (i : Int), d]) z1
  | .tup ds => Q (ds.mapIdx fun i d => .tup [.int (i : Int), d]) z1
  | _ => False
theorem zi_enumB {e : Expr} {t : ZE} {p pos tpos : Pos} {elts : List Expr} {kk : Nat} (ha : DE X B e t) (hm : X.mg "enumerate" = none) (hg : Gl X "enumerate" := by rfl) (s1 : starEach [e] X.env = (false, eval e X.env) :: starEach [] X.env := by rfl) (hs : starEach [e] X.env = [(false, eval e X.env)] := by rfl) :
    DI X B (.Tuple elts kk tpos) (.Call (.Name "enumerate" p) [e] [] pos) (ziEnumB t) :=
  pi_weak (pi_enumB hg hm (pa_cons ha pa_nil s1) hs) fun σ H R ⟨Y, D, z, Q', R0, h, k⟩ => ⟨Y, D, z, _, R0, h, fun d z1 q v H1 D1 S1 r => by
    cases d with
    | lst ds =>
      obtain ⟨a, xs, rfl, ha, ra⟩ := r.lst_
      exact ⟨a, xs, rfl, .inl ⟨SqL.of (S1.rel.dat _ _ ha), k _ z1 q _ H1 D1 S1 (yields_enum ha ra)⟩⟩
    | tup ds =>
      obtain ⟨a, xs, rfl, ha, ra⟩ := r.tup_
      exact ⟨a, xs, rfl, .inr ⟨SqT.of (S1.rel.dat _ _ ha), k _ z1 q _ H1 D1 S1 (yields_enumT ha ra)⟩⟩
    | _ => exact q.elim⟩
end
end Kz

set_option Elab.async false
set_option linter.all false
set_option maxRecDepth 100000
set_option maxHeartbeats 4000000
set_option autoImplicit false
/-! The links with the distances; own periods. -/
namespace Kz
open PySem PySem.Spec PyProof.Rows L2
theorem perm_map {α β : Type} {f : α → β} {L : List α} {out : List β} (h : out.Perm (L.map f)) : ∃ ls : List α, ls.Perm L ∧ out = ls.map f := by
  generalize hm : L.map f = m at h
  induction h generalizing L with
  | nil =>
    cases L with
    | nil => exact ⟨[], .refl _, rfl⟩
    | cons _ _ => simp at hm
  | cons x h ih =>
    cases L with
    | nil => simp at hm
    | cons k ks =>
      rw [List.map_cons] at hm
      obtain ⟨e1, e2⟩ := List.cons.inj hm
      obtain ⟨ls, pl, el⟩ := ih e2
      exact ⟨k :: ls, .cons _ pl, by rw [List.map_cons, e1, el]⟩
  | swap x y l =>
    cases L with
    | nil => simp at hm
    | cons k ks =>
      cases ks with
      | nil => simp at hm
      | cons j ks =>
        rw [List.map_cons, List.map_cons] at hm
        obtain ⟨e1, e2⟩ := List.cons.inj hm
        obtain ⟨e3, e4⟩ := List.cons.inj e2
        exact ⟨j :: k :: ks, .swap _ _ _, by rw [List.map_cons, List.map_cons, e1, e3, e4]⟩
  | trans h1 h2 ih1 ih2 =>
    obtain ⟨ls, pl, el⟩ := ih2 hm
    obtain ⟨ms, pm, em⟩ := ih1 el.symm
    exact ⟨ms, pm.trans pl, em⟩
def rev (l : Lk) : Lk := ⟨l.b, l.a, 0 - l.t, 0 - l.d⟩
def isKs (xs : List D) (dl : List Lk) : Prop := xs.length = dl.length ∧ ∀ (i : Nat) d, xs[i]? = some d → ∃ l, dl[i]? = some l ∧ isK d l
/-- distances, told as a list or a tuple -/
def isDs (x : D) (dl : List Lk) : Prop := ∃ xs, (x = .lst xs ∨ x = .tup xs) ∧ isKs xs dl
def allL (nl dl : List Lk) : List Lk := nl ++ dl.map rev
def quad (l : Lk) : List Int := [l.a, l.b, l.t, l.d]
theorem lkD_quad : lkD = fun l => tupI (quad l) := rfl
section
variable {P : Program} {w : World} {K : PySem.W.Frag} {mg : Str → Option Value} {base : Heap} {B : RB}
def F_links_with : ZF := fun ds wd Q => ∃ (n : Int) (nl : List Lk) (x : D) (dl : List Lk), ds = [.net n (linksD nl), x] ∧ isDs x dl ∧ (∀ l ∈ dl, okK n l) ∧ nl.length + dl.length ≤ 60 ∧ ∀ ls : List Lk, ls.Perm (allL nl dl) → Q (.dat (linksD ls)) wd
theorem len_links_with : ∀ ds wd Q, F_links_with ds wd Q → ds.length = 2 := fun ds wd Q ⟨a, _, _, _, e, _⟩ => by rw [e]; rfl
theorem sc_links_with : FnScope ["net", "distances", "index", "thing", "one", "other", "tokens", "most"] ["net", "distances"] (defScope Kp.s_links_with) := ⟨rfl, rfl, rfl, by decide +kernel, rfl, by decide +kernel, by decide +kernel⟩
theorem ok_links_with (T : Top K mg B) (hK : B.K = K) (A : AllDefs K mg) (G_is_list : ZDef P w K mg base B "is_list" 1 F_is_list) (G_is_arc : ZDef P w K mg base B "is_arc" 4 F_is_arc) : ZDef P w K mg base B "links_with" 5 F_links_with := by
  subst hK
  obtain ⟨f, fd, FD, hm⟩ := A 19 Kp.d_links_with rfl rfl
  have sc := sc_links_with
  refine zdef (k := 4) FD hm sc (fun _ _ _ _ _ _ us hl => match us, hl with | [_, _], _ => rfl) len_links_with fun cdv A0 outer s H E hr => ⟨_, (zs_cons (zs_if (z_not (z_val (z_E (z_call G_is_list (hr.mono (by decide)) (by rfl) (za_cons (zv 1) za_nil))))) (zs_one zs_never) zs_nil) (zs_cons (zs_for (zi_enumB (zv 1) T.enumerate) (zg_tup (n := 2) (zg_cons (zg_name 2 sc.nd) (zg_cons (zg_name 3 sc.nd) zg_nil))) (zs_one (zs_if (z_not (z_val (z_E (z_call G_is_arc (hr.mono (by decide)) (by rfl) (za_cons (zv 3) (za_cons (z_many (zv 0) T.cls T.many) za_nil)))))) (zs_one zs_never) zs_nil))) (zs_one (zs_ret (z_E (z_bi (cr_sortedQ (d := 3)) (l_sorted rfl) T.sorted (by decide +kernel) (za_cons (z_E (z_lst (za_star (z_links (zv 0) T.cls T.links) (za_star (z_E (z_comp (own := [("one", 4), ("other", 5), ("tokens", 6), ("most", 7)]) (zi_seq (zv 1)) (blkOk_by (by rfl)) (fun _ _ _ _ _ => (zg_tup (n := 4) (zg_cons (zg_name 4 sc.nd) (zg_cons (zg_name 5 sc.nd) (zg_cons (zg_name 6 sc.nd) (zg_cons (zg_name 7 sc.nd) zg_nil)))))) (fun _ _ _ _ _ => zts_nil) (fun _ _ _ _ _ => (z_tup (za_cons (zv 5) (za_cons (zv 4) (za_cons (z_op op_sub l_I0 zint (zv 6)) (za_cons (z_op op_sub l_I0 zint (zv 7)) za_nil)))))) sc.nd)) za_nil)))) za_nil))))))), fun ds wd Q h => ?_⟩
  obtain ⟨n, nl, x, dl, rfl, ⟨xs, hx, hl, hk⟩, ok, h60, q⟩ := h
  rcases hx with rfl | rfl
  · refine ⟨_, rfl, tyn rfl, ?_⟩
    refine ite2 (fun c => absurd (show false = true from c) (by decide)) fun _ => ?_
    refine ⟨fun i z => ∃ x2 x3, z = ⟨[some (.dat (.net n (linksD nl))), some (.dat (.lst xs)), x2, x3, none, none, none, none], wd⟩, ⟨_, _, rfl⟩, fun i d z hd ⟨x2, x3, hz⟩ => ?_, fun z ⟨x2, x3, hz⟩ => ?_⟩
    · subst hz
      rw [List.getElem?_mapIdx] at hd
      cases e : xs[i]? with
      | none => rw [e] at hd; cases hd
      | some u =>
        rw [e] at hd
        cases hd
        obtain ⟨l, hl2, hku⟩ := hk i u e
        exact ⟨rfl, rfl, _, l, n, rfl, hku, ok l (List.mem_of_getElem? hl2), ite2 (fun c => absurd c (by decide)) fun _ => ⟨_, _, rfl⟩⟩
    · subst hz
      refine fun _ => ⟨by rw [hl, sizeLine_eq]; omega, rfl, fun i acc w' => acc = ((dl.map rev).take i).map lkD ∧ wd = w', ⟨rfl, rfl⟩, fun i d acc w' hd ⟨ha, hw⟩ => ?_, fun acc w' ⟨ha, hw⟩ => ?_⟩
      · obtain ⟨l, hl2, hku⟩ := hk i d hd
        have hr : (dl.map rev)[i]? = some (rev l) := by rw [List.getElem?_map, hl2]; rfl
        have y : acc ++ [lkD (rev l)] = ((dl.map rev).take (i + 1)).map lkD := by rw [ha]; exact tkm hr
        rcases hku with rfl | rfl
        · exact ⟨rfl, rfl, rfl, rfl, Nat.le_trans (by decide : 4 ≤ 64) (by rw [sizeLine_eq]; omega), rfl, y, hw⟩
        · exact ⟨rfl, rfl, rfl, rfl, Nat.le_trans (by decide : 4 ≤ 64) (by rw [sizeLine_eq]; omega), rfl, y, hw⟩
      · rw [hl, List.take_of_length_le (by rw [List.length_map]; exact Nat.le_refl _)] at ha
        subst ha hw
        refine ⟨?_, (allL nl dl).map quad, ?_, fun ns hns => ?_, fun mss hm => ?_⟩
        · show (nl.map lkD ++ ((dl.map rev).map lkD ++ [])).length ≤ sizeLine
          rw [List.append_nil, List.length_append, List.length_map, List.length_map, List.length_map, sizeLine_eq]; omega
        · show nl.map lkD ++ ((dl.map rev).map lkD ++ []) = _
          rw [List.append_nil, ← List.map_append, List.map_map]
          rfl
        · obtain ⟨l, _, rfl⟩ := List.mem_map.mp hns
          rfl
        · obtain ⟨ls, pl, rfl⟩ := perm_map hm
          have := q ls pl
          unfold linksD at this
          rw [lkD_quad] at this
          show Q (.dat (.lst ((ls.map quad).map tupI))) wd
          rw [List.map_map]
          exact this
  · refine ⟨_, rfl, tyn rfl, ?_⟩
    refine ite2 (fun c => absurd (show false = true from c) (by decide)) fun _ => ?_
    refine ⟨fun i z => ∃ x2 x3, z = ⟨[some (.dat (.net n (linksD nl))), some (.dat (.tup xs)), x2, x3, none, none, none, none], wd⟩, ⟨_, _, rfl⟩, fun i d z hd ⟨x2, x3, hz⟩ => ?_, fun z ⟨x2, x3, hz⟩ => ?_⟩
    · subst hz
      rw [List.getElem?_mapIdx] at hd
      cases e : xs[i]? with
      | none => rw [e] at hd; cases hd
      | some u =>
        rw [e] at hd
        cases hd
        obtain ⟨l, hl2, hku⟩ := hk i u e
        exact ⟨rfl, rfl, _, l, n, rfl, hku, ok l (List.mem_of_getElem? hl2), ite2 (fun c => absurd c (by decide)) fun _ => ⟨_, _, rfl⟩⟩
    · subst hz
      refine fun _ => ⟨by rw [hl, sizeLine_eq]; omega, rfl, fun i acc w' => acc = ((dl.map rev).take i).map lkD ∧ wd = w', ⟨rfl, rfl⟩, fun i d acc w' hd ⟨ha, hw⟩ => ?_, fun acc w' ⟨ha, hw⟩ => ?_⟩
      · obtain ⟨l, hl2, hku⟩ := hk i d hd
        have hr : (dl.map rev)[i]? = some (rev l) := by rw [List.getElem?_map, hl2]; rfl
        have y : acc ++ [lkD (rev l)] = ((dl.map rev).take (i + 1)).map lkD := by rw [ha]; exact tkm hr
        rcases hku with rfl | rfl
        · exact ⟨rfl, rfl, rfl, rfl, Nat.le_trans (by decide : 4 ≤ 64) (by rw [sizeLine_eq]; omega), rfl, y, hw⟩
        · exact ⟨rfl, rfl, rfl, rfl, Nat.le_trans (by decide : 4 ≤ 64) (by rw [sizeLine_eq]; omega), rfl, y, hw⟩
      · rw [hl, List.take_of_length_le (by rw [List.length_map]; exact Nat.le_refl _)] at ha
        subst ha hw
        refine ⟨?_, (allL nl dl).map quad, ?_, fun ns hns => ?_, fun mss hm => ?_⟩
        · show (nl.map lkD ++ ((dl.map rev).map lkD ++ [])).length ≤ sizeLine
          rw [List.append_nil, List.length_append, List.length_map, List.length_map, List.length_map, sizeLine_eq]; omega
        · show nl.map lkD ++ ((dl.map rev).map lkD ++ []) = _
          rw [List.append_nil, ← List.map_append, List.map_map]
          rfl
        · obtain ⟨l, _, rfl⟩ := List.mem_map.mp hns
          rfl
        · obtain ⟨ls, pl, rfl⟩ := perm_map hm
          have := q ls pl
          unfold linksD at this
          rw [lkD_quad] at this
          show Q (.dat (.lst ((ls.map quad).map tupI))) wd
          rw [List.map_map]
          exact this
/-- a told net with told distances, in the draw's bounds -/
structure Told (n : Nat) (nl dl : List Lk) : Prop where
  net : NetOk n (allL nl dl)
  ok : ∀ l ∈ dl, okK n l
theorem Told.len {n : Nat} {nl dl : List Lk} (T : Told n nl dl) : nl.length + dl.length ≤ 15 := by
  have := T.net.l15
  unfold allL at this
  rw [List.length_append, List.length_map] at this
  exact this
def F_own_periods : ZF := fun ds wd Q => ∃ (n : Nat) (nl : List Lk) (x : D) (dl : List Lk), ds = [.net n (linksD nl), x] ∧ isDs x dl ∧ Told n nl dl ∧
  (Clash (allL nl dl) → Q (.dat .non) wd) ∧ (¬ Clash (allL nl dl) → ∀ fs, LowsOf n (allL nl dl) fs → Q (.own (.lst (fs.map frD))) wd)
theorem len_own_periods : ∀ ds wd Q, F_own_periods ds wd Q → ds.length = 2 := fun ds wd Q ⟨a, _, _, _, e, _⟩ => by rw [e]; rfl
theorem sc_own_periods : FnScope ["net", "distances", "links", "lowers", "ring"] ["net", "distances"] (defScope Kp.s_own_periods) := ⟨rfl, rfl, rfl, by decide +kernel, rfl, by decide +kernel, by decide +kernel⟩
theorem ok_own_periods (T : Top K mg B) (hK : B.K = K) (A : AllDefs K mg) (G_links_with : ZDef P w K mg base B "links_with" 5 F_links_with) (G_lower_rings : ZDef P w K mg base B "lower_rings" 3 F_lower_rings) (G_clash_of : ZDef P w K mg base B "clash_of" 3 F_clash_of) (G_asked : ZDef P w K mg base B "asked" 2 F_asked) : ZDef P w K mg base B "own_periods" 6 F_own_periods := by
  subst hK
  obtain ⟨f, fd, FD, hm⟩ := A 28 Kp.d_own_periods rfl rfl
  have sc := sc_own_periods
  refine zdef (k := 5) FD hm sc (fun _ _ _ _ _ _ us hl => match us, hl with | [_, _], _ => rfl) len_own_periods fun cdv A0 outer s H E hr => ⟨_, (zs_cons (zs_set (i := 2) (z_M (z_E (z_call G_links_with (hr.mono (by decide)) (by rfl) (za_cons (zv 0) (za_cons (zv 1) za_nil))))) sc.nd) (zs_cons (zs_set (i := 3) (z_M (z_E (z_call G_lower_rings (hr.mono (by decide)) (by rfl) (za_cons (z_many (zv 0) T.cls T.many) (za_cons (zv 2) za_nil))))) sc.nd) (zs_cons (zs_if (z_notNT (z_E (z_call G_clash_of (hr.mono (by decide)) (by rfl) (za_cons (zv 2) (za_cons (zv 3) za_nil))))) (zs_one (zs_ret znon)) zs_nil) (zs_one (zs_retM (z_comp (own := [("ring", 4)]) (zi_seq (zv 3)) (blkOk_by (by rfl)) (fun _ _ _ _ _ => (zg_name 4 sc.nd)) (fun _ _ _ _ _ => zts_nil) (fun _ _ _ _ _ => (z_E (z_call G_asked (hr.mono (by decide)) (by rfl) (za_cons (zv 4) za_nil)))) sc.nd)))))), fun ds wd Q h => ?_⟩
  obtain ⟨n, nl, x, dl, rfl, hx, T, q1, q2⟩ := h
  have hlen := T.len
  refine ⟨n, nl, x, dl, rfl, hx, T.ok, by omega, fun ls pl => ?_⟩
  have hm : ∀ l, l ∈ allL nl dl ↔ l ∈ ls := fun l => pl.mem_iff.symm
  have N : NetOk n ls := T.net.congr hm (by rw [pl.length_eq]; exact T.net.l15)
  refine ⟨n, ls, rfl, N, fun lows hl hb => ?_⟩
  refine ⟨n, ls, lows, rfl, N, hl, hb, fun c x y z => ?_, fun c => ?_⟩
  · refine ite2 (fun _ => q1 ((Clash.congr hm).mpr c)) fun z => absurd rfl z
  · refine ite2 (fun z => absurd (show (true != isNon .non) = true from z) (by decide)) fun _ => ?_
    refine fun hl1 => ⟨hl1, rfl, fun i acc w' => acc = (lows.take i).map (fun r => frD (asks r)) ∧ wd = w', ⟨rfl, rfl⟩, fun i d acc w' hd ⟨ha, hw⟩ => ?_, fun acc w' ⟨ha, hw⟩ => ?_⟩
    · obtain ⟨r, hr, rfl⟩ := gmap hd
      have b := hb i r hr
      have t0 : tokS r ≠ 0 := Int.ne_of_gt b.1.2.1
      have tb := N.tok b.1.1
      exact ⟨rfl, rfl, r, rfl, t0, by omega, rfl, by rw [ha]; exact tkm (f := fun r => frD (asks r)) hr, hw⟩
    · rw [List.length_map, List.take_length] at ha
      subst ha hw
      have := q2 (fun c2 => c ((Clash.congr hm).mp c2)) (lows.map asks) ⟨by rw [List.length_map]; exact hl, fun e f hf => ?_⟩
      · rw [List.map_map] at this; exact this
      · obtain ⟨r, hr, rfl⟩ := gmap hf
        exact ⟨r, (IsBest.congr hm).mpr (hb e r hr), rfl⟩
end
end Kz

set_option Elab.async false
set_option linter.all false
set_option autoImplicit false
/-! Plain law: the one period. -/
namespace Kz
def MinP (S : List Lk → Prop) : Option (List Lk) → Prop
  | none => ∀ r, ¬ S r
  | some r => S r ∧ ∀ r', S r' → below (asks r') (asks r) = false
theorem MinP.keep {S S' : List Lk → Prop} {o : Option (List Lk)} (h : MinP S o) (e : ∀ r, S r ↔ S' r) : MinP S' o := by
  cases o with
  | none => exact fun r hr => h r ((e r).mpr hr)
  | some r => exact ⟨(e r).mp h.1, fun r' hr => h.2 r' ((e r').mpr hr)⟩
theorem MinP.first {S S' : List Lk → Prop} {r : List Lk} (h : MinP S none) (e : ∀ x, S' x ↔ S x ∨ x = r) : MinP S' (some r) :=
  ⟨(e r).mpr (.inr rfl), fun x hx => by
    rcases (e x).mp hx with k | k
    · exact (h x k).elim
    · rw [k]; unfold below; rw [decide_eq_false_iff_not]; omega⟩
theorem MinP.up {S S' : List Lk → Prop} {q r : List Lk} (h : MinP S (some q)) (e : ∀ x, S' x ↔ S x ∨ x = r) (pos : ∀ x, S' x → 0 < (asks x).2) (b : below (asks r) (asks q) = true) : MinP S' (some r) :=
  ⟨(e r).mpr (.inr rfl), fun x hx => by
    rcases (e x).mp hx with k | k
    · exact below_trans (pos r ((e r).mpr (.inr rfl))) (pos q ((e q).mpr (.inl h.1))) (pos x hx) (below_asymm b) (h.2 x k)
    · rw [k]; unfold below; rw [decide_eq_false_iff_not]; omega⟩
theorem MinP.stay {S S' : List Lk → Prop} {q r : List Lk} (h : MinP S (some q)) (e : ∀ x, S' x ↔ S x ∨ x = r) (b : below (asks r) (asks q) = false) : MinP S' (some q) :=
  ⟨(e q).mpr (.inl h.1), fun x hx => by
    rcases (e x).mp hx with k | k
    · exact h.2 x k
    · rw [k]; exact b⟩
def TopS (ls : List Lk) (r : List Lk) : Prop := Ring ls r ∧ 0 < tokS r
def BotS (ls : List Lk) (r : List Lk) : Prop := Ring ls r ∧ tokS r < 0
def Stuck0 (ls : List Lk) : Prop := ∃ r, Ring ls r ∧ tokS r = 0 ∧ 0 < tikS r
/-- no one period will do -/
def PerEmpty (ls : List Lk) : Prop := Stuck0 ls ∨ ∃ lo up, BstP (TopS ls) (some lo) ∧ MinP (BotS ls) (some up) ∧ below (asks up) (asks lo) = true
theorem top_eq {ls : List Lk} {q r : List Lk} (h1 : BstP (TopS ls) (some q)) (h2 : BstP (TopS ls) (some r)) : asks q = asks r := by
  have a := h1.2 r h2.1
  have b := h2.2 q h1.1
  have tq : tokS q ≠ 0 := Int.ne_of_gt h1.1.2
  have tr : tokS r ≠ 0 := Int.ne_of_gt h2.1.2
  have Lq := low_lowest (a := tikS q) tq
  have Lr := low_lowest (a := tikS r) tr
  unfold below at a b
  rw [decide_eq_false_iff_not] at a b
  exact lowest_unique Lq.pos Lr.pos Lq.cop Lr.cop (show (asks q).1 * (asks r).2 = (asks r).1 * (asks q).2 by omega)
theorem bot_eq {ls : List Lk} {q r : List Lk} (h1 : MinP (BotS ls) (some q)) (h2 : MinP (BotS ls) (some r)) : asks q = asks r := by
  have a := h1.2 r h2.1
  have b := h2.2 q h1.1
  have tq : tokS q ≠ 0 := Int.ne_of_lt h1.1.2
  have tr : tokS r ≠ 0 := Int.ne_of_lt h2.1.2
  have Lq := low_lowest (a := tikS q) tq
  have Lr := low_lowest (a := tikS r) tr
  unfold below at a b
  rw [decide_eq_false_iff_not] at a b
  exact lowest_unique Lq.pos Lr.pos Lq.cop Lr.cop (show (asks q).1 * (asks r).2 = (asks r).1 * (asks q).2 by omega)
section
variable {ls ms : List Lk} (h : ∀ l, l ∈ ls ↔ l ∈ ms)
include h
theorem TopS.congr {r : List Lk} : TopS ls r ↔ TopS ms r := ⟨fun a => ⟨(Ring.congr h).mp a.1, a.2⟩, fun a => ⟨(Ring.congr h).mpr a.1, a.2⟩⟩
theorem BotS.congr {r : List Lk} : BotS ls r ↔ BotS ms r := ⟨fun a => ⟨(Ring.congr h).mp a.1, a.2⟩, fun a => ⟨(Ring.congr h).mpr a.1, a.2⟩⟩
theorem Stuck0.congr : Stuck0 ls ↔ Stuck0 ms := ⟨fun ⟨r, a, b⟩ => ⟨r, (Ring.congr h).mp a, b⟩, fun ⟨r, a, b⟩ => ⟨r, (Ring.congr h).mpr a, b⟩⟩
theorem PerEmpty.congr : PerEmpty ls ↔ PerEmpty ms := by
  unfold PerEmpty
  constructor
  · rintro (a | ⟨lo, up, a, b, c⟩)
    · exact .inl ((Stuck0.congr h).mp a)
    · exact .inr ⟨lo, up, a.keep fun r => TopS.congr h, b.keep fun r => BotS.congr h, c⟩
  · rintro (a | ⟨lo, up, a, b, c⟩)
    · exact .inl ((Stuck0.congr h).mpr a)
    · exact .inr ⟨lo, up, a.keep fun r => (TopS.congr h).symm, b.keep fun r => (BotS.congr h).symm, c⟩
end
end Kz

set_option Elab.async false
set_option linter.all false
set_option maxRecDepth 100000
set_option maxHeartbeats 4000000
set_option autoImplicit false
/-! The one period. -/
namespace Kz
open PySem PySem.Spec PyProof.Rows L2
section
variable {P : Program} {w : World} {K : PySem.W.Frag} {mg : Str → Option Value} {base : Heap} {B : RB}
def NeverP (rs : List (List Lk)) : Option (List Lk) → Prop
  | none => ∀ r ∈ rs, ¬ (tokS r = 0 ∧ 0 < tikS r)
  | some r => r ∈ rs ∧ tokS r = 0 ∧ 0 < tikS r
def F_bounds_of : ZF := fun ds wd Q => ∃ (n : Nat) (ls : List Lk) (rs : List (List Lk)), ds = [.lst (rs.map ringD)] ∧ NetOk n ls ∧ (∀ r ∈ rs, Ring ls r) ∧
  ∀ lo up ne, BstP (fun r => r ∈ rs ∧ 0 < tokS r) lo → MinP (fun r => r ∈ rs ∧ tokS r < 0) up → NeverP rs ne → Q (.dat (.tup [optD lo, optD up, optD ne])) wd
theorem len_bounds_of : ∀ ds wd Q, F_bounds_of ds wd Q → ds.length = 1 := fun ds wd Q ⟨a, _, _, e, _⟩ => by rw [e]; rfl
theorem smf {n : Nat} {ls r : List Lk} (N : NetOk n ls) (h : Ring ls r) (ht : tokS r ≠ 0) : sm (low (tikS r) (tokS r)).2 := by
  have := N.asks h ht
  unfold Kz.asks at this
  exact ⟨by omega, by omega⟩
theorem sc_bounds_of : FnScope ["rings", "lower", "upper", "never", "ring", "ticks", "tokens"] ["rings"] (defScope Kp.s_bounds_of) := ⟨rfl, rfl, rfl, by decide +kernel, rfl, by decide +kernel, by decide +kernel⟩
theorem ok_bounds_of (T : Top K mg B) (hK : B.K = K) (A : AllDefs K mg) (G_sums_of : ZDef P w K mg base B "sums_of" 1 F_sums_of) (G_is_below : ZDef P w K mg base B "is_below" 1 F_is_below) (G_asked : ZDef P w K mg base B "asked" 2 F_asked) : ZDef P w K mg base B "bounds_of" 3 F_bounds_of := by
  subst hK
  obtain ⟨f, fd, FD, hm⟩ := A 20 Kp.d_bounds_of rfl rfl
  have sc := sc_bounds_of
  refine zdef (k := 2) FD hm sc (fun _ _ _ _ _ _ us hl => match us, hl with | [_], _ => rfl) len_bounds_of fun cdv A0 outer s H E hr => ⟨_, (zs_cons (zs_asg (z_tup (za_cons znon (za_cons znon (za_cons znon za_nil)))) (zg_tup (n := 3) (zg_cons (zg_name 1 sc.nd) (zg_cons (zg_name 2 sc.nd) (zg_cons (zg_name 3 sc.nd) zg_nil))))) (zs_cons (zs_for (zi_seq (zv 0)) (zg_name 4 sc.nd) (zs_cons (zs_asg (z_E (z_call G_sums_of (hr.mono (by decide)) (by rfl) (za_cons (zv 4) za_nil))) (zg_tup (n := 2) (zg_cons (zg_name 5 sc.nd) (zg_cons (zg_name 6 sc.nd) zg_nil)))) (zs_cons (zs_if (PW.pt (z_and (z_cmpT op_gt l_B0 (zv 6) zint (nomark _)) (z_and1 (PW.pt (z_or (z_isNT (zv 1)) (z_or1 (z_val (z_E (z_call G_is_below (hr.mono (by decide)) (by rfl) (za_cons (z_E (z_call G_asked (hr.mono (by decide)) (by rfl) (za_cons (zv 1) za_nil))) (za_cons (z_E (z_call G_asked (hr.mono (by decide)) (by rfl) (za_cons (zv 4) za_nil))) za_nil))))))))))) (zs_one (zs_set (i := 1) (z_M (zv 4)) sc.nd)) zs_nil) (zs_cons (zs_if (PW.pt (z_and (z_cmpT op_lt l_B0 (zv 6) zint (nomark _)) (z_and1 (PW.pt (z_or (z_isNT (zv 2)) (z_or1 (z_val (z_E (z_call G_is_below (hr.mono (by decide)) (by rfl) (za_cons (z_E (z_call G_asked (hr.mono (by decide)) (by rfl) (za_cons (zv 4) za_nil))) (za_cons (z_E (z_call G_asked (hr.mono (by decide)) (by rfl) (za_cons (zv 2) za_nil))) za_nil))))))))))) (zs_one (zs_set (i := 2) (z_M (zv 4)) sc.nd)) zs_nil) (zs_one (zs_if (PW.pt (z_and (z_cmpT op_eq l_eq (zv 6) zint (nomark _)) (z_and (z_cmpT op_gt l_B0 (zv 5) zint (nomark _)) (z_and1 (z_isNT (zv 3)))))) (zs_one (zs_set (i := 3) (z_M (zv 4)) sc.nd)) zs_nil)))))) (zs_one (zs_ret (z_tup (za_cons (zv 1) (za_cons (zv 2) (za_cons (zv 3) za_nil)))))))), fun ds wd Q h => ?_⟩
  obtain ⟨n, ls, rs, rfl, N, hr, q⟩ := h
  refine ⟨size3, rfl, rfl, ?_⟩
  refine fun hl1 => ⟨fun i z => ∃ lo up ne x4 x5 x6, z = ⟨[some (.dat (.lst (rs.map ringD))), some (.dat (optD lo)), some (.dat (optD up)), some (.dat (optD ne)), x4, x5, x6], wd⟩ ∧ BstP (fun r => r ∈ rs.take i ∧ 0 < tokS r) lo ∧ MinP (fun r => r ∈ rs.take i ∧ tokS r < 0) up ∧ NeverP (rs.take i) ne,
    ⟨none, none, none, _, _, _, rfl, fun r h => absurd h.1 (by simp), fun r h => absurd h.1 (by simp), fun r h => absurd h (by simp)⟩, fun i d z hd ⟨lo, up, ne, x4, x5, x6, hz, h1, h2, h3⟩ => ?_, fun z ⟨lo, up, ne, x4, x5, x6, hz, h1, h2, h3⟩ => ?_⟩
  · subst hz
    obtain ⟨r, hri, rfl⟩ := gmap hd
    have ring := hr r (List.mem_of_getElem? hri)
    have tb := N.tok ring
    have mem : ∀ x, x ∈ rs.take (i + 1) ↔ x ∈ rs.take i ∨ x = r := fun x => by rw [tk1 hri, List.mem_append, List.mem_singleton]
    have inr : ∀ x, x ∈ rs.take i → Ring ls x := fun x hx => hr x (List.mem_of_mem_take hx)
    have inr' : ∀ x, x ∈ rs.take (i + 1) → Ring ls x := fun x hx => hr x (List.mem_of_mem_take hx)
    -- the third statement, then the turn's end
    refine ⟨r, rfl, rfl, rfl, ?_⟩
    have up1 : 0 < tokS r → ∀ x, (x ∈ rs.take (i + 1) ∧ 0 < tokS x) ↔ (x ∈ rs.take i ∧ 0 < tokS x) ∨ x = r := fun hp x => by
      rw [mem]
      constructor
      · rintro ⟨h | h, h2⟩
        · exact .inl ⟨h, h2⟩
        · exact .inr h
      · rintro (⟨h, h2⟩ | h)
        · exact ⟨.inl h, h2⟩
        · exact ⟨.inr h, by rw [h]; exact hp⟩
    have up0 : ¬ 0 < tokS r → ∀ x, (x ∈ rs.take i ∧ 0 < tokS x) ↔ (x ∈ rs.take (i + 1) ∧ 0 < tokS x) := fun hp x => by
      rw [mem]
      constructor
      · rintro ⟨h, h2⟩; exact ⟨.inl h, h2⟩
      · rintro ⟨h | h, h2⟩
        · exact ⟨h, h2⟩
        · rw [h] at h2; exact (hp h2).elim
    have dn1 : tokS r < 0 → ∀ x, (x ∈ rs.take (i + 1) ∧ tokS x < 0) ↔ (x ∈ rs.take i ∧ tokS x < 0) ∨ x = r := fun hp x => by
      rw [mem]
      constructor
      · rintro ⟨h | h, h2⟩
        · exact .inl ⟨h, h2⟩
        · exact .inr h
      · rintro (⟨h, h2⟩ | h)
        · exact ⟨.inl h, h2⟩
        · exact ⟨.inr h, by rw [h]; exact hp⟩
    have dn0 : ¬ tokS r < 0 → ∀ x, (x ∈ rs.take i ∧ tokS x < 0) ↔ (x ∈ rs.take (i + 1) ∧ tokS x < 0) := fun hp x => by
      rw [mem]
      constructor
      · rintro ⟨h, h2⟩; exact ⟨.inl h, h2⟩
      · rintro ⟨h | h, h2⟩
        · exact ⟨h, h2⟩
        · rw [h] at h2; exact (hp h2).elim
    have st3 : ∀ (rt : SV → Z → Prop) (bk ct : Z → Prop) lo up ne, BstP (fun r => r ∈ rs.take (i + 1) ∧ 0 < tokS r) lo → MinP (fun r => r ∈ rs.take (i + 1) ∧ tokS r < 0) up → NeverP (rs.take i) ne →
        zIfS (zAnd (zB (zBin (zEq false) (zVar 6) (zC (.int 0)))) (zAnd (zB (zBin (zI0 fun i j => .bl (decide (j < i))) (zVar 5) (zC (.int 0)))) (zB (zIsN false (zVar 3))))) (zSet 3 (zMd (zVar 4))) zNext
          ⟨fun z => ∃ lo up ne x4 x5 x6, z = ⟨[some (.dat (.lst (rs.map ringD))), some (.dat (optD lo)), some (.dat (optD up)), some (.dat (optD ne)), x4, x5, x6], wd⟩ ∧ BstP (fun r => r ∈ rs.take (i + 1) ∧ 0 < tokS r) lo ∧ MinP (fun r => r ∈ rs.take (i + 1) ∧ tokS r < 0) up ∧ NeverP (rs.take (i + 1)) ne, rt, bk, ct⟩
          ⟨[some (.dat (.lst (rs.map ringD))), some (.dat (optD lo)), some (.dat (optD up)), some (.dat (optD ne)), some (.dat (ringD r)), some (.dat (.int (tikS r))), some (.dat (.int (tokS r)))], wd⟩ := by
      intro rt bk ct lo up ne b1 b2 b3
      have nev : ¬ (tokS r = 0 ∧ 0 < tikS r) → NeverP (rs.take (i + 1)) ne := fun hn => by
        cases ne with
        | none =>
          intro x hx
          rcases (mem x).mp hx with h | h
          · exact b3 x h
          · rw [h]; exact hn
        | some y => exact ⟨(mem y).mpr (.inl b3.1), b3.2⟩
      refine ite2 (fun c => ?_) fun c => ?_
      · have c0 : tokS r = 0 := by simpa using c
        refine ite2 (fun c2 => ?_) fun c2 => ?_
        · have c2 : 0 < tikS r := by simpa using c2
          cases ne with
          | none =>
            exact ⟨lo, up, some r, _, _, _, rfl, b1, b2, (mem r).mpr (.inr rfl), c0, c2⟩
          | some y =>
            exact ⟨lo, up, some y, _, _, _, rfl, b1, b2, (mem y).mpr (.inl b3.1), b3.2⟩
        · exact ⟨lo, up, ne, _, _, _, rfl, b1, b2, nev fun h => c2 (decide_eq_true h.2)⟩
      · exact ⟨lo, up, ne, _, _, _, rfl, b1, b2, nev fun h => c (by rw [h.1]; rfl)⟩
    have st2 : ∀ (rt : SV → Z → Prop) (bk ct : Z → Prop) lo, BstP (fun r => r ∈ rs.take (i + 1) ∧ 0 < tokS r) lo →
        zIfS (zAnd (zB (zBin (zI0 fun i j => .bl (decide (i < j))) (zVar 6) (zC (.int 0)))) (zOr (zB (zIsN false (zVar 2))) (zB (zAd (zCall F_is_below (zCons (zAd (zCall F_asked (zCons (zVar 4) zNil))) (zCons (zAd (zCall F_asked (zCons (zVar 2) zNil))) zNil))))))) (zSet 2 (zMd (zVar 4))) zNext
          ⟨zIfS (zAnd (zB (zBin (zEq false) (zVar 6) (zC (.int 0)))) (zAnd (zB (zBin (zI0 fun i j => .bl (decide (j < i))) (zVar 5) (zC (.int 0)))) (zB (zIsN false (zVar 3))))) (zSet 3 (zMd (zVar 4))) zNext
          ⟨fun z => ∃ lo up ne x4 x5 x6, z = ⟨[some (.dat (.lst (rs.map ringD))), some (.dat (optD lo)), some (.dat (optD up)), some (.dat (optD ne)), x4, x5, x6], wd⟩ ∧ BstP (fun r => r ∈ rs.take (i + 1) ∧ 0 < tokS r) lo ∧ MinP (fun r => r ∈ rs.take (i + 1) ∧ tokS r < 0) up ∧ NeverP (rs.take (i + 1)) ne, rt, bk, ct⟩, rt, bk, ct⟩
          ⟨[some (.dat (.lst (rs.map ringD))), some (.dat (optD lo)), some (.dat (optD up)), some (.dat (optD ne)), some (.dat (ringD r)), some (.dat (.int (tikS r))), some (.dat (.int (tokS r)))], wd⟩ := by
      intro rt bk ct lo b1
      refine ite2 (fun c => ?_) fun c => ?_
      · have ht : tokS r < 0 := by simpa using c
        cases up with
        | none =>
          exact st3 rt bk ct lo (some r) ne b1 (h2.first (dn1 ht)) h3
        | some y =>
          have yr := inr y h2.1.1
          have ty := N.tok yr
          refine ⟨r, rfl, Int.ne_of_lt ht, by omega, y, rfl, Int.ne_of_lt h2.1.2, by omega, _, _, _, _, rfl, isF_frD _, isF_frD _, smf N ring (Int.ne_of_lt ht), smf N yr (Int.ne_of_lt h2.1.2), ?_⟩
          refine ite2 (fun c3 => ?_) fun c3 => ?_
          · exact st3 rt bk ct lo (some r) ne b1 (h2.up (dn1 ht) (fun x hx => asks_pos (Int.ne_of_lt hx.2)) c3) h3
          · exact st3 rt bk ct lo (some y) ne b1 (h2.stay (dn1 ht) (Bool.eq_false_iff.mpr c3)) h3
      · exact st3 rt bk ct lo up ne b1 (h2.keep (dn0 fun h => c (decide_eq_true h))) h3
    refine ite2 (fun c => ?_) fun c => ?_
    · have ht : 0 < tokS r := by simpa using c
      cases lo with
      | none =>
        exact st2 _ _ _ (some r) (h1.first (up1 ht))
      | some y =>
        have yr := inr y h1.1.1
        have ty := N.tok yr
        refine ⟨y, rfl, Int.ne_of_gt h1.1.2, by omega, r, rfl, Int.ne_of_gt ht, by omega, _, _, _, _, rfl, isF_frD _, isF_frD _, smf N yr (Int.ne_of_gt h1.1.2), smf N ring (Int.ne_of_gt ht), ?_⟩
        refine ite2 (fun c3 => ?_) fun c3 => ?_
        · exact st2 _ _ _ (some r) (h1.up (up1 ht) (fun x hx => asks_pos (Int.ne_of_gt hx.2)) c3)
        · exact st2 _ _ _ (some y) (h1.stay (up1 ht) (Bool.eq_false_iff.mpr c3))
    · exact st2 _ _ _ lo (h1.keep (up0 fun h => c (decide_eq_true h)))
  · subst hz
    rw [List.length_map, List.take_length] at h1 h2 h3
    exact ⟨size3, q lo up ne h1 h2 h3⟩
def upB : Option (List Lk) → List Lk → Bool
  | some u, lo => below (asks u) (asks lo)
  | none, _ => false
def F_is_empty : ZF := fun ds wd Q => ∃ (n : Nat) (ls : List Lk) (lo : List Lk) (up ne : Option (List Lk)), ds = [ringD lo, optD up, optD ne] ∧ NetOk n ls ∧ TopS ls lo ∧ (∀ u, up = some u → BotS ls u) ∧
  Q (.dat (.bl (ne.isSome || upB up lo))) wd
theorem len_is_empty : ∀ ds wd Q, F_is_empty ds wd Q → ds.length = 3 := fun ds wd Q ⟨a, _, _, _, _, e, _⟩ => by rw [e]; rfl
theorem sc_is_empty : FnScope ["lower", "upper", "never"] ["lower", "upper", "never"] (defScope Kp.s_is_empty) := ⟨rfl, rfl, rfl, by decide +kernel, rfl, by decide +kernel, by decide +kernel⟩
theorem ok_is_empty (T : Top K mg B) (hK : B.K = K) (A : AllDefs K mg) (G_is_below : ZDef P w K mg base B "is_below" 1 F_is_below) (G_asked : ZDef P w K mg base B "asked" 2 F_asked) : ZDef P w K mg base B "is_empty" 3 F_is_empty := by
  subst hK
  obtain ⟨f, fd, FD, hm⟩ := A 22 Kp.d_is_empty rfl rfl
  have sc := sc_is_empty
  refine zdef (k := 2) FD hm sc (fun _ _ _ _ _ _ us hl => match us, hl with | [_, _, _], _ => rfl) len_is_empty fun cdv A0 outer s H E hr => ⟨_, (zs_one (zs_ret (z_orV (z_notN (zv 2)) (z_one (z_andV (z_notN (zv 1)) (z_one (z_E (z_call G_is_below (hr.mono (by decide)) (by rfl) (za_cons (z_E (z_call G_asked (hr.mono (by decide)) (by rfl) (za_cons (zv 1) za_nil))) (za_cons (z_E (z_call G_asked (hr.mono (by decide)) (by rfl) (za_cons (zv 0) za_nil))) za_nil)))))))))), fun ds wd Q h => ?_⟩
  obtain ⟨n, ls, lo, up, ne, rfl, N, h1, h2, q⟩ := h
  have tl := N.tok h1.1
  cases ne with
  | some y => exact q
  | none =>
    cases up with
    | none => exact q
    | some u =>
      have hu := h2 u rfl
      have tu := N.tok hu.1
      exact ⟨u, rfl, Int.ne_of_lt hu.2, by omega, lo, rfl, Int.ne_of_gt h1.2, by omega, _, _, _, _, rfl, isF_frD _, isF_frD _, smf N hu.1 (Int.ne_of_lt hu.2), smf N h1.1 (Int.ne_of_gt h1.2), q⟩
def F_periods : ZF := fun ds wd Q => ∃ (n : Nat) (nl : List Lk) (x : D) (dl : List Lk), ds = [.net n (linksD nl), x] ∧ isDs x dl ∧ Told n nl dl ∧
  (PerEmpty (allL nl dl) → Q (.dat .non) wd) ∧ (¬ PerEmpty (allL nl dl) → ∀ lo u, BstP (TopS (allL nl dl)) (some lo) → Q (.dat (.tup [frD (asks lo), u])) wd)
theorem len_periods : ∀ ds wd Q, F_periods ds wd Q → ds.length = 2 := fun ds wd Q ⟨a, _, _, _, e, _⟩ => by rw [e]; rfl
theorem sc_periods : FnScope ["net", "distances", "lower", "upper", "never"] ["net", "distances"] (defScope Kp.s_periods) := ⟨rfl, rfl, rfl, by decide +kernel, rfl, by decide +kernel, by decide +kernel⟩
theorem ok_periods (T : Top K mg B) (hK : B.K = K) (A : AllDefs K mg) (G_bounds_of : ZDef P w K mg base B "bounds_of" 3 F_bounds_of) (G_rings_of : ZDef P w K mg base B "rings_of" 2 F_rings_of) (G_links_with : ZDef P w K mg base B "links_with" 5 F_links_with) (G_is_empty : ZDef P w K mg base B "is_empty" 3 F_is_empty) (G_asked : ZDef P w K mg base B "asked" 2 F_asked) : ZDef P w K mg base B "periods" 6 F_periods := by
  subst hK
  obtain ⟨f, fd, FD, hm⟩ := A 23 Kp.d_periods rfl rfl
  have sc := sc_periods
  refine zdef (k := 5) FD hm sc (fun _ _ _ _ _ _ us hl => match us, hl with | [_, _], _ => rfl) len_periods fun cdv A0 outer s H E hr => ⟨_, (zs_cons (zs_asg (z_E (z_call G_bounds_of (hr.mono (by decide)) (by rfl) (za_cons (z_E (z_call G_rings_of (hr.mono (by decide)) (by rfl) (za_cons (z_E (z_call G_links_with (hr.mono (by decide)) (by rfl) (za_cons (zv 0) (za_cons (zv 1) za_nil)))) za_nil))) za_nil))) (zg_tup (n := 3) (zg_cons (zg_name 2 sc.nd) (zg_cons (zg_name 3 sc.nd) (zg_cons (zg_name 4 sc.nd) zg_nil))))) (zs_cons (zs_if (z_val (z_E (z_call G_is_empty (hr.mono (by decide)) (by rfl) (za_cons (zv 2) (za_cons (zv 3) (za_cons (zv 4) za_nil)))))) (zs_one (zs_ret znon)) zs_nil) (zs_one (zs_ret (z_tup (za_cons (z_E (z_call G_asked (hr.mono (by decide)) (by rfl) (za_cons (zv 2) za_nil))) (za_cons (z_if (z_notNT (zv 3)) (z_E (z_call G_asked (hr.mono (by decide)) (by rfl) (za_cons (zv 3) za_nil))) znon) za_nil))))))), fun ds wd Q h => ?_⟩
  obtain ⟨n, nl, x, dl, rfl, hx, T, q1, q2⟩ := h
  have hlen := T.len
  refine ⟨n, nl, x, dl, rfl, hx, T.ok, by omega, fun ls pl => ?_⟩
  have hm : ∀ l, l ∈ allL nl dl ↔ l ∈ ls := fun l => pl.mem_iff.symm
  have N : NetOk n ls := T.net.congr hm (by rw [pl.length_eq]; exact T.net.l15)
  refine ⟨ls, n, rfl, N.n5, N.l15, N.inn, fun rs hrs hrl => ?_⟩
  refine ⟨n, ls, rs, rfl, N, fun r hr => (hrs r).mp hr, fun lo up ne h1 h2 h3 => ?_⟩
  refine ⟨rfl, rfl, ?_⟩
  have h1 : BstP (TopS ls) lo := h1.keep fun r => ⟨fun h => ⟨(hrs r).mp h.1, h.2⟩, fun h => ⟨(hrs r).mpr h.1, h.2⟩⟩
  have h2 : MinP (BotS ls) up := h2.keep fun r => ⟨fun h => ⟨(hrs r).mp h.1, h.2⟩, fun h => ⟨(hrs r).mpr h.1, h.2⟩⟩
  cases lo with
  | none =>
    have n0 := N.n0
    exact (h1 _ ⟨self_ring (N.self 0 (Int.le_refl _) (by omega)), show (0 : Int) < 1 + 0 by omega⟩).elim
  | some lo =>
    refine ⟨n, ls, lo, up, ne, rfl, N, h1.1, fun u hu => by subst hu; exact h2.1, ?_⟩
    have emp : (ne.isSome || upB up lo) = true ↔ PerEmpty ls := by
      rw [Bool.or_eq_true]
      constructor
      · rintro (h | h)
        · cases ne with
          | none => simp at h
          | some y => exact .inl ⟨y, (hrs y).mp h3.1, h3.2⟩
        · cases up with
          | none => exact absurd (show false = true from h) (by decide)
          | some u => exact .inr ⟨lo, u, h1, h2, h⟩
      · rintro (⟨r, a, b⟩ | ⟨lo', up', a, b, c⟩)
        · cases ne with
          | none => exact (h3 r ((hrs r).mpr a) b).elim
          | some y => exact .inl rfl
        · cases up with
          | none => exact (h2 up' b.1).elim
          | some u =>
            refine .inr ?_
            rw [top_eq a h1, bot_eq b h2] at c
            exact c
    have tl := N.tok h1.1.1
    refine ite2 (fun c => ?_) fun c => ?_
    · exact q1 ((PerEmpty.congr hm).mpr (emp.mp c))
    · have ne0 : ¬ PerEmpty (allL nl dl) := fun h => c (emp.mpr ((PerEmpty.congr hm).mp h))
      have b : BstP (TopS (allL nl dl)) (some lo) := h1.keep fun r => (TopS.congr hm).symm
      refine ⟨lo, rfl, Int.ne_of_gt h1.1.2, by omega, ?_⟩
      cases up with
      | none => exact ⟨size2, q2 ne0 lo _ b⟩
      | some u =>
        have tu := N.tok h2.1.1
        exact ⟨u, rfl, Int.ne_of_lt h2.1.2, by omega, size2, q2 ne0 lo _ b⟩
end
end Kz

set_option Elab.async false
set_option linter.all false
set_option autoImplicit false
/-! Plain law: walks, their weights; without a ring of weight above nothing the longest walks are short. -/
namespace Kz
def val (w : Lk → Int) (p : List Lk) : Int := (p.map w).sum
theorem val_app (w : Lk → Int) (p q : List Lk) : val w (p ++ q) = val w p + val w q := by unfold val; rw [List.map_append, List.sum_append]
theorem val_cons (w : Lk → Int) (l : Lk) (q : List Lk) : val w (l :: q) = w l + val w q := rfl
theorem dup_split : ∀ {l : List Int}, ¬ l.Nodup → ∃ a x b c, l = a ++ x :: (b ++ x :: c)
  | [], h => (h List.nodup_nil).elim
  | y :: l, h => by
    by_cases m : y ∈ l
    · obtain ⟨b, c, e⟩ := List.append_of_mem m
      exact ⟨[], y, b, c, by rw [e]; rfl⟩
    · obtain ⟨a, x, b, c, e⟩ := dup_split (l := l) fun n => h (List.nodup_cons.mpr ⟨m, n⟩)
      exact ⟨y :: a, x, b, c, by rw [e]; rfl⟩
theorem hs_split {p : List Lk} {a b c : List Int} {x : Int} (h : hs p = a ++ x :: (b ++ x :: c)) : ∃ p1 l p2 m p3, p = p1 ++ l :: (p2 ++ m :: p3) ∧ l.a = x ∧ m.a = x := by
  unfold hs at h
  obtain ⟨p1, q, e1, _, h2⟩ := List.map_eq_append_iff.mp h
  obtain ⟨l, q2, e2, hl, h3⟩ := List.map_eq_cons_iff.mp h2
  obtain ⟨p2, q3, e3, _, h4⟩ := List.map_eq_append_iff.mp h3
  obtain ⟨m, p3, e4, hm, _⟩ := List.map_eq_cons_iff.mp h4
  exact ⟨p1, l, p2, m, p3, by rw [e1, e2, e3, e4], hl, hm⟩
theorem chain_tl {l : Lk} {q : List Lk} {p : List Lk} (h : chain (p ++ l :: q)) : chain (l :: q) := by
  cases p with
  | nil => exact h
  | cons x p => exact ((chain_app l q (x :: p) (by simp)).mp h).2.2
theorem chain_hd {l : Lk} {q : List Lk} {p : List Lk} (h : chain (p ++ l :: q)) : chain p ∧ (p = [] ∨ endO p = l.a) := by
  cases p with
  | nil => exact ⟨trivial, .inl rfl⟩
  | cons x p =>
    have := (chain_app l q (x :: p) (by simp)).mp h
    exact ⟨this.1, .inr this.2.1⟩
theorem chain_mk {l : Lk} {q : List Lk} {p : List Lk} (h1 : chain p) (h2 : p = [] ∨ endO p = l.a) (h3 : chain (l :: q)) : chain (p ++ l :: q) := by
  cases p with
  | nil => exact h3
  | cons x p => exact (chain_app l q (x :: p) (by simp)).mpr ⟨h1, h2.resolve_left (by simp), h3⟩
/-- a piece that comes back to where it begins -/
def closed (p : List Lk) : Prop := ∃ l r, p = l :: r ∧ endO p = l.a
theorem cut_mid {p1 p2 p3 : List Lk} {l m : Lk} (h : chain (p1 ++ l :: (p2 ++ m :: p3))) (e : l.a = m.a) : chain (l :: p2) ∧ endO (l :: p2) = l.a ∧ chain (p1 ++ m :: p3) ∧ endO (p1 ++ l :: (p2 ++ m :: p3)) = endO (p1 ++ m :: p3) := by
  have c1 := chain_tl h
  obtain ⟨c2, c3⟩ := chain_hd h
  obtain ⟨c4, c5⟩ := chain_hd (p := l :: p2) (l := m) (q := p3) c1
  have c6 := chain_tl (p := l :: p2) (l := m) (q := p3) c1
  refine ⟨c4, ?_, chain_mk c2 (by rw [← e]; exact c3) c6, ?_⟩
  · rw [e]; exact c5.resolve_left (by simp)
  · rw [endO_app, endO_app, show l :: (p2 ++ m :: p3) = (l :: p2) ++ m :: p3 from rfl, endO_app]
theorem least_of : ∀ {p : List Lk}, p ≠ [] → ∃ l ∈ p, ∀ m ∈ p, l.a ≤ m.a
  | [], h => (h rfl).elim
  | [l], _ => ⟨l, List.mem_singleton.mpr rfl, fun m hm => by rw [List.mem_singleton.mp hm]; exact Int.le_refl _⟩
  | l :: k :: p, _ => by
    obtain ⟨x, hx, h⟩ := least_of (p := k :: p) (by simp)
    by_cases c : l.a ≤ x.a
    · refine ⟨l, List.mem_cons_self, fun m hm => ?_⟩
      rcases List.mem_cons.mp hm with e | hm
      · rw [e]; exact Int.le_refl _
      · have := h m hm; omega
    · refine ⟨x, List.mem_cons_of_mem _ hx, fun m hm => ?_⟩
      rcases List.mem_cons.mp hm with e | hm
      · rw [e]; omega
      · exact h m hm
theorem ring_of_closed {ls p : List Lk} (hs_ : ∀ l ∈ p, l ∈ ls) (hc : chain p) (cl : closed p) (nd : (hs p).Nodup) : ∃ r, Ring ls r ∧ r.Perm p := by
  obtain ⟨x, s, ep, ee⟩ := cl
  obtain ⟨l, hl, hmin⟩ := least_of (p := p) (by rw [ep]; simp)
  obtain ⟨u, v, e⟩ := List.append_of_mem hl
  have pm : ((l :: v) ++ u).Perm p := by rw [e]; exact List.perm_append_comm
  refine ⟨(l :: v) ++ u, ⟨l.a, ⟨⟨l, v ++ u, rfl, rfl⟩, fun y hy => hs_ y (pm.mem_iff.mp hy), ?_, ?_, fun y hy => hmin y (pm.mem_iff.mp hy)⟩, ?_⟩, pm⟩
  · rw [e] at hc
    have c1 := chain_tl hc
    cases u with
    | nil => rw [List.append_nil]; exact c1
    | cons y u =>
      have c2 := (chain_hd hc).1
      refine chain_mk c1 (.inr ?_) c2
      rw [e, List.cons_append] at ep
      have : endO (l :: v) = x.a := by rw [← ee, e]; exact (endO_app l v (y :: u)).symm
      rw [this, (List.cons.inj ep).1]
  · exact (pm.map Lk.a).nodup_iff.mpr nd
  · cases u with
    | nil =>
      rw [List.append_nil]
      rw [e, List.nil_append] at ep
      rw [e, List.nil_append] at ee
      rw [ee, (List.cons.inj ep).1]
    | cons y u =>
      rw [endO_app]
      rw [e] at hc
      exact (chain_hd hc).2.resolve_left (by simp)
theorem val_perm {w : Lk → Int} {p q : List Lk} (h : p.Perm q) : val w p = val w q := by
  unfold val
  induction h with
  | nil => rfl
  | cons x _ ih => rw [List.map_cons, List.map_cons, List.sum_cons, List.sum_cons, ih]
  | swap x y l => simp only [List.map_cons, List.sum_cons]; omega
  | trans _ _ a b => exact a.trans b
theorem closed_le {ls : List Lk} {w : Lk → Int} (R : ∀ r, Ring ls r → val w r ≤ 0) : ∀ (k : Nat) (p : List Lk), p.length ≤ k → (∀ l ∈ p, l ∈ ls) → chain p → closed p → val w p ≤ 0
  | 0, p, hk, _, _, ⟨l, r, e, _⟩ => by rw [e] at hk; simp at hk
  | k + 1, p, hk, hsub, hc, cl => by
    by_cases nd : (hs p).Nodup
    · obtain ⟨r, hr, pm⟩ := ring_of_closed hsub hc cl nd
      rw [← val_perm pm]
      exact R r hr
    · obtain ⟨a, x, b, c, e⟩ := dup_split nd
      obtain ⟨p1, l, p2, m, p3, ep, el, em⟩ := hs_split e
      rw [ep] at hc hsub hk
      obtain ⟨c1, c2, c3, c4⟩ := cut_mid hc (el.trans em.symm)
      obtain ⟨y, s, ey, ee⟩ := cl
      have v1 : val w (l :: p2) ≤ 0 := closed_le R k (l :: p2) (by simp at hk ⊢; omega) (fun z hz => hsub z (by simp at hz ⊢; rcases hz with h | h; exact .inr (.inl h); exact .inr (.inr (.inl h)))) c1 ⟨l, p2, rfl, c2⟩
      have v2 : val w (p1 ++ m :: p3) ≤ 0 := by
        refine closed_le R k _ (by simp at hk ⊢; omega) (fun z hz => hsub z (by simp at hz ⊢; rcases hz with h | h | h; exact .inl h; exact .inr (.inr (.inr (.inl h))); exact .inr (.inr (.inr (.inr h))))) c3 ?_
        rw [ep] at ee ey
        rw [c4] at ee
        cases p1 with
        | nil =>
          refine ⟨m, p3, rfl, ?_⟩
          rw [List.nil_append] at ey ee
          rw [List.nil_append, ee, ← (List.cons.inj ey).1, el, em]
        | cons q p1 =>
          refine ⟨q, p1 ++ m :: p3, rfl, ?_⟩
          rw [ee, ← (List.cons.inj ey).1]
      rw [ep, val_app, val_cons, val_app]
      rw [val_cons] at v1
      rw [val_app] at v2
      omega
structure WalkTo (ls p : List Lk) (e : Int) : Prop where
  sub : ∀ l ∈ p, l ∈ ls
  chain : chain p
  at_ : p = [] ∨ endO p = e
theorem short {ls : List Lk} {w : Lk → Int} {n : Nat} (n0 : 0 < n) (inn : ∀ l ∈ ls, inN n l) (R : ∀ r, Ring ls r → val w r ≤ 0) : ∀ (k : Nat) (p : List Lk) (e : Int), p.length ≤ k → WalkTo ls p e → ∃ q, WalkTo ls q e ∧ q.length < n ∧ val w p ≤ val w q
  | 0, p, e, hk, W => ⟨p, W, by omega, Int.le_refl _⟩
  | k + 1, p, e, hk, W => by
    by_cases c : p.length < n
    · exact ⟨p, W, c, Int.le_refl _⟩
    · have hp : p ≠ [] := fun z => by rw [z] at c; simp at c; omega
      by_cases nd : (hs p).Nodup
      · by_cases he : endO p ∈ hs p
        · obtain ⟨l, hl, ea⟩ := List.mem_map.mp he
          obtain ⟨p1, p2, ep⟩ := List.append_of_mem hl
          have hc := W.chain
          rw [ep] at hc
          obtain ⟨c2, c3⟩ := chain_hd hc
          have v1 : val w (l :: p2) ≤ 0 := closed_le R (k + 1) (l :: p2) (by rw [ep] at hk; simp at hk ⊢; omega) (fun z hz => W.sub z (by rw [ep]; exact List.mem_append_right _ hz)) (chain_tl hc) ⟨l, p2, rfl, by rw [ea, ep, endO_app]⟩
          have W2 : WalkTo ls p1 e := ⟨fun z hz => W.sub z (by rw [ep]; exact List.mem_append_left _ hz), c2, c3.imp_right fun h => by rw [h, ea]; exact W.at_.resolve_left hp⟩
          obtain ⟨q, W3, hq, hv⟩ := short n0 inn R k p1 e (by rw [ep] at hk; simp at hk; omega) W2
          exact ⟨q, W3, hq, by rw [ep, val_app]; omega⟩
        · exfalso
          have hh : (hs p ++ [endO p]).Nodup := by
            rw [List.nodup_append]
            exact ⟨nd, by simp, fun a ha b hb z => he (by simp at hb; rw [← hb, ← z]; exact ha)⟩
          have := len_range (n := n) hh fun x hx => by
            rcases List.mem_append.mp hx with hx | hx
            · obtain ⟨l, hl, rfl⟩ := List.mem_map.mp hx
              have := inn l (W.sub l hl)
              exact ⟨this.1, this.2.1⟩
            · simp at hx
              obtain ⟨v, m, e1⟩ : ∃ v m, p = v ++ [m] := ⟨p.dropLast, p.getLast hp, (List.dropLast_concat_getLast hp).symm⟩
              have h2 := inn m (W.sub m (by rw [e1]; simp))
              rw [hx, e1, endO_snoc]
              exact ⟨h2.2.2.1, h2.2.2.2⟩
          rw [List.length_append, List.length_singleton] at this
          unfold hs at this
          rw [List.length_map] at this
          omega
      · obtain ⟨a, x, b, c, e2⟩ := dup_split nd
        obtain ⟨p1, l, p2, m, p3, ep, el, em⟩ := hs_split e2
        have hc := W.chain
        rw [ep] at hc
        obtain ⟨c1, c2, c3, c4⟩ := cut_mid hc (el.trans em.symm)
        have v1 : val w (l :: p2) ≤ 0 := closed_le R (k + 1) (l :: p2) (by rw [ep] at hk; simp at hk ⊢; omega) (fun z hz => W.sub z (by rw [ep]; simp at hz ⊢; rcases hz with h | h; exact .inr (.inl h); exact .inr (.inr (.inl h)))) c1 ⟨l, p2, rfl, c2⟩
        have W2 : WalkTo ls (p1 ++ m :: p3) e := ⟨fun z hz => W.sub z (by rw [ep]; simp at hz ⊢; rcases hz with h | h | h; exact .inl h; exact .inr (.inr (.inr (.inl h))); exact .inr (.inr (.inr (.inr h)))), c3, .inr (by rw [← c4, ← ep]; exact W.at_.resolve_left hp)⟩
        obtain ⟨q, W3, hq, hv⟩ := short n0 inn R k _ e (by rw [ep] at hk; simp at hk ⊢; omega) W2
        refine ⟨q, W3, hq, ?_⟩
        rw [ep, val_app, val_cons, val_app]
        rw [val_cons] at v1
        rw [val_app] at hv
        omega
/-- the weights of the longest walks -/
structure PotOf (n : Nat) (ls : List Lk) (w : Lk → Int) (fs : List Int) : Prop where
  len : fs.length = n
  is : ∀ (e : Nat) x, fs[e]? = some x → ∃ p, WalkTo ls p e ∧ val w p = x
  most : ∀ (e : Nat) x, fs[e]? = some x → ∀ p, WalkTo ls p e → val w p ≤ x
theorem PotOf.unique {n : Nat} {ls : List Lk} {w : Lk → Int} {fs gs : List Int} (h : PotOf n ls w fs) (k : PotOf n ls w gs) : fs = gs := by
  apply List.ext_getElem (h.len.trans k.len.symm)
  intro e h1 h2
  have a1 := List.getElem?_eq_getElem h1
  have a2 := List.getElem?_eq_getElem h2
  obtain ⟨p, wp, ep⟩ := h.is e _ a1
  obtain ⟨q, wq, eq⟩ := k.is e _ a2
  have b1 := h.most e _ a1 q wq
  have b2 := k.most e _ a2 p wp
  omega
end Kz

set_option Elab.async false
set_option linter.all false
set_option autoImplicit false
/-! Plain law: the rounds that find the longest walks. -/
namespace Kz
def gi (f : List Int) (e : Int) : Int := f.getD e.toNat 0
theorem gi_set {f : List Int} {a e v : Int} (ha : 0 ≤ a) (he : 0 ≤ e) (hl : a < f.length) : gi (f.set a.toNat v) e = if a = e then v else gi f e := by
  unfold gi
  rw [List.getD_eq_getElem?_getD, List.getD_eq_getElem?_getD]
  by_cases q : a = e
  · subst q
    rw [if_pos rfl, List.getElem?_set_self (by omega)]
    rfl
  · rw [if_neg q, List.getElem?_set_ne (by omega)]
theorem gi_at {f : List Int} {e : Nat} {x : Int} (h : f[e]? = some x) : gi f e = x := by
  unfold gi
  rw [List.getD_eq_getElem?_getD, Int.toNat_natCast, h]; rfl
theorem at_gi {f : List Int} {e : Int} (h0 : 0 ≤ e) (h : e < f.length) : f[e.toNat]? = some (gi f e) := by
  have : e.toNat < f.length := by omega
  unfold gi
  rw [List.getD_eq_getElem?_getD, List.getElem?_eq_getElem this]; rfl
section
variable {n : Nat} {ls : List Lk} {w : Lk → Int}
structure Rnd (n : Nat) (ls : List Lk) (w : Lk → Int) (f : List Int) (k : Nat) : Prop where
  len : f.length = n
  is : ∀ e : Int, 0 ≤ e → e < n → ∃ p, WalkTo ls p e ∧ val w p = gi f e
  lng : ∀ (p : List Lk) (e : Int), 0 ≤ e → e < n → WalkTo ls p e → p.length ≤ k → val w p ≤ gi f e
structure Rlx (n : Nat) (ls : List Lk) (w : Lk → Int) (f g : List Int) (j : Nat) : Prop where
  len : g.length = n
  is : ∀ e : Int, 0 ≤ e → e < n → ∃ p, WalkTo ls p e ∧ val w p = gi g e
  mono : ∀ e : Int, 0 ≤ e → e < n → gi f e ≤ gi g e
  done : ∀ l ∈ ls.take j, gi f l.a + w l ≤ gi g l.b
theorem Rnd.zero : Rnd n ls w (List.replicate n 0) 0 := by
  have z : ∀ e : Int, gi (List.replicate n 0) e = 0 := fun e => by
    unfold gi
    rw [List.getD_eq_getElem?_getD, List.getElem?_replicate]
    split <;> rfl
  refine ⟨by simp, fun e _ _ => ⟨[], ⟨fun l h => absurd h (by simp), trivial, .inl rfl⟩, (z e).symm⟩, fun p e _ _ _ hp => ?_⟩
  have : p = [] := List.length_eq_zero_iff.mp (by omega)
  rw [this, z]
  exact Int.le_refl _
theorem Rnd.start {f : List Int} {k : Nat} (R : Rnd n ls w f k) : Rlx n ls w f f 0 := ⟨R.len, R.is, fun _ _ _ => Int.le_refl _, fun l h => absurd h (by simp)⟩
theorem walk_snoc {p : List Lk} {l : Lk} (h : WalkTo ls p l.a) (hl : l ∈ ls) : WalkTo ls (p ++ [l]) l.b :=
  ⟨fun x hx => by
    rcases List.mem_append.mp hx with hx | hx
    · exact h.sub x hx
    · rw [List.mem_singleton.mp hx]; exact hl, chain_mk h.chain h.at_ trivial, .inr (endO_snoc l p)⟩
theorem Rlx.step {f g : List Int} {j : Nat} {l : Lk} (R : Rlx n ls w f g j) (hl : ls[j]? = some l) (inn : ∀ l ∈ ls, inN n l) : Rlx n ls w f (g.set l.b.toNat (max (gi g l.b) (gi g l.a + w l))) (j + 1) := by
  have hm : l ∈ ls := List.mem_of_getElem? hl
  obtain ⟨a0, a1, b0, b1⟩ := inn l hm
  have hb : l.b < (g.length : Int) := by rw [R.len]; exact b1
  have gs : ∀ e : Int, 0 ≤ e → gi (g.set l.b.toNat (max (gi g l.b) (gi g l.a + w l))) e = if l.b = e then max (gi g l.b) (gi g l.a + w l) else gi g e := fun e he => gi_set b0 he hb
  refine ⟨by rw [List.length_set]; exact R.len, fun e h0 h1 => ?_, fun e h0 h1 => ?_, fun x hx => ?_⟩
  · rw [gs e h0]
    by_cases q : l.b = e
    · rw [if_pos q]
      rcases Int.le_total (gi g l.b) (gi g l.a + w l) with c | c
      · obtain ⟨p, wp, ep⟩ := R.is l.a a0 a1
        refine ⟨p ++ [l], by rw [← q]; exact walk_snoc wp hm, ?_⟩
        rw [val_app, ep, Int.max_eq_right c]
        show gi g l.a + (w l + 0) = _
        omega
      · rw [Int.max_eq_left c, q]
        exact R.is e h0 h1
    · rw [if_neg q]; exact R.is e h0 h1
  · rw [gs e h0]
    have := R.mono e h0 h1
    by_cases q : l.b = e
    · rw [if_pos q, q]
      have := Int.le_max_left (gi g e) (gi g l.a + w l)
      omega
    · rw [if_neg q]; exact this
  · rw [List.take_add_one, hl] at hx
    rcases List.mem_append.mp hx with hx | hx
    · have := R.done x hx
      have hx2 := inn x (List.mem_of_mem_take hx)
      rw [gs x.b hx2.2.2.1]
      by_cases q : l.b = x.b
      · rw [if_pos q, q]
        have := Int.le_max_left (gi g x.b) (gi g l.a + w l)
        omega
      · rw [if_neg q]; exact this
    · simp at hx
      rw [hx, gs l.b b0, if_pos rfl]
      have h1 := R.mono l.a a0 a1
      have := Int.le_max_right (gi g l.b) (gi g l.a + w l)
      omega
theorem walk_last {p : List Lk} {e : Int} (W : WalkTo ls p e) (hp : p ≠ []) : ∃ v l, p = v ++ [l] ∧ WalkTo ls v l.a ∧ l ∈ ls ∧ l.b = e := by
  obtain ⟨v, l, ep⟩ : ∃ v l, p = v ++ [l] := ⟨p.dropLast, p.getLast hp, (List.dropLast_concat_getLast hp).symm⟩
  have hc := W.chain
  rw [ep] at hc
  obtain ⟨c1, c2⟩ := chain_hd hc
  have := W.at_.resolve_left hp
  rw [ep, endO_snoc] at this
  exact ⟨v, l, ep, ⟨fun x hx => W.sub x (by rw [ep]; simp [hx]), c1, c2⟩, W.sub l (by rw [ep]; simp), this⟩
theorem Rlx.next {f g : List Int} {k : Nat} (R : Rnd n ls w f k) (X : Rlx n ls w f g ls.length) (inn : ∀ l ∈ ls, inN n l) : Rnd n ls w g (k + 1) := by
  refine ⟨X.len, X.is, fun p e h0 h1 W hk => ?_⟩
  by_cases hp : p = []
  · have := R.lng [] e h0 h1 ⟨fun l h => absurd h (by simp), trivial, .inl rfl⟩ (Nat.zero_le _)
    have := X.mono e h0 h1
    rw [hp]; omega
  · obtain ⟨v, l, ep, W2, hl, eb⟩ := walk_last W hp
    have il := inn l hl
    have h2 := R.lng v l.a il.1 il.2.1 W2 (by rw [ep, List.length_append, List.length_singleton] at hk; omega)
    have h3 := X.done l (by rw [List.take_length]; exact hl)
    rw [ep, val_app, ← eb]
    show val w v + (w l + 0) ≤ _
    omega
theorem Rlx.stop {f : List Int} {k : Nat} (R : Rnd n ls w f k) (X : Rlx n ls w f f ls.length) (inn : ∀ l ∈ ls, inN n l) : PotOf n ls w f := by
  have all : ∀ (k : Nat) (p : List Lk) (e : Int), p.length ≤ k → 0 ≤ e → e < n → WalkTo ls p e → val w p ≤ gi f e := fun k => by
    induction k with
    | zero =>
      intro p e hk h0 h1 W
      exact R.lng p e h0 h1 W (by omega)
    | succ k ih =>
      intro p e hk h0 h1 W
      by_cases hp : p = []
      · rw [hp]
        exact R.lng [] e h0 h1 ⟨fun l h => absurd h (by simp), trivial, .inl rfl⟩ (Nat.zero_le _)
      · obtain ⟨v, l, ep, W2, hl, eb⟩ := walk_last W hp
        have il := inn l hl
        have h2 := ih v l.a (by rw [ep, List.length_append, List.length_singleton] at hk; omega) il.1 il.2.1 W2
        have h3 := X.done l (by rw [List.take_length]; exact hl)
        rw [ep, val_app, ← eb]
        show val w v + (w l + 0) ≤ _
        omega
  refine ⟨R.len, fun e x hx => ?_, fun e x hx p W => ?_⟩
  · have lt := (List.getElem?_eq_some_iff.mp hx).1
    rw [R.len] at lt
    obtain ⟨p, wp, ep⟩ := R.is e (by omega) (by omega)
    exact ⟨p, wp, by rw [ep, gi_at hx]⟩
  · have lt := (List.getElem?_eq_some_iff.mp hx).1
    rw [R.len] at lt
    rw [← gi_at hx]
    exact all p.length p e (Nat.le_refl _) (by omega) (by omega) W
theorem Rlx.same {f g : List Int} {k : Nat} (R : Rnd n ls w f k) (X : Rlx n ls w f g ls.length) (n0 : 0 < n) (inn : ∀ l ∈ ls, inN n l) (NP : ∀ r, Ring ls r → val w r ≤ 0) (hk : n ≤ k + 1) : g = f := by
  apply List.ext_getElem (X.len.trans R.len.symm)
  intro e h1 h2
  have a1 := gi_at (List.getElem?_eq_getElem h1)
  have a2 := gi_at (List.getElem?_eq_getElem h2)
  have lt : (e : Int) < n := by rw [X.len] at h1; omega
  have m := X.mono e (by omega) lt
  obtain ⟨p, wp, ep⟩ := X.is e (by omega) lt
  obtain ⟨q, wq, hq, hv⟩ := short n0 inn NP p.length p e (Nat.le_refl _) wp
  have := R.lng q e (by omega) lt wq (by omega)
  omega
end
end Kz

set_option Elab.async false
set_option linter.all false
set_option maxRecDepth 100000
set_option maxHeartbeats 4000000
set_option autoImplicit false
/-! Potentials. -/
namespace Kz
open PySem PySem.Spec PyProof.Rows L2
theorem okQ_ints (is : List Int) : okQ (.lst (is.map D.int)) := by
  have h1 : ∀ js : List Int, isPs (js.map D.int) = true := fun js => by
    induction js with
    | nil => rfl
    | cons j js ih => show (true && isPs (js.map D.int)) = true; rw [ih]; rfl
  have h2 : ∀ js : List Int, PyData.canLayAll0 (toPs (js.map D.int)) = true := fun js => by
    induction js with
    | nil => rfl
    | cons j js ih => show (true && PyData.canLayAll0 (toPs (js.map D.int))) = true; rw [ih]; rfl
  have h3 : ∀ js : List Int, PyData.depthAll (toPs (js.map D.int)) = 0 := fun js => by
    induction js with
    | nil => rfl
    | cons j js ih => show max 0 (PyData.depthAll (toPs (js.map D.int))) = 0; rw [ih]; rfl
  refine ⟨h1 is, ?_⟩
  show (PyData.canLayAll0 (toPs (is.map D.int)) && decide (PyData.depthAll (toPs (is.map D.int)) + 1 ≤ 64)) = true
  rw [h2, h3]
  decide
theorem eqv_ints : ∀ (is js : List Int), PyData.eqv (toP (.lst (is.map D.int))) (toP (.lst (js.map D.int))) = decide (is = js) := by
  have h : ∀ (is js : List Int), PyData.eqvAll (toPs (is.map D.int)) (toPs (js.map D.int)) = decide (is = js) := fun is => by
    induction is with
    | nil =>
      intro js
      cases js with
      | nil => rfl
      | cons _ _ => rfl
    | cons i is ih =>
      intro js
      cases js with
      | nil => rfl
      | cons j js =>
        show ((i == j) && PyData.eqvAll (toPs (is.map D.int)) (toPs (js.map D.int))) = _
        rw [ih js]
        by_cases e : i = j
        · subst e
          by_cases e2 : is = js
          · subst e2; simp
          · simp [e2]
        · simp [e]
  exact h
section
variable {P : Program} {w : World} {K : PySem.W.Frag} {mg : Str → Option Value} {base : Heap} {B : RB}
def F_potentials : ZF := fun ds wd Q => ∃ (n : Nat) (ls : List Lk) (wf : Lk → Int), ds = [.int n, linksD ls, .lst (ls.map fun l => D.int (wf l))] ∧ NetOk n ls ∧ (∀ r, Ring ls r → val wf r ≤ 0) ∧ ∀ fs, PotOf n ls wf fs → Q (.dat (.lst (fs.map D.int))) wd
theorem len_potentials : ∀ ds wd Q, F_potentials ds wd Q → ds.length = 3 := fun ds wd Q ⟨a, _, _, e, _⟩ => by rw [e]; rfl
theorem sc_potentials : FnScope ["many", "links", "weights", "found", "event", "turn", "later", "link", "weight"] ["many", "links", "weights"] (defScope Kp.s_potentials) := ⟨rfl, rfl, rfl, by decide +kernel, rfl, by decide +kernel, by decide +kernel⟩
theorem ok_potentials (T : Top K mg B) (hK : B.K = K) (A : AllDefs K mg) : ZDef P w K mg base B "potentials" 1 F_potentials := by
  subst hK
  obtain ⟨f, fd, FD, hm⟩ := A 18 Kp.d_potentials rfl rfl
  have sc := sc_potentials
  refine zdef (k := 0) FD hm sc (fun _ _ _ _ _ _ us hl => match us, hl with | [_, _, _], _ => rfl) len_potentials fun cdv A0 outer s H E hr => ⟨_, (zs_cons (zs_setLc (i := 3) (own := [("event", 4)]) (zi_rng1 (zv 0) T.range) (blkOk_by (by rfl)) (fun _ _ _ _ _ => (zg_name 4 sc.nd)) (fun _ _ _ _ _ => zts_nil) (fun _ _ _ _ _ => zint) sc.nd) (zs_cons (zs_for (zi_rng1 (z_op op_add l_I0 (zv 0) zint) T.range) (zg_name 5 sc.nd) (zs_cons (zs_set (i := 6) (z_ty call_list_of (l_list rfl) T.list (by decide +kernel) (za_cons (zv 3) za_nil)) sc.nd) (zs_cons (zs_for (zi_zip (zv 1) (zv 2) T.zip) (zg_tup (n := 2) (zg_cons (zg_name 7 sc.nd) (zg_cons (zg_name 8 sc.nd) zg_nil))) (zs_one (zs_put 6 (z_ix (zv 7) zint) (z_E (z_bi (call_max2 rfl) (l_max) T.max (by decide +kernel) (za_cons (z_ixN 6 (z_ix (zv 7) zint)) (za_cons (z_op op_add l_I0 (z_ixN 6 (z_ix (zv 7) zint)) (zv 8)) za_nil))))))) (zs_cons (zs_if (z_eqDT hr.units (zv 6) (zv 3)) (zs_one (zs_ret (zv 3))) zs_nil) (zs_one (zs_set (i := 3) (z_M (zv 6)) sc.nd)))))) (zs_one (zs_ret znon)))), fun ds wd Q h => ?_⟩
  obtain ⟨n, ls, wf, rfl, N, NP, q⟩ := h
  have n5 := N.n5
  have n0 := N.n0
  refine ⟨by omega, by omega, ?_⟩
  refine ⟨by rw [rangeD_length, sizeLine_eq]; omega, rfl, fun i acc w' => acc = (List.replicate i (0 : Int)).map D.int ∧ wd = w', ⟨rfl, rfl⟩, fun i d acc w' hd ⟨ha, hw⟩ => ⟨rfl, rfl, rfl, by rw [ha, ← rep_set, List.map_append]; rfl, hw⟩, fun acc w' ⟨ha, hw⟩ => ?_⟩
  rw [rangeD_length, Int.toNat_natCast] at ha
  subst ha hw
  refine ⟨by show -(2 ^ 62) ≤ ((n : Int) + 1); omega, by show ((n : Int) + 1) < 2 ^ 62; omega, ?_⟩
  refine ⟨fun i z => ∃ (f : List Int) (x3 x5 x6 x7 x8 : Option SV), z = ⟨[some (.dat (.int n)), some (.dat (linksD ls)), some (.dat (.lst (ls.map fun l => D.int (wf l)))), x3, none, x5, x6, x7, x8], wd⟩ ∧ (x3 = some (.own (.lst (f.map D.int))) ∨ x3 = some (.dat (.lst (f.map D.int)))) ∧ Rnd n ls wf f i ∧ i + 1 ≤ n,
    ⟨List.replicate n 0, _, _, _, _, _, rfl, .inl rfl, Rnd.zero, by omega⟩, fun i d z hd ⟨f, x3, x5, x6, x7, x8, hz, h3, R, hin⟩ => ?_, fun z ⟨f, x3, x5, x6, x7, x8, hz, h3, R, hin⟩ => ?_⟩
  · subst hz
    -- the copy
    have main : zSeq (zFor (ziZip (zVar 1) (zVar 2)) (zgTup 2 (zgCons (zgN 7) (zgCons (zgN 8) zgNil))) (zPut 6 (zBin zIx (zVar 7) (zC (.int 1))) (zAd (zBi zMax (zCons (zIxN 6 (zBin zIx (zVar 7) (zC (.int 1)))) (zCons (zBin (zI0 fun i j => .int (i + j)) (zIxN 6 (zBin zIx (zVar 7) (zC (.int 0)))) (zVar 8)) zNil))))))
        (zSeq (zIfS (zB (zBin (zEqD false) (zVar 6) (zVar 3))) (zRet (zVar 3)) zNext) (zSet 3 (zMd (zVar 6))))
        ⟨fun z => ∃ (f : List Int) (x3 x5 x6 x7 x8 : Option SV), z = ⟨[some (.dat (.int n)), some (.dat (linksD ls)), some (.dat (.lst (ls.map fun l => D.int (wf l)))), x3, none, x5, x6, x7, x8], wd⟩ ∧ (x3 = some (.own (.lst (f.map D.int))) ∨ x3 = some (.dat (.lst (f.map D.int)))) ∧ Rnd n ls wf f (i + 1) ∧ i + 1 + 1 ≤ n,
          (fin Q).rt, (fin Q).nx, fun z => ∃ (f : List Int) (x3 x5 x6 x7 x8 : Option SV), z = ⟨[some (.dat (.int n)), some (.dat (linksD ls)), some (.dat (.lst (ls.map fun l => D.int (wf l)))), x3, none, x5, x6, x7, x8], wd⟩ ∧ (x3 = some (.own (.lst (f.map D.int))) ∨ x3 = some (.dat (.lst (f.map D.int)))) ∧ Rnd n ls wf f (i + 1) ∧ i + 1 + 1 ≤ n⟩
        ⟨[some (.dat (.int n)), some (.dat (linksD ls)), some (.dat (.lst (ls.map fun l => D.int (wf l)))), some (.dat (.lst (f.map D.int))), none, some (.dat d), some (.own (.lst (f.map D.int))), x7, x8], wd⟩ := by
      have zl : ∀ {j : Nat} {e : D}, (List.zipWith (fun x y => D.tup [x, y]) (ls.map lkD) (ls.map fun l => D.int (wf l)))[j]? = some e → ∃ l, ls[j]? = some l ∧ e = .tup [lkD l, .int (wf l)] := fun {j e} h => by
        rw [List.zipWith_map, List.getElem?_zipWith] at h
        cases hl : ls[j]? with
        | none => rw [hl] at h; cases h
        | some l => rw [hl] at h; cases h; exact ⟨l, rfl, rfl⟩
      have zlen : (List.zipWith (fun x y => D.tup [x, y]) (ls.map lkD) (ls.map fun l => D.int (wf l))).length = ls.length := by simp
      refine ⟨fun j z => ∃ (g : List Int) (x7 x8 : Option SV), z = ⟨[some (.dat (.int n)), some (.dat (linksD ls)), some (.dat (.lst (ls.map fun l => D.int (wf l)))), some (.dat (.lst (f.map D.int))), none, some (.dat d), some (.own (.lst (g.map D.int))), x7, x8], wd⟩ ∧ Rlx n ls wf f g j,
        ⟨f, _, _, rfl, R.start⟩, fun j e z he ⟨g, x7, x8, hz, X⟩ => ?_, fun z ⟨g, x7, x8, hz, X⟩ => ?_⟩
      · subst hz
        obtain ⟨l, hl, rfl⟩ := zl he
        obtain ⟨a0, a1, b0, b1⟩ := N.inn l (List.mem_of_getElem? hl)
        have glen := X.len
        have hatb : atI (g.map D.int) l.b = some (D.int (gi g l.b)) := atI_nat b0 (by rw [List.getElem?_map, at_gi b0 (by rw [glen]; exact b1)]; rfl)
        have hata : atI (g.map D.int) l.a = some (D.int (gi g l.a)) := atI_nat a0 (by rw [List.getElem?_map, at_gi a0 (by rw [glen]; exact a1)]; rfl)
        refine ⟨rfl, rfl, .int l.b, rfl, .int (gi g l.b), hatb, .int l.a, rfl, .int (gi g l.a), hata, .int l.b, rfl, l.b.toNat, ixN_nat b0 (by rw [List.length_map, glen]; exact b1), g.set l.b.toNat (max (gi g l.b) (gi g l.a + wf l)), _, _, by rw [List.map_set]; rfl, X.step hl N.inn⟩
      · subst hz
        rw [zlen] at X
        refine ⟨(okQ_ints g).1, (okQ_ints f).1, (okQ_ints g).2, (okQ_ints f).2, ?_⟩
        refine ite2 (fun c => ?_) fun c => ?_
        · have c : (false != PyData.eqv (toP (.lst (g.map D.int))) (toP (.lst (f.map D.int)))) = true := c
          rw [eqv_ints, bnf, decide_eq_true_iff] at c
          subst c
          exact q g (X.stop R N.inn)
        · have c : ¬ (false != PyData.eqv (toP (.lst (g.map D.int))) (toP (.lst (f.map D.int)))) = true := c
          rw [eqv_ints, bnf, decide_eq_true_iff] at c
          refine ⟨g, _, _, _, _, _, rfl, .inr rfl, X.next R N.inn, ?_⟩
          by_cases hk : n ≤ i + 1
          · exact (c (X.same R n0 N.inn NP hk)).elim
          · omega
    rcases h3 with rfl | rfl
    · exact main
    · exact main
  · subst hz
    rw [rangeD_length] at R hin
    omega
end
end Kz

set_option Elab.async false
set_option linter.all false
set_option autoImplicit false
/-! Plain law: the own plan. -/
namespace Kz
def gf (fs : List (Int × Int)) (e : Int) : Int × Int := fs.getD e.toNat (0, 1)
theorem gf_at {fs : List (Int × Int)} {e : Int} (h0 : 0 ≤ e) (h : e < fs.length) : fs[e.toNat]? = some (gf fs e) := by
  have : e.toNat < fs.length := by omega
  unfold gf
  rw [List.getD_eq_getElem?_getD, List.getElem?_eq_getElem this]; rfl
def botN (fs : List (Int × Int)) : Nat := fs.foldl (fun b f => Nat.lcm b f.2.natAbs) 1
theorem dvd2520 {d : Nat} (h0 : 0 < d) (h : d ≤ 10) : d ∣ 2520 := by
  have : ∀ d : Fin 11, 0 < d.val → d.val ∣ 2520 := by decide
  exact this ⟨d, by omega⟩ h0
theorem bot_fold : ∀ (fs : List (Int × Int)) (b : Nat), (∀ f ∈ fs, 0 < f.2 ∧ f.2 ≤ 10) → 0 < b → b ∣ 2520 → (fs.foldl (fun b f => Nat.lcm b f.2.natAbs) b) ∣ 2520 ∧ b ∣ (fs.foldl (fun b f => Nat.lcm b f.2.natAbs) b) ∧ (∀ f ∈ fs, f.2.natAbs ∣ fs.foldl (fun b f => Nat.lcm b f.2.natAbs) b)
  | [], b, _, _, h => ⟨h, Nat.dvd_refl _, fun f hf => absurd hf (by simp)⟩
  | f :: fs, b, hf, h0, h => by
    have hf0 := hf f List.mem_cons_self
    have h1 : Nat.lcm b f.2.natAbs ∣ 2520 := Nat.lcm_dvd h (dvd2520 (by omega) (by omega))
    have h2 : 0 < Nat.lcm b f.2.natAbs := Nat.pos_of_dvd_of_pos h1 (by omega)
    obtain ⟨a1, a2, a3⟩ := bot_fold fs (Nat.lcm b f.2.natAbs) (fun g hg => hf g (List.mem_cons_of_mem _ hg)) h2 h1
    refine ⟨a1, Nat.dvd_trans (Nat.dvd_lcm_left _ _) a2, fun g hg => ?_⟩
    rcases List.mem_cons.mp hg with e | hg
    · rw [e]; exact Nat.dvd_trans (Nat.dvd_lcm_right _ _) a2
    · exact a3 g hg
theorem bot_ok {fs : List (Int × Int)} (h : ∀ f ∈ fs, 0 < f.2 ∧ f.2 ≤ 10) : 0 < botN fs ∧ botN fs ≤ 2520 ∧ ∀ f ∈ fs, f.2.natAbs ∣ botN fs := by
  obtain ⟨a, b, c⟩ := bot_fold fs 1 h (by omega) ⟨2520, rfl⟩
  exact ⟨Nat.pos_of_dvd_of_pos a (by omega), Nat.le_of_dvd (by omega) a, c⟩
theorem mult_lcm {a b : Nat} (ha : 0 < a) (hb : 0 < b) : ((a : Int) * (b : Int)).fdiv (Nat.gcd (a : Int).natAbs (b : Int).natAbs : Nat) = ((Nat.lcm a b : Nat) : Int) := by
  rw [Int.natAbs_natCast, Int.natAbs_natCast, Int.fdiv_eq_ediv_of_nonneg _ (by omega), ← Int.natCast_mul, ← Int.natCast_ediv]
  rfl
def topI (fs : List (Int × Int)) (e : Int) : Int := ((gf fs e).1 * (botN fs : Int)).fdiv (gf fs e).2
def wOf (fs : List (Int × Int)) (l : Lk) : Int := l.d * (botN fs : Int) + topI fs l.a * (max 0 l.t - l.t) - topI fs l.b * max 0 l.t
theorem topI_mul {fs : List (Int × Int)} {e : Int} (h : ∀ f ∈ fs, 0 < f.2 ∧ f.2 ≤ 10) (h0 : 0 ≤ e) (hl : e < fs.length) : topI fs e * (gf fs e).2 = (gf fs e).1 * (botN fs : Int) := by
  have hm : gf fs e ∈ fs := List.mem_of_getElem? (gf_at h0 hl)
  have hp := h _ hm
  obtain ⟨_, _, hd⟩ := bot_ok h
  unfold topI
  refine fdiv_mul (Int.dvd_mul_of_dvd_right ?_) (by omega)
  have := hd _ hm
  exact Int.natAbs_dvd_natAbs.mp (by rw [Int.natAbs_natCast]; exact this)
theorem rates_ok {n : Nat} {ls : List Lk} {fs : List (Int × Int)} (N : NetOk n ls) (L : LowsOf n ls fs) : ∀ f ∈ fs, 0 < f.2 ∧ f.2 ≤ 10 ∧ -100 ≤ f.1 ∧ f.1 ≤ 100 := fun f hf => by
  obtain ⟨e, he⟩ := List.getElem?_of_mem hf
  obtain ⟨r, b, rfl⟩ := L.at_ e f he
  exact N.asks b.1.1 (Int.ne_of_gt b.1.2.1)
theorem gf_best {n : Nat} {ls : List Lk} {fs : List (Int × Int)} (L : LowsOf n ls fs) {e : Int} (h0 : 0 ≤ e) (h1 : e < n) : ∃ r, IsBest ls e r ∧ gf fs e = asks r := by
  obtain ⟨r, b, h⟩ := L.at_ e.toNat _ (gf_at h0 (by rw [L.len]; exact h1))
  rw [show ((e.toNat : Nat) : Int) = e by omega] at b
  exact ⟨r, b, h⟩
/-- along a link what is asked does not sink -/
theorem rate_up {n : Nat} {ls : List Lk} {fs : List (Int × Int)} (N : NetOk n ls) (L : LowsOf n ls fs) {l : Lk} (hl : l ∈ ls) : (gf fs l.a).1 * (gf fs l.b).2 ≤ (gf fs l.b).1 * (gf fs l.a).2 := by
  obtain ⟨a0, a1, b0, b1⟩ := N.inn l hl
  obtain ⟨r, br, er⟩ := gf_best L a0 a1
  obtain ⟨q, bq, eq⟩ := gf_best L b0 b1
  have := bq.2 r ⟨br.1.1, br.1.2.1, .step br.1.2.2 hl⟩
  unfold below at this
  rw [decide_eq_false_iff_not] at this
  rw [er, eq]
  omega
theorem le_top {B p q p2 q2 T T2 : Int} (hq : 0 < q) (hq2 : 0 < q2) (hB : 0 < B) (e1 : T * q = p * B) (e2 : T2 * q2 = p2 * B) (h : p * q2 ≤ p2 * q) : T ≤ T2 := by
  have h1 : p * q2 * B ≤ p2 * q * B := Int.mul_le_mul_of_nonneg_right h (by omega)
  have e3 : T * (q * q2) = p * q2 * B := by rw [← Int.mul_assoc, e1, Int.mul_assoc, Int.mul_comm B, ← Int.mul_assoc]
  have e4 : T2 * (q * q2) = p2 * q * B := by rw [Int.mul_comm q, ← Int.mul_assoc, e2, Int.mul_assoc, Int.mul_comm B, ← Int.mul_assoc]
  exact Int.le_of_mul_le_mul_right (by rw [e3, e4]; exact h1) (Int.mul_pos hq hq2)
theorem top_up {n : Nat} {ls : List Lk} {fs : List (Int × Int)} (N : NetOk n ls) (L : LowsOf n ls fs) {l : Lk} (hl : l ∈ ls) : topI fs l.a ≤ topI fs l.b := by
  obtain ⟨a0, a1, b0, b1⟩ := N.inn l hl
  have rk := rates_ok N L
  have rk2 : ∀ f ∈ fs, 0 < f.2 ∧ f.2 ≤ 10 := fun f hf => ⟨(rk f hf).1, (rk f hf).2.1⟩
  have ha : l.a < fs.length := by rw [L.len]; exact a1
  have hb : l.b < fs.length := by rw [L.len]; exact b1
  have p1 := rk _ (List.mem_of_getElem? (gf_at a0 ha))
  have p2 := rk _ (List.mem_of_getElem? (gf_at b0 hb))
  obtain ⟨B0, _, _⟩ := bot_ok rk2
  exact le_top p1.1 p2.1 (B := (botN fs : Int)) (by omega) (topI_mul rk2 a0 ha) (topI_mul rk2 b0 hb) (rate_up N L hl)
/-- around a ring the tops are the same -/
theorem tops_chain {T : Int → Int} : ∀ {p : List Lk}, (∀ l ∈ p, T l.a ≤ T l.b) → chain p → ∀ {l r}, p = l :: r → T l.a ≤ T (endO p) ∧ ∀ m ∈ p, T l.a ≤ T m.a ∧ T m.a ≤ T (endO p) ∧ T m.b ≤ T (endO p)
  | [], _, _, _, _, e => by cases e
  | [x], h, _, l, r, e => by
    cases e
    have := h x List.mem_cons_self
    exact ⟨this, fun m hm => by rw [List.mem_singleton.mp hm]; exact ⟨Int.le_refl _, this, Int.le_refl _⟩⟩
  | x :: y :: p, h, c, l, r, e => by
    cases e
    obtain ⟨h1, h2⟩ := tops_chain (p := y :: p) (fun m hm => h m (List.mem_cons_of_mem _ hm)) c.2 rfl
    have hx := h x List.mem_cons_self
    have exy : T x.b = T y.a := by rw [c.1]
    have e2 : endO (x :: y :: p) = endO (y :: p) := rfl
    rw [e2]
    refine ⟨by omega, fun m hm => ?_⟩
    rcases List.mem_cons.mp hm with e | hm
    · rw [e]; exact ⟨Int.le_refl _, by omega, by omega⟩
    · have := h2 m hm; exact ⟨by omega, this.2⟩
theorem ring_tops {n : Nat} {ls : List Lk} {fs : List (Int × Int)} (N : NetOk n ls) (L : LowsOf n ls fs) {r : List Lk} (R : Ring ls r) : ∀ m ∈ r, topI fs m.a = topI fs (headA r) ∧ topI fs m.b = topI fs (headA r) := by
  obtain ⟨f, W, e⟩ := R
  obtain ⟨l, s, er, ea⟩ := W.head
  obtain ⟨h1, h2⟩ := tops_chain (T := topI fs) (fun m hm => top_up N L (W.sub m hm)) W.chain er
  have hd : headA r = l.a := by rw [er]; rfl
  have hf : endO r = l.a := by rw [e, ea]
  intro m hm
  obtain ⟨a, b, c⟩ := h2 m hm
  have d := top_up N L (W.sub m hm)
  rw [hf] at b c
  rw [hd]
  omega
theorem val_ring {fs : List (Int × Int)} {T : Int} : ∀ {r : List Lk}, (∀ m ∈ r, topI fs m.a = T ∧ topI fs m.b = T) → val (wOf fs) r = tikS r * (botN fs : Int) - T * tokS r
  | [], _ => by simp [val, tikS, tokS]
  | l :: r, h => by
    have ih := val_ring (r := r) fun m hm => h m (List.mem_cons_of_mem _ hm)
    obtain ⟨h1, h2⟩ := h l List.mem_cons_self
    have e1 : tikS (l :: r) = l.d + tikS r := by simp [tikS]
    have e2 : tokS (l :: r) = l.t + tokS r := by simp [tokS]
    rw [val_cons, ih, e1, e2]
    unfold wOf
    rw [h1, h2, Int.add_mul, Int.mul_add, Int.mul_sub]
    omega
/-- no ring outweighs, where nothing clashes -/
theorem own_rings {n : Nat} {ls : List Lk} {fs : List (Int × Int)} (N : NetOk n ls) (L : LowsOf n ls fs) (C : ¬ Clash ls) : ∀ r, Ring ls r → val (wOf fs) r ≤ 0 := fun r R => by
  rw [val_ring (ring_tops N L R)]
  obtain ⟨f, W, e⟩ := id R
  obtain ⟨l, s, er, ea⟩ := W.head
  have hd : headA r = l.a := by rw [er]; rfl
  have il := N.inn l (W.sub l (by rw [er]; simp))
  have rk := rates_ok N L
  have rk2 : ∀ f ∈ fs, 0 < f.2 ∧ f.2 ≤ 10 := fun f hf => ⟨(rk f hf).1, (rk f hf).2.1⟩
  have hlen : l.a < fs.length := by rw [L.len]; exact il.2.1
  obtain ⟨B0, _, _⟩ := bot_ok rk2
  have hT := topI_mul rk2 il.1 hlen
  have pf := rk _ (List.mem_of_getElem? (gf_at il.1 hlen))
  obtain ⟨q, bq, eq⟩ := gf_best L il.1 il.2.1
  rw [hd]
  generalize topI fs l.a = T at hT
  generalize hg : gf fs l.a = g at *
  have hB : (0 : Int) < (botN fs : Int) := by omega
  generalize (botN fs : Int) = B at *
  -- it is enough to see it with the rate itself
  have enough : tikS r * g.2 ≤ g.1 * tokS r → tikS r * B - T * tokS r ≤ 0 := fun h => by
    have h1 : tikS r * g.2 * B ≤ g.1 * tokS r * B := Int.mul_le_mul_of_nonneg_right h (by omega)
    have e1 : tikS r * B * g.2 = tikS r * g.2 * B := by rw [Int.mul_assoc, Int.mul_comm B, ← Int.mul_assoc]
    have e2 : T * tokS r * g.2 = g.1 * tokS r * B := by rw [Int.mul_assoc, Int.mul_comm (tokS r), ← Int.mul_assoc, hT, Int.mul_assoc, Int.mul_comm B, ← Int.mul_assoc]
    have : tikS r * B ≤ T * tokS r := Int.le_of_mul_le_mul_right (by rw [e1, e2]; exact h1) pf.1
    omega
  apply enough
  rcases Int.lt_trichotomy (tokS r) 0 with t | t | t
  · have hb : below (asks r) (asks q) = false := by
      cases hbb : below (asks r) (asks q) with
      | false => rfl
      | true => exact (C (.inr ⟨r, q, R, t, by rw [hd]; exact bq, hbb⟩)).elim
    have La := low_lowest (a := tikS r) (Int.ne_of_lt t)
    unfold below at hb
    rw [decide_eq_false_iff_not, ← eq] at hb
    have hb2 : g.1 * (asks r).2 ≤ (asks r).1 * g.2 := by omega
    have ap : 0 < (asks r).2 := La.pos
    have ee : (asks r).1 * tokS r = tikS r * (asks r).2 := La.eq
    have h3 : (asks r).1 * g.2 * tokS r ≤ g.1 * (asks r).2 * tokS r := Int.mul_le_mul_of_nonpos_right hb2 (by omega)
    refine Int.le_of_mul_le_mul_right (a := (asks r).2) ?_ ap
    have e1 : tikS r * g.2 * (asks r).2 = (asks r).1 * g.2 * tokS r := by
      rw [Int.mul_assoc, Int.mul_comm g.2, ← Int.mul_assoc, ← ee, Int.mul_assoc, Int.mul_comm (tokS r), ← Int.mul_assoc]
    have e2 : g.1 * tokS r * (asks r).2 = g.1 * (asks r).2 * tokS r := by rw [Int.mul_assoc, Int.mul_comm (tokS r), ← Int.mul_assoc]
    rw [e1, e2]; exact h3
  · rw [t, Int.mul_zero]
    have : ¬ 0 < tikS r := fun h => C (.inl ⟨r, R, t, h⟩)
    exact Int.mul_nonpos_of_nonpos_of_nonneg (by omega) (by omega)
  · have La := low_lowest (a := tikS r) (Int.ne_of_gt t)
    have hb := bq.2 r ⟨R, t, .base (by rw [er]; simp [hs])⟩
    unfold below at hb
    rw [decide_eq_false_iff_not, ← eq] at hb
    have hb2 : (asks r).1 * g.2 ≤ g.1 * (asks r).2 := by omega
    have ap : 0 < (asks r).2 := La.pos
    have ee : (asks r).1 * tokS r = tikS r * (asks r).2 := La.eq
    have h3 : (asks r).1 * g.2 * tokS r ≤ g.1 * (asks r).2 * tokS r := Int.mul_le_mul_of_nonneg_right hb2 (by omega)
    refine Int.le_of_mul_le_mul_right (a := (asks r).2) ?_ ap
    have e1 : tikS r * g.2 * (asks r).2 = (asks r).1 * g.2 * tokS r := by
      rw [Int.mul_assoc, Int.mul_comm g.2, ← Int.mul_assoc, ← ee, Int.mul_assoc, Int.mul_comm (tokS r), ← Int.mul_assoc]
    have e2 : g.1 * tokS r * (asks r).2 = g.1 * (asks r).2 * tokS r := by rw [Int.mul_assoc, Int.mul_comm (tokS r), ← Int.mul_assoc]
    rw [e1, e2]; exact h3
section
variable {ls ms : List Lk} (h : ∀ l, l ∈ ls ↔ l ∈ ms)
include h
theorem WalkTo.congr {p : List Lk} {e : Int} (W : WalkTo ls p e) : WalkTo ms p e := ⟨fun l hl => (h l).mp (W.sub l hl), W.chain, W.at_⟩
theorem PotOf.congr {n : Nat} {w : Lk → Int} {fs : List Int} (k : PotOf n ls w fs) : PotOf n ms w fs :=
  ⟨k.len, fun e x hx => let ⟨p, wp, ep⟩ := k.is e x hx; ⟨p, wp.congr h, ep⟩, fun e x hx p wp => k.most e x hx p (wp.congr fun l => (h l).symm)⟩
end
end Kz

set_option Elab.async false
set_option linter.all false
set_option maxRecDepth 100000
set_option maxHeartbeats 4000000
set_option autoImplicit false
/-! The own plan, the plan of one period. -/
namespace Kz
open PySem PySem.Spec PyProof.Rows L2
section
variable {P : Program} {w : World} {K : PySem.W.Frag} {mg : Str → Option Value} {base : Heap} {B : RB}
/-- begins and rates, as the program writes them -/
def planD (fs : List (Int × Int)) (bs : List Int) : List D := List.zipWith (fun b f => D.tup [frD (low b (botN fs : Int)), frD f]) bs fs
def F_own_plan : ZF := fun ds wd Q => ∃ (n : Nat) (nl : List Lk) (x : D) (dl : List Lk), ds = [.net n (linksD nl), x] ∧ isDs x dl ∧ Told n nl dl ∧ (∃ fs, LowsOf n (allL nl dl) fs) ∧
  (Clash (allL nl dl) → Q (.dat .non) wd) ∧ (¬ Clash (allL nl dl) → ∀ fs bs, LowsOf n (allL nl dl) fs → PotOf n (allL nl dl) (wOf fs) bs → Q (.own (.lst (planD fs bs))) wd)
theorem len_own_plan : ∀ ds wd Q, F_own_plan ds wd Q → ds.length = 2 := fun ds wd Q ⟨a, _, _, _, e, _⟩ => by rw [e]; rfl
theorem botN_snoc (fs : List (Int × Int)) (f : Int × Int) : botN (fs ++ [f]) = Nat.lcm (botN fs) f.2.natAbs := by unfold botN; rw [List.foldl_append]; rfl
theorem sc_own_plan : FnScope ["net", "distances", "rates", "links", "bottom", "rate", "tops", "weights", "a", "b", "t", "d", "first", "begins", "begin"] ["net", "distances"] (defScope Kp.s_own_plan) := ⟨rfl, rfl, rfl, by decide +kernel, rfl, by decide +kernel, by decide +kernel⟩
theorem ok_own_plan (T : Top K mg B) (hK : B.K = K) (A : AllDefs K mg) (G_own_periods : ZDef P w K mg base B "own_periods" 6 F_own_periods) (G_links_with : ZDef P w K mg base B "links_with" 5 F_links_with) (G_multiple_of : ZDef P w K mg base B "multiple_of" 1 F_multiple_of) (G_potentials : ZDef P w K mg base B "potentials" 1 F_potentials) (G_lowest : ZDef P w K mg base B "lowest" 1 F_lowest) : ZDef P w K mg base B "own_plan" 7 F_own_plan := by
  subst hK
  obtain ⟨f, fd, FD, hm⟩ := A 29 Kp.d_own_plan rfl rfl
  have sc := sc_own_plan
  refine zdef (k := 6) FD hm sc (fun _ _ _ _ _ _ us hl => match us, hl with | [_, _], _ => rfl) len_own_plan fun cdv A0 outer s H E hr => ⟨_, (zs_cons (zs_par (i := 2) (j := 3) (z_M (z_E (z_call G_own_periods (hr.mono (by decide)) (by rfl) (za_cons (zv 0) (za_cons (zv 1) za_nil))))) (z_M (z_E (z_call G_links_with (hr.mono (by decide)) (by rfl) (za_cons (zv 0) (za_cons (zv 1) za_nil))))) sc.nd) (zs_cons (zs_if (z_isNT (zv 2)) (zs_one (zs_ret znon)) zs_nil) (zs_cons (zs_set (i := 4) (z_M zint) sc.nd) (zs_cons (zs_for (zi_seq (zv 2)) (zg_name 5 sc.nd) (zs_one (zs_set (i := 4) (z_M (z_E (z_call G_multiple_of (hr.mono (by decide)) (by rfl) (za_cons (zv 4) (za_cons (z_ix (zv 5) zint) za_nil))))) sc.nd))) (zs_cons (zs_par (i := 6) (j := 7) (z_comp (own := [("rate", 5)]) (zi_seq (zv 2)) (blkOk_by (by rfl)) (fun _ _ _ _ _ => (zg_name 5 sc.nd)) (fun _ _ _ _ _ => zts_nil) (fun _ _ _ _ _ => (z_op op_fdivN l_I (z_op op_mul l_I (z_ix (zv 5) zint) (zv 4)) (z_ix (zv 5) zint))) sc.nd) (z_lst za_nil) sc.nd) (zs_cons (zs_for (zi_seq (zv 3)) (zg_tup (n := 4) (zg_cons (zg_name 8 sc.nd) (zg_cons (zg_name 9 sc.nd) (zg_cons (zg_name 10 sc.nd) (zg_cons (zg_name 11 sc.nd) zg_nil))))) (zs_cons (zs_set (i := 12) (z_M (z_E (z_bi (call_max2 rfl) (l_max) T.max (by decide +kernel) (za_cons zint (za_cons (zv 10) za_nil))))) sc.nd) (zs_one (zs_expr (z_app 7 (z_op op_sub l_I0 (z_op op_add l_I0 (z_op op_mul l_I (zv 11) (zv 4)) (z_op op_mul l_I (z_ix (zv 6) (zv 8)) (z_op op_sub l_I0 (zv 12) (zv 10)))) (z_op op_mul l_I (z_ix (zv 6) (zv 9)) (zv 12)))))))) (zs_cons (zs_set (i := 13) (z_M (z_E (z_call G_potentials (hr.mono (by decide)) (by rfl) (za_cons (z_many (zv 0) T.cls T.many) (za_cons (zv 3) (za_cons (zv 7) za_nil)))))) sc.nd) (zs_one (zs_retM (z_comp (own := [("begin", 14), ("rate", 5)]) (zi_zip (zv 13) (zv 2) T.zip) (blkOk_by (by rfl)) (fun _ _ _ _ _ => (zg_tup (n := 2) (zg_cons (zg_name 14 sc.nd) (zg_cons (zg_name 5 sc.nd) zg_nil)))) (fun _ _ _ _ _ => zts_nil) (fun _ _ _ _ _ => (z_tup (za_cons (z_E (z_call G_lowest (hr.mono (by decide)) (by rfl) (za_cons (zv 14) (za_cons (zv 4) za_nil)))) (za_cons (zv 5) za_nil)))) sc.nd)))))))))), fun ds wd Q h => ?_⟩
  obtain ⟨n, nl, x, dl, rfl, hx, T, ⟨fs0, L0⟩, q1, q2⟩ := h
  have hlen := T.len
  refine ⟨n, nl, x, dl, rfl, hx, T, fun c => ?_, fun c fs L => ?_⟩
  · exact ⟨n, nl, x, dl, rfl, hx, T.ok, by omega, fun ls pl => q1 c⟩
  refine ⟨n, nl, x, dl, rfl, hx, T.ok, by omega, fun ls pl => ?_⟩
  have hm : ∀ l, l ∈ allL nl dl ↔ l ∈ ls := fun l => pl.mem_iff.symm
  have N : NetOk n ls := T.net.congr hm (by rw [pl.length_eq]; exact T.net.l15)
  have Lc := L.congr hm
  have Cc : ¬ Clash ls := fun h => c ((Clash.congr hm).mpr h)
  have rk := rates_ok N Lc
  have rk2 : ∀ f ∈ fs, 0 < f.2 ∧ f.2 ≤ 10 := fun f hf => ⟨(rk f hf).1, (rk f hf).2.1⟩
  obtain ⟨B0, B1, _⟩ := bot_ok rk2
  have n5 := N.n5
  have fl := L.len
  refine fun hl1 => ⟨fun i z => ∃ x5 : Option D, z = ⟨[some (.dat (.net n (linksD nl))), some (.dat x), some (.dat (.lst (fs.map frD))), some (.dat (linksD ls)), some (.dat (.int (botN (fs.take i) : Int))), x5.map SV.dat, none, none, none, none, none, none, none, none, none], wd⟩,
    ⟨none, rfl⟩, fun i d z hd ⟨x5, hz⟩ => ?_, fun z ⟨x5, hz⟩ => ?_⟩
  · subst hz
    obtain ⟨f, hf, rfl⟩ := gmap hd
    have hfm := rk2 f (List.mem_of_getElem? hf)
    obtain ⟨C0, C1, _⟩ := bot_ok (fs := fs.take i) fun g hg => rk2 g (List.mem_of_mem_take hg)
    refine ⟨.int f.2, rfl, (botN (fs.take i) : Int), f.2, rfl, by omega, hfm.1, by omega, by omega, some (frD f), ?_⟩
    rw [tk1 hf, botN_snoc]
    have := mult_lcm (a := botN (fs.take i)) (b := f.2.natAbs) C0 (by omega)
    rw [Int.natAbs_of_nonneg (Int.le_of_lt hfm.1)] at this
    rw [← this]
    rfl
  subst hz
  rw [List.length_map, List.take_length]
  generalize hB : (botN fs : Int) = Bm
  have bs0 : sm Bm := ⟨by omega, by omega⟩
  refine fun hl2 => ⟨hl2, (by cases x5 <;> rfl), fun i acc w' => acc = ((List.range i).map fun e => D.int (topI fs (e : Nat))) ∧ wd = w', ⟨rfl, rfl⟩, fun i d acc w' hd ⟨ha, hw⟩ => ?_, fun acc w' ⟨ha, hw⟩ => ?_⟩
  · obtain ⟨f, hf, rfl⟩ := gmap hd
    have hfm := rk2 f (List.mem_of_getElem? hf)
    have lt := (List.getElem?_eq_some_iff.mp hf).1
    have eg : gf fs (i : Nat) = f := by
      have := gf_at (fs := fs) (e := (i : Nat)) (by omega) (by omega)
      rw [Int.toNat_natCast, hf] at this
      exact (Option.some.inj this).symm
    refine ⟨rfl, rfl, .int f.1, rfl, mulR bs0, .int f.2, rfl, ⟨by omega, by omega⟩, rfl, ?_, hw⟩
    rw [ha, List.range_succ, List.map_append]
    show _ ++ [D.int ((f.1 * Bm).fdiv f.2)] = _ ++ [D.int (topI fs (i : Nat))]
    unfold topI
    rw [eg, hB]
  rw [List.length_map, fl] at ha
  subst ha hw
  have tat : ∀ e : Int, 0 ≤ e → e < n → atI ((List.range n).map fun e => D.int (topI fs (e : Nat))) e = some (D.int (topI fs e)) := fun e h0 h1 => by
    refine atI_nat h0 ?_
    rw [List.getElem?_map, List.getElem?_range (by omega)]
    show some (D.int (topI fs ((e.toNat : Nat) : Int))) = _
    rw [show ((e.toNat : Nat) : Int) = e by omega]
  refine ⟨Nat.zero_le _, ?_⟩
  refine fun hl3 => ⟨fun i z => ∃ x8 x9 x10 x11 x12, z = ⟨[some (.dat (.net n (linksD nl))), some (.dat x), some (.dat (.lst (fs.map frD))), some (.dat (linksD ls)), some (.dat (.int Bm)), x5.map SV.dat, some (.dat (.lst ((List.range n).map fun e => D.int (topI fs (e : Nat))))), some (.own (.lst ((ls.take i).map fun l => D.int (wOf fs l)))), x8, x9, x10, x11, x12, none, none], wd⟩ ∨
      z = ⟨[some (.dat (.net n (linksD nl))), some (.dat x), some (.dat (.lst (fs.map frD))), some (.dat (linksD ls)), some (.dat (.int Bm)), x5.map SV.dat, some (.own (.lst ((List.range n).map fun e => D.int (topI fs (e : Nat))))), some (.own (.lst ((ls.take i).map fun l => D.int (wOf fs l)))), x8, x9, x10, x11, x12, none, none], wd⟩,
    ⟨_, _, _, _, _, .inr rfl⟩, fun i d z hd ⟨x8, x9, x10, x11, x12, hz⟩ => ?_, fun z ⟨x8, x9, x10, x11, x12, hz⟩ => ?_⟩
  · obtain ⟨l, hl, rfl⟩ := gmap hd
    have hlm : l ∈ ls := List.mem_of_getElem? hl
    obtain ⟨a0, a1, b0, b1⟩ := N.inn l hlm
    have ht := N.tb l hlm
    have l15 := N.l15
    have ew : (ls.take (i + 1)).map (fun l => D.int (wOf fs l)) = (ls.take i).map (fun l => D.int (wOf fs l)) ++ [D.int (l.d * Bm + topI fs l.a * (max 0 l.t - l.t) - topI fs l.b * max 0 l.t)] := by
      rw [tk1 hl, List.map_append]
      unfold wOf
      rw [hB]
      rfl
    have len15 : ((ls.take i).map fun l => D.int (wOf fs l)).length < sizeLine := by
      rw [List.length_map, List.length_take, sizeLine_eq]
      omega
    rcases hz with hz | hz
    · subst hz
      refine ⟨rfl, rfl, ?_⟩
      refine ⟨mulR bs0, .int (topI fs l.a), tat l.a a0 a1, mulR ⟨by omega, by omega⟩, .int (topI fs l.b), tat l.b b0 b1, mulR ⟨by omega, by omega⟩, len15, some (.dat (.int l.a)), some (.dat (.int l.b)), some (.dat (.int l.t)), some (.dat (.int l.d)), some (.dat (.int (max 0 l.t))), .inl ?_⟩
      rw [ew]; rfl
    · subst hz
      refine ⟨rfl, rfl, ?_⟩
      refine ⟨mulR bs0, .int (topI fs l.a), tat l.a a0 a1, mulR ⟨by omega, by omega⟩, .int (topI fs l.b), tat l.b b0 b1, mulR ⟨by omega, by omega⟩, len15, some (.dat (.int l.a)), some (.dat (.int l.b)), some (.dat (.int l.t)), some (.dat (.int l.d)), some (.dat (.int (max 0 l.t))), .inl ?_⟩
      rw [ew]; rfl
  · rw [List.length_map, List.take_length] at hz
    have no : ∀ y13 y8 y9 y10 y11 y12 : Option SV, noOwn [some (.dat (.net n (linksD nl))), some (.dat x), some (.dat (.lst (fs.map frD))), some (.dat (linksD ls)), some (.dat (.int Bm)), x5.map SV.dat, y13, y8, y9, y10, y11, y12, none, none, none] [14, 5] = true := fun _ _ _ _ _ _ => by cases x5 <;> rfl
    have fin : ∀ y6 : Option SV, zSeq (zSet 13 (zMd (zAd (zCall F_potentials (zCons (zMany (zVar 0)) (zCons (zVar 3) (zCons (zVar 7) zNil)))))))
        (zRetM (zComp (ziZip (zVar 13) (zVar 2)) (zgTup 2 (zgCons (zgN 14) (zgCons (zgN 5) zgNil))) zYes (zTup (zCons (zAd (zCall F_lowest (zCons (zVar 14) (zCons (zVar 4) zNil)))) (zCons (zVar 5) zNil))) [14, 5])) (fin Q)
        ⟨[some (.dat (.net n (linksD nl))), some (.dat x), some (.dat (.lst (fs.map frD))), some (.dat (linksD ls)), some (.dat (.int Bm)), x5.map SV.dat, y6, some (.own (.lst (ls.map fun l => D.int (wOf fs l)))), x8, x9, x10, x11, x12, none, none], wd⟩ := fun y6 => by
      refine ⟨n, ls, wOf fs, rfl, N, own_rings N Lc Cc, fun bs Pb => ?_⟩
      have bl := Pb.len
      have zl : ∀ {j : Nat} {e : D}, (List.zipWith (fun x y => D.tup [x, y]) (bs.map D.int) (fs.map frD))[j]? = some e → ∃ b f, bs[j]? = some b ∧ fs[j]? = some f ∧ e = .tup [.int b, frD f] := fun {j e} h => by
        rw [List.zipWith_map, List.getElem?_zipWith] at h
        cases hb : bs[j]? with
        | none => rw [hb] at h; cases h
        | some b =>
          rw [hb] at h
          cases hf : fs[j]? with
          | none => rw [hf] at h; cases h
          | some f => rw [hf] at h; cases h; exact ⟨b, f, rfl, rfl, rfl⟩
      have zlen : (List.zipWith (fun x y => D.tup [x, y]) (bs.map D.int) (fs.map frD)).length = n := by rw [List.length_zipWith, List.length_map, List.length_map, bl, fl, Nat.min_self]
      have plen : (planD fs bs).length = n := by unfold planD; rw [List.length_zipWith, bl, fl, Nat.min_self]
      refine ⟨by rw [zlen, sizeLine_eq]; omega, (by cases x5 <;> rfl), fun i acc w' => acc = (planD fs bs).take i ∧ wd = w', ⟨rfl, rfl⟩, fun i d acc w' hd ⟨ha, hw⟩ => ?_, fun acc w' ⟨ha, hw⟩ => ?_⟩
      · obtain ⟨b, f, hb, hf, rfl⟩ := zl hd
        have hp : (planD fs bs)[i]? = some (.tup [frD (low b (botN fs : Int)), frD f]) := by
          unfold planD
          rw [List.getElem?_zipWith, hb, hf]
        refine ⟨rfl, rfl, rfl, rfl, b, Bm, rfl, by omega, by omega, size2, rfl, ?_, hw⟩
        rw [ha, tk1 hp, hB]
        rfl
      · rw [zlen, ← plen, List.take_length] at ha
        subst ha hw
        exact q2 c fs bs L (Pb.congr fun l => (hm l).symm)
    rcases hz with rfl | rfl
    · exact fin _
    · exact fin _
def F_checked_rate : ZF := fun ds wd Q => ∃ f : Int × Int, ds = [frD f] ∧ 0 ≤ f.1 ∧ 0 < f.2 ∧ f.2 < 1073741824 ∧ Q (.dat (frD (low f.1 f.2))) wd
theorem len_checked_rate : ∀ ds wd Q, F_checked_rate ds wd Q → ds.length = 1 := fun ds wd Q ⟨a, e, _⟩ => by rw [e]; rfl
theorem sc_checked_rate : FnScope ["thing"] ["thing"] (defScope Kp.s_checked_rate) := ⟨rfl, rfl, rfl, by decide +kernel, rfl, by decide +kernel, by decide +kernel⟩
theorem ok_checked_rate (T : Top K mg B) (hK : B.K = K) (A : AllDefs K mg) (G_is_fraction : ZDef P w K mg base B "is_fraction" 3 F_is_fraction) (G_lowest : ZDef P w K mg base B "lowest" 1 F_lowest) : ZDef P w K mg base B "checked_rate" 4 F_checked_rate := by
  subst hK
  obtain ⟨f, fd, FD, hm⟩ := A 16 Kp.d_checked_rate rfl rfl
  have sc := sc_checked_rate
  refine zdef (k := 3) FD hm sc (fun _ _ _ _ _ _ us hl => match us, hl with | [_], _ => rfl) len_checked_rate fun cdv A0 outer s H E hr => ⟨_, (zs_cons (zs_if (PW.pt (z_or (z_not (z_val (z_E (z_call G_is_fraction (hr.mono (by decide)) (by rfl) (za_cons (zv 0) za_nil))))) (z_or1 (z_cmpT op_lt l_B0 (z_ix (zv 0) zint) zint (nomark _))))) (zs_one zs_never) zs_nil) (zs_one (zs_ret (z_E (z_call G_lowest (hr.mono (by decide)) (by rfl) (za_cons (z_ix (zv 0) zint) (za_cons (z_ix (zv 0) zint) za_nil))))))), fun ds wd Q h => ?_⟩
  obtain ⟨f, rfl, h1, h2, h3, q⟩ := h
  have hf : (frac (frD f)).isSome = true := by
    show (if 1 ≤ f.2 then some (f.1, f.2) else none).isSome = true
    rw [if_pos (by omega)]; rfl
  refine ⟨frD f, rfl, ⟨tyn rfl, fun x hx => ?_⟩, ?_⟩
  · rcases List.mem_cons.mp hx with e | hx
    · rw [e]; exact tyn rfl
    · rw [List.mem_singleton.mp hx]; exact tyn rfl
  rw [hf]
  refine ⟨.int f.1, rfl, ite2 (fun c => ?_) fun c => ?_⟩
  · exact absurd (of_decide_eq_true c) (by omega)
  · exact ⟨.int f.1, rfl, .int f.2, rfl, f.1, f.2, rfl, by omega, by omega, q⟩
end
end Kz

set_option Elab.async false
set_option linter.all false
set_option maxRecDepth 100000
set_option maxHeartbeats 4000000
set_option autoImplicit false
/-! The plan of one period. -/
namespace Kz
open PySem PySem.Spec PyProof.Rows L2
section
variable {P : Program} {w : World} {K : PySem.W.Frag} {mg : Str → Option Value} {base : Heap} {B : RB}
def wP (f : Int × Int) (l : Lk) : Int := l.d * f.2 - l.t * f.1
def F_periodic_plan : ZF := fun ds wd Q => ∃ (n : Nat) (nl : List Lk) (x : D) (dl : List Lk) (f : Int × Int), ds = [.net n (linksD nl), x, frD f] ∧ isDs x dl ∧ Told n nl dl ∧ 0 ≤ f.1 ∧ 0 < f.2 ∧ f.2 ≤ 10 ∧ f.1 ≤ 100 ∧ low f.1 f.2 = f ∧
  (∀ r, Ring (allL nl dl) r → val (wP f) r ≤ 0) ∧ ∀ bs, PotOf n (allL nl dl) (wP f) bs → Q (.dat (.lst (bs.map fun b => frD (low b f.2)))) wd
theorem len_periodic_plan : ∀ ds wd Q, F_periodic_plan ds wd Q → ds.length = 3 := fun ds wd Q ⟨a, _, _, _, _, e, _⟩ => by rw [e]; rfl
theorem sc_periodic_plan : FnScope ["net", "distances", "rate", "links", "top", "bottom", "found", "a", "b", "t", "d", "number"] ["net", "distances", "rate"] (defScope Kp.s_periodic_plan) := ⟨rfl, rfl, rfl, by decide +kernel, rfl, by decide +kernel, by decide +kernel⟩
theorem ok_periodic_plan (T : Top K mg B) (hK : B.K = K) (A : AllDefs K mg) (G_checked_rate : ZDef P w K mg base B "checked_rate" 4 F_checked_rate) (G_links_with : ZDef P w K mg base B "links_with" 5 F_links_with) (G_potentials : ZDef P w K mg base B "potentials" 1 F_potentials) (G_lowest : ZDef P w K mg base B "lowest" 1 F_lowest) : ZDef P w K mg base B "periodic_plan" 6 F_periodic_plan := by
  subst hK
  obtain ⟨f, fd, FD, hm⟩ := A 24 Kp.d_periodic_plan rfl rfl
  have sc := sc_periodic_plan
  refine zdef (k := 5) FD hm sc (fun _ _ _ _ _ _ us hl => match us, hl with | [_, _, _], _ => rfl) len_periodic_plan fun cdv A0 outer s H E hr => ⟨_, (zs_cons (zs_asg (z_tup (za_cons (z_E (z_call G_links_with (hr.mono (by decide)) (by rfl) (za_cons (zv 0) (za_cons (zv 1) za_nil)))) (za_cons (z_E (z_call G_checked_rate (hr.mono (by decide)) (by rfl) (za_cons (zv 2) za_nil))) za_nil))) (zg_tup (n := 2) (zg_cons (zg_name 3 sc.nd) (zg_cons (zg_tup (n := 2) (zg_cons (zg_name 4 sc.nd) (zg_cons (zg_name 5 sc.nd) zg_nil))) zg_nil)))) (zs_cons (zs_set (i := 6) (z_M (z_E (z_call G_potentials (hr.mono (by decide)) (by rfl) (za_cons (z_many (zv 0) T.cls T.many) (za_cons (zv 3) (za_cons (z_E (z_comp (own := [("a", 7), ("b", 8), ("t", 9), ("d", 10)]) (zi_seq (zv 3)) (blkOk_by (by rfl)) (fun _ _ _ _ _ => (zg_tup (n := 4) (zg_cons (zg_name 7 sc.nd) (zg_cons (zg_name 8 sc.nd) (zg_cons (zg_name 9 sc.nd) (zg_cons (zg_name 10 sc.nd) zg_nil)))))) (fun _ _ _ _ _ => zts_nil) (fun _ _ _ _ _ => (z_op op_sub l_I0 (z_op op_mul l_I (zv 10) (zv 5)) (z_op op_mul l_I (zv 9) (zv 4)))) sc.nd)) za_nil)))))) sc.nd) (zs_one (zs_ret (z_if (z_isNT (zv 6)) znon (z_E (z_comp (own := [("number", 11)]) (zi_seq (zv 6)) (blkOk_by (by rfl)) (fun _ _ _ _ _ => (zg_name 11 sc.nd)) (fun _ _ _ _ _ => zts_nil) (fun _ _ _ _ _ => (z_E (z_call G_lowest (hr.mono (by decide)) (by rfl) (za_cons (zv 11) (za_cons (zv 5) za_nil))))) sc.nd))))))), fun ds wd Q h => ?_⟩
  obtain ⟨n, nl, x, dl, f, rfl, hx, T, f0, f1, f2, f3, fl, R, q⟩ := h
  have hlen := T.len
  refine ⟨n, nl, x, dl, rfl, hx, T.ok, by omega, fun ls pl => ?_⟩
  have hm : ∀ l, l ∈ allL nl dl ↔ l ∈ ls := fun l => pl.mem_iff.symm
  have N : NetOk n ls := T.net.congr hm (by rw [pl.length_eq]; exact T.net.l15)
  have n5 := N.n5
  refine ⟨f, rfl, f0, f1, by omega, ?_⟩
  rw [fl]
  refine ⟨size2, rfl, rfl, rfl, rfl, ?_⟩
  simp only [st_cc, st_cn, st_nn, se0, se1, se2, se3, se4, se5, se6, se7, se8, se9, se10, se11, se12, se13, se14, se15, se16, se17, se18, se19]
  refine fun hl1 => ⟨hl1, rfl, fun i acc w' => acc = (ls.take i).map (fun l => D.int (wP f l)) ∧ wd = w', ⟨rfl, rfl⟩, fun i d acc w' hd ⟨ha, hw⟩ => ?_, fun acc w' ⟨ha, hw⟩ => ?_⟩
  · obtain ⟨l, hl, rfl⟩ := gmap hd
    exact ⟨rfl, rfl, rfl, rfl, mulR ⟨by omega, by omega⟩, mulR ⟨by omega, by omega⟩, rfl, by rw [ha]; exact tkm (f := fun l => D.int (wP f l)) hl, hw⟩
  rw [List.length_map, List.take_length] at ha
  subst ha hw
  refine ⟨n, ls, wP f, rfl, N, fun r hr => R r ((Ring.congr hm).mpr hr), fun bs Pb => ?_⟩
  have bl := Pb.len
  refine fun hl2 => ⟨hl2, rfl, fun i acc w' => acc = (bs.take i).map (fun b => frD (low b f.2)) ∧ wd = w', ⟨rfl, rfl⟩, fun i d acc w' hd ⟨ha, hw⟩ => ?_, fun acc w' ⟨ha, hw⟩ => ?_⟩
  · obtain ⟨b, hb, rfl⟩ := gmap hd
    exact ⟨rfl, rfl, b, f.2, rfl, by omega, by omega, rfl, by rw [ha]; exact tkm (f := fun b => frD (low b f.2)) hb, hw⟩
  rw [List.length_map, List.take_length] at ha
  subst ha hw
  exact q bs (Pb.congr fun l => (hm l).symm)
end
end Kz

set_option Elab.async false
set_option linter.all false
set_option maxRecDepth 100000
set_option maxHeartbeats 4000000
set_option autoImplicit false
/-! Own plans checked. -/
namespace Kz
open PySem PySem.Spec PyProof.Rows L2
section
variable {P : Program} {w : World} {K : PySem.W.Frag} {mg : Str → Option Value} {base : Heap} {B : RB}
def F_start_in : ZF := fun ds wd Q => ∃ (d x y : D) (f g : Int × Int) (k : Int), ds = [d, .int k] ∧ is2 d x y ∧ isF x f ∧ isF y g ∧ 0 < f.2 ∧ 0 < g.2 ∧ f.2 * g.2 < 1073741824 ∧ sm k ∧ Q (.dat (frD (low (f.1 * g.2 + g.1 * k * f.2) (f.2 * g.2)))) wd
theorem len_start_in : ∀ ds wd Q, F_start_in ds wd Q → ds.length = 2 := fun ds wd Q ⟨a, _, _, _, _, _, e, _⟩ => by rw [e]; rfl
theorem sc_start_in : FnScope ["pair", "k"] ["pair", "k"] (defScope Kp.s_start_in) := ⟨rfl, rfl, rfl, by decide +kernel, rfl, by decide +kernel, by decide +kernel⟩
theorem ok_start_in (T : Top K mg B) (hK : B.K = K) (A : AllDefs K mg) (G_plus : ZDef P w K mg base B "plus" 2 F_plus) : ZDef P w K mg base B "start_in" 3 F_start_in := by
  subst hK
  obtain ⟨f, fd, FD, hm⟩ := A 31 Kp.d_start_in rfl rfl
  have sc := sc_start_in
  refine zdef (k := 2) FD hm sc (fun _ _ _ _ _ _ us hl => match us, hl with | [_, _], _ => rfl) len_start_in fun cdv A0 outer s H E hr => ⟨_, (zs_one (zs_ret (z_E (z_call G_plus (hr.mono (by decide)) (by rfl) (za_cons (z_ix (zv 0) zint) (za_cons (z_tup (za_cons (z_op op_mul l_I (z_ix (z_ix (zv 0) zint) zint) (zv 1)) (za_cons (z_ix (z_ix (zv 0) zint) zint) za_nil))) za_nil)))))), fun ds wd Q h => ?_⟩
  obtain ⟨d, x, y, f, g, k, rfl, h1, h2, h3, f0, g0, fg, hk, q⟩ := h
  rcases h1 with rfl | rfl <;> rcases h3 with rfl | rfl <;>
    exact ⟨x, rfl, _, rfl, _, rfl, mulR hk, _, rfl, _, rfl, size2, x, _, f, (g.1 * k, g.2), rfl, h2, .inr rfl, f0, g0, fg, q⟩
/-- a fraction not below nothing -/
def fracN (d : D) : Option (Int × Int) := match frac d with
  | some f => if 0 ≤ f.1 then some f else none
  | none => none
def pairOf (d : D) : Option ((Int × Int) × (Int × Int)) := match els d with
  | some [x, y] => (match fracN x, fracN y with
    | some f, some g => some (f, g)
    | _, _ => none)
  | _ => none
def tkp (d : D) : Prop := tk d ∧ ∀ xs, els d = some xs → ∀ x ∈ xs, tks x
theorem frac_is {d : D} {f : Int × Int} (h : frac d = some f) : isF d f ∧ 1 ≤ f.2 := by
  unfold frac at h
  split at h
  · rename_i a b e
    split at h
    · cases h
      refine ⟨?_, by assumption⟩
      unfold els at e
      split at e
      · cases e; exact .inl rfl
      · cases e; exact .inr rfl
      · cases e
    · cases h
  · cases h
theorem fracN_some {d : D} : (fracN d).isSome = ((frac d).isSome && (match frac d with | some f => decide (0 ≤ f.1) | none => false)) := by
  unfold fracN
  cases frac d with
  | none => rfl
  | some f =>
    show (if 0 ≤ f.1 then some f else none).isSome = (true && decide (0 ≤ f.1))
    by_cases c : 0 ≤ f.1 <;> simp [c]
theorem part_read {x : D} {z : Z} {Q : D → Z → Prop} (hl : look z.e 1 = some (.dat x)) (hx : tks x) (q : Q (.bl (fracN x).isSome) z) :
    zAndV (zAd (zCall F_is_fraction (zCons (zVar 1) zNil))) (zBin (zI0 fun i j => .bl (decide (j ≤ i))) (zBin zIx (zVar 1) (zC (.int 0))) (zC (.int 0))) z Q := by
  simp only [zAndV, zAd, zCall, zCons, zNil, zVar, zBin, zI0, zC, hl]
  refine ⟨x, rfl, hx, ?_⟩
  rw [fracN_some] at q
  cases e : frac x with
  | none => rw [e] at q; exact q
  | some f =>
    rw [e] at q
    obtain ⟨hf, _⟩ := frac_is e
    refine ite1 rfl ?_
    rcases hf with rfl | rfl <;> exact ⟨_, rfl, q⟩
def F_is_pair : ZF := fun ds wd Q => ∃ d, ds = [d] ∧ tkp d ∧ Q (.dat (.bl (pairOf d).isSome)) wd
theorem len_is_pair : ∀ ds wd Q, F_is_pair ds wd Q → ds.length = 1 := fun ds wd Q ⟨a, e, _⟩ => by rw [e]; rfl
theorem pair_len {d : D} {xs : List D} (e : els d = some xs) (h : xs.length ≠ 2) : pairOf d = none := by
  unfold pairOf
  rw [e]
  split
  · rename_i q; cases q; exact (h rfl).elim
  · rfl
theorem pair_two {d x y : D} (e : els d = some [x, y]) : (pairOf d).isSome = ((fracN x).isSome && (fracN y).isSome) := by
  unfold pairOf
  rw [e]
  show (match fracN x, fracN y with | some f, some g => some (f, g) | _, _ => none).isSome = _
  cases fracN x <;> cases fracN y <;> rfl
theorem sc_is_pair : FnScope ["thing", "part"] ["thing"] (defScope Kp.s_is_pair) := ⟨rfl, rfl, rfl, by decide +kernel, rfl, by decide +kernel, by decide +kernel⟩
theorem ok_is_pair (T : Top K mg B) (hK : B.K = K) (A : AllDefs K mg) (G_is_list : ZDef P w K mg base B "is_list" 1 F_is_list) (G_is_fraction : ZDef P w K mg base B "is_fraction" 3 F_is_fraction) : ZDef P w K mg base B "is_pair" 4 F_is_pair := by
  subst hK
  obtain ⟨f, fd, FD, hm⟩ := A 30 Kp.d_is_pair rfl rfl
  have sc := sc_is_pair
  refine zdef (k := 3) FD hm sc (fun _ _ _ _ _ _ us hl => match us, hl with | [_], _ => rfl) len_is_pair fun cdv A0 outer s H E hr => ⟨_, (zs_cons (zs_if (PW.pt (z_or (z_not (z_val (z_E (z_call G_is_list (hr.mono (by decide)) (by rfl) (za_cons (zv 0) za_nil))))) (z_or1 (z_cmpT op_ne l_ne (z_E (z_bi call_len (l_len rfl) T.len PySem.boot_len (za_cons (zv 0) za_nil))) zint (nomark _))))) (zs_one (zs_ret zbl)) zs_nil) (zs_one (zs_ret (z_E (z_bi (cr_all rfl) (l_all rfl) T.all (by decide +kernel) (za_cons (z_E (z_comp (own := [("part", 1)]) (zi_seq (zv 0)) (blkOk_by (by rfl)) (fun _ _ _ _ _ => (zg_name 1 sc.nd)) (fun _ _ _ _ _ => zts_nil) (fun _ _ _ _ _ => (z_andV (z_E (z_call G_is_fraction (hr.mono (by decide)) (by rfl) (za_cons (zv 1) za_nil))) (z_one (z_cmp op_ge l_B0 (z_ix (zv 1) zint) zint (nomark _))))) sc.nd)) za_nil)))))), fun ds wd Q h => ?_⟩
  obtain ⟨d, rfl, ⟨ht, hp⟩, q⟩ := h
  have le2 : 2 ≤ sizeLine := size2
  have all2 : ∀ (xs : List D) (z0 : List (Option SV)), els d = some xs → xs.length = 2 → zComp (fun z R => xs.length ≤ sizeLine → R xs z) (zgN 1) zYes (zAndV (zAd (zCall F_is_fraction (zCons (zVar 1) zNil))) (zBin (zI0 fun i j => .bl (decide (j ≤ i))) (zBin zIx (zVar 1) (zC (.int 0))) (zC (.int 0)))) [1]
      ⟨[some (.dat d), none], wd⟩ fun s z => zAll [s.d] z fun s z => Q (.dat s.d) z.w := fun xs z0 e hl => by
    rcases cp2 xs with h | ⟨x, y, rfl⟩
    · exact (h hl).elim
    have tx := hp _ e x (by simp)
    have ty := hp _ e y (by simp)
    rw [pair_two e] at q
    refine fun hl1 => ⟨hl1, rfl, fun i acc w' => acc = (([x, y] : List D).take i).map (fun u => D.bl (fracN u).isSome) ∧ wd = w', ⟨rfl, rfl⟩, fun i u acc w' hd ⟨ha, hw⟩ => ?_, fun acc w' ⟨ha, hw⟩ => ?_⟩
    · have tu : tks u := hp _ e u (List.mem_of_getElem? hd)
      refine ⟨rfl, rfl, part_read rfl tu ⟨rfl, ?_, hw⟩⟩
      rw [ha]
      exact tkm (f := fun u => D.bl (fracN u).isSome) hd
    · subst ha hw
      refine ⟨[(fracN x).isSome, (fracN y).isSome], rfl, ?_⟩
      rw [show ([(fracN x).isSome, (fracN y).isSome] : List Bool).all id = ((fracN x).isSome && (fracN y).isSome) by simp]
      exact q
  refine ⟨d, rfl, ht, ?_⟩
  cases d with
  | lst xs =>
    refine ite2 (fun c => absurd (show false = true from c) (by decide)) fun _ => ?_
    refine ite2 (fun c => ?_) fun c => ?_
    · rw [pair_len (d := .lst xs) rfl (fun e => by rw [e] at c; exact absurd c (by decide))] at q
      exact q
    · exact all2 xs [] rfl (by
        have c : ¬ (true != ((xs.length : Int) == 2)) = true := c
        rw [bnt] at c
        have c : (xs.length : Int) = 2 := by simpa using c
        omega)
  | tup xs =>
    refine ite2 (fun c => absurd (show false = true from c) (by decide)) fun _ => ?_
    refine ite2 (fun c => ?_) fun c => ?_
    · rw [pair_len (d := .tup xs) rfl (fun e => by rw [e] at c; exact absurd c (by decide))] at q
      exact q
    · exact all2 xs [] rfl (by
        have c : ¬ (true != ((xs.length : Int) == 2)) = true := c
        rw [bnt] at c
        have c : (xs.length : Int) = 2 := by simpa using c
        omega)
  | _ => exact q
end
end Kz

set_option Elab.async false
set_option linter.all false
set_option maxRecDepth 100000
set_option maxHeartbeats 4000000
set_option autoImplicit false
/-! is_own_plan. -/
namespace Kz
open PySem PySem.Spec PyProof.Rows L2
abbrev Pr := (Int × Int) × (Int × Int)
def pr0 : Pr := ((0, 1), (0, 1))
/-- a plan of n pairs -/
def plOf (n : Nat) (d : D) : Option (List Pr) := match els d with
  | some xs => if xs.length = n ∧ xs.all (fun x => (pairOf x).isSome) = true then some (xs.map fun x => (pairOf x).getD pr0) else none
  | none => none
def tkQ (d : D) : Prop := tk d ∧ ∀ xs, els d = some xs → ∀ x ∈ xs, tkp x
def gp (ps : List Pr) (e : Int) : Pr := ps.getD e.toNat pr0
def startI (p : Pr) (k : Int) : Int × Int := low (p.1.1 * p.2.2 + p.2.1 * k * p.1.2) (p.1.2 * p.2.2)
def leastI (p : Pr) (k d : Int) : Int × Int := low ((startI p k).1 * 1 + d * (startI p k).2) ((startI p k).2 * 1)
def badL (ps : List Pr) (l : Lk) : Bool := below (gp ps l.b).2 (gp ps l.a).2 || below (startI (gp ps l.b) (max 0 l.t)) (leastI (gp ps l.a) (max 0 l.t - l.t) l.d)
theorem pair_is {d : D} {p : Pr} (h : pairOf d = some p) : ∃ x y, is2 d x y ∧ isF x p.1 ∧ isF y p.2 ∧ 0 < p.1.2 ∧ 0 < p.2.2 ∧ 0 ≤ p.1.1 ∧ 0 ≤ p.2.1 := by
  have fr : ∀ {x : D} {f : Int × Int}, fracN x = some f → isF x f ∧ 0 < f.2 ∧ 0 ≤ f.1 := fun {x f} h => by
    unfold fracN at h
    cases e : frac x with
    | none => rw [e] at h; cases h
    | some g =>
      rw [e] at h
      have h : (if 0 ≤ g.1 then some g else none) = some f := h
      split at h
      · cases h
        obtain ⟨a, b⟩ := frac_is e
        exact ⟨a, by omega, by assumption⟩
      · cases h
  unfold pairOf at h
  split at h
  · rename_i x y e
    split at h
    · rename_i f g e1 e2
      cases h
      obtain ⟨a1, a2, a3⟩ := fr e1
      obtain ⟨b1, b2, b3⟩ := fr e2
      refine ⟨x, y, ?_, a1, b1, a2, b2, a3, b3⟩
      unfold els at e
      split at e
      · cases e; exact .inl rfl
      · cases e; exact .inr rfl
      · cases e
    · cases h
  · cases h
section
variable {P : Program} {w : World} {K : PySem.W.Frag} {mg : Str → Option Value} {base : Heap} {B : RB}
def F_is_own_plan : ZF := fun ds wd Q => ∃ (n : Nat) (nl : List Lk) (x : D) (dl : List Lk) (th : D), ds = [.net n (linksD nl), x, th] ∧ isDs x dl ∧ Told n nl dl ∧ tkQ th ∧
  (∀ ps, plOf n th = some ps → ∀ p ∈ ps, p.1.2 * p.2.2 < 1073741824) ∧
  ∀ b : Bool, (b = true ↔ ∃ ps, plOf n th = some ps ∧ ∀ l ∈ allL nl dl, badL ps l = false) → Q (.dat (.bl b)) wd
theorem len_is_own_plan : ∀ ds wd Q, F_is_own_plan ds wd Q → ds.length = 3 := fun ds wd Q ⟨a, _, _, _, _, e, _⟩ => by rw [e]; rfl
theorem sc_is_own_plan : FnScope ["net", "distances", "thing", "links", "pair", "a", "b", "t", "d", "first", "least"] ["net", "distances", "thing"] (defScope Kp.s_is_own_plan) := ⟨rfl, rfl, rfl, by decide +kernel, rfl, by decide +kernel, by decide +kernel⟩
theorem ok_is_own_plan (T : Top K mg B) (hK : B.K = K) (A : AllDefs K mg) (G_links_with : ZDef P w K mg base B "links_with" 5 F_links_with) (G_is_pair : ZDef P w K mg base B "is_pair" 4 F_is_pair) (G_is_list : ZDef P w K mg base B "is_list" 1 F_is_list) (G_plus : ZDef P w K mg base B "plus" 2 F_plus) (G_start_in : ZDef P w K mg base B "start_in" 3 F_start_in) (G_is_below : ZDef P w K mg base B "is_below" 1 F_is_below) : ZDef P w K mg base B "is_own_plan" 6 F_is_own_plan := by
  subst hK
  obtain ⟨f, fd, FD, hm⟩ := A 32 Kp.d_is_own_plan rfl rfl
  have sc := sc_is_own_plan
  refine zdef (k := 5) FD hm sc (fun _ _ _ _ _ _ us hl => match us, hl with | [_, _, _], _ => rfl) len_is_own_plan fun cdv A0 outer s H E hr => ⟨_, (zs_cons (zs_set (i := 3) (z_M (z_E (z_call G_links_with (hr.mono (by decide)) (by rfl) (za_cons (zv 0) (za_cons (zv 1) za_nil))))) sc.nd) (zs_cons (zs_if (PW.pt (z_or (z_not (z_val (z_E (z_call G_is_list (hr.mono (by decide)) (by rfl) (za_cons (zv 2) za_nil))))) (z_or (z_cmpT op_ne l_ne (z_E (z_bi call_len (l_len rfl) T.len PySem.boot_len (za_cons (zv 2) za_nil))) (z_many (zv 0) T.cls T.many) (nomark _)) (z_or1 (z_not (z_val (z_E (z_bi (cr_all rfl) (l_all rfl) T.all (by decide +kernel) (za_cons (z_E (z_comp (own := [("pair", 4)]) (zi_seq (zv 2)) (blkOk_by (by rfl)) (fun _ _ _ _ _ => (zg_name 4 sc.nd)) (fun _ _ _ _ _ => zts_nil) (fun _ _ _ _ _ => (z_E (z_call G_is_pair (hr.mono (by decide)) (by rfl) (za_cons (zv 4) za_nil)))) sc.nd)) za_nil))))))))) (zs_one (zs_ret zbl)) zs_nil) (zs_cons (zs_for (zi_seq (zv 3)) (zg_tup (n := 4) (zg_cons (zg_name 5 sc.nd) (zg_cons (zg_name 6 sc.nd) (zg_cons (zg_name 7 sc.nd) (zg_cons (zg_name 8 sc.nd) zg_nil))))) (zs_cons (zs_set (i := 9) (z_M (z_E (z_bi (call_max2 rfl) (l_max) T.max (by decide +kernel) (za_cons zint (za_cons (zv 7) za_nil))))) sc.nd) (zs_cons (zs_set (i := 10) (z_M (z_E (z_call G_plus (hr.mono (by decide)) (by rfl) (za_cons (z_E (z_call G_start_in (hr.mono (by decide)) (by rfl) (za_cons (z_ix (zv 2) (zv 5)) (za_cons (z_op op_sub l_I0 (zv 9) (zv 7)) za_nil)))) (za_cons (z_tup (za_cons (zv 8) (za_cons zint za_nil))) za_nil))))) sc.nd) (zs_one (zs_if (PW.pt (z_or (z_val (z_E (z_call G_is_below (hr.mono (by decide)) (by rfl) (za_cons (z_ix (z_ix (zv 2) (zv 6)) zint) (za_cons (z_ix (z_ix (zv 2) (zv 5)) zint) za_nil))))) (z_or1 (z_val (z_E (z_call G_is_below (hr.mono (by decide)) (by rfl) (za_cons (z_E (z_call G_start_in (hr.mono (by decide)) (by rfl) (za_cons (z_ix (zv 2) (zv 6)) (za_cons (zv 9) za_nil)))) (za_cons (zv 10) za_nil)))))))) (zs_one (zs_ret zbl)) zs_nil))))) (zs_one (zs_ret zbl))))), fun ds wd Q h => ?_⟩
  obtain ⟨n, nl, x, dl, th, rfl, hx, T, ⟨ht, hq⟩, hb, q⟩ := h
  have hlen := T.len
  refine ⟨n, nl, x, dl, rfl, hx, T.ok, by omega, fun ls pl => ?_⟩
  have hm : ∀ l, l ∈ allL nl dl ↔ l ∈ ls := fun l => pl.mem_iff.symm
  have N : NetOk n ls := T.net.congr hm (by rw [pl.length_eq]; exact T.net.l15)
  have n5 := N.n5
  have bad : plOf n th = none → Q (.dat (.bl false)) wd := fun e => q false ⟨fun h => absurd h (by decide), fun ⟨ps, h, _⟩ => by rw [e] at h; cases h⟩
  refine ⟨th, rfl, ht, ?_⟩
  cases th with
  | lst xs =>
    have tp : ∀ u ∈ xs, tkp u := fun u hu => hq xs rfl u hu
    refine ite2 (fun c => absurd (show false = true from c) (by decide)) fun _ => ?_
    refine ite2 (fun c => ?_) fun c => ?_
    · refine bad ?_
      show (if xs.length = n ∧ _ then _ else none) = none
      refine if_neg fun h => ?_
      have c : (true != ((xs.length : Int) == (n : Int))) = true := c
      rw [h.1, bnt] at c
      simp at c
    have hl : xs.length = n := by
      have c : ¬ (true != ((xs.length : Int) == (n : Int))) = true := c
      rw [bnt] at c
      have c : (xs.length : Int) = n := by simpa using c
      omega
    refine fun hl1 => ⟨hl1, rfl, fun i acc w' => acc = (xs.take i).map (fun u => D.bl (pairOf u).isSome) ∧ wd = w', ⟨rfl, rfl⟩, fun i u acc w' hd ⟨ha, hw⟩ => ?_, fun acc w' ⟨ha, hw⟩ => ?_⟩
    · exact ⟨rfl, rfl, u, rfl, tp u (List.mem_of_getElem? hd), rfl, by rw [ha]; exact tkm (f := fun u => D.bl (pairOf u).isSome) hd, hw⟩
    rw [List.take_length] at ha
    subst ha hw
    refine ⟨xs.map fun u => (pairOf u).isSome, by rw [List.map_map]; rfl, ?_⟩
    have eall : ((xs.map fun u => (pairOf u).isSome).all id) = xs.all fun u => (pairOf u).isSome := by rw [List.all_map]; rfl
    rw [eall]
    refine ite2 (fun c => ?_) fun c => ?_
    · refine bad ?_
      show (if xs.length = n ∧ _ then _ else none) = none
      refine if_neg fun h => ?_
      have c : (!(xs.all fun u => (pairOf u).isSome)) = true := c
      rw [h.2] at c
      exact absurd c (by decide)
    have hall : (xs.all fun u => (pairOf u).isSome) = true := by
      have c : ¬ (!(xs.all fun u => (pairOf u).isSome)) = true := c
      cases h : xs.all fun u => (pairOf u).isSome with
      | true => rfl
      | false => rw [h] at c; exact absurd rfl c
    have hpl : plOf n (.lst xs) = some (xs.map fun x => (pairOf x).getD pr0) := if_pos ⟨hl, hall⟩
    generalize hps : (xs.map fun x => (pairOf x).getD pr0) = ps at hpl
    have hbs := hb ps hpl
    have get : ∀ e : Int, 0 ≤ e → e < n → ∃ u, atI xs e = some u ∧ pairOf u = some (gp ps e) ∧ gp ps e ∈ ps := fun e h0 h1 => by
      have lt : e.toNat < xs.length := by omega
      have hu := List.getElem?_eq_getElem lt
      have hs := List.all_eq_true.mp hall _ (List.getElem_mem lt)
      cases hp : pairOf xs[e.toNat] with
      | none => rw [hp] at hs; cases hs
      | some p =>
        have hg : ps[e.toNat]? = some p := by rw [← hps, List.getElem?_map, hu, Option.map_some, hp]; rfl
        have : gp ps e = p := by unfold gp; rw [List.getD_eq_getElem?_getD, hg]; rfl
        exact ⟨_, atI_nat h0 hu, by rw [this]; exact hp, by rw [this]; exact List.mem_of_getElem? hg⟩
    refine fun hl2 => ⟨fun i z => ∃ x5 x6 x7 x8 x9 x10, z = ⟨[some (.dat (.net n (linksD nl))), some (.dat x), some (.dat (.lst xs)), some (.dat (linksD ls)), none, x5, x6, x7, x8, x9, x10], wd⟩ ∧ ∀ l ∈ ls.take i, badL ps l = false,
      ⟨_, _, _, _, _, _, rfl, fun l h => absurd h (by simp)⟩, fun i d z hd ⟨x5, x6, x7, x8, x9, x10, hz, hno⟩ => ?_, fun z ⟨x5, x6, x7, x8, x9, x10, hz, hno⟩ => ?_⟩
    · subst hz
      obtain ⟨l, hli, rfl⟩ := gmap hd
      have hlm : l ∈ ls := List.mem_of_getElem? hli
      obtain ⟨a0, a1, b0, b1⟩ := N.inn l hlm
      have tb := N.tb l hlm
      obtain ⟨ua, hua, pa, ma⟩ := get l.a a0 a1
      obtain ⟨ub, hub, pb, mb⟩ := get l.b b0 b1
      have ba := hbs _ ma
      have bb := hbs _ mb
      obtain ⟨xa, ya, ia, fa1, fa2, da1, da2, na1, na2⟩ := pair_is pa
      obtain ⟨xb, yb, ib, fb1, fb2, db1, db2, nb1, nb2⟩ := pair_is pb
      have da : 0 < (gp ps l.a).1.2 * (gp ps l.a).2.2 := Int.mul_pos da1 da2
      have db : 0 < (gp ps l.b).1.2 * (gp ps l.b).2.2 := Int.mul_pos db1 db2
      have sa := low_lowest (a := (gp ps l.a).1.1 * (gp ps l.a).2.2 + (gp ps l.a).2.1 * (max 0 l.t - l.t) * (gp ps l.a).1.2) (Int.ne_of_gt da)
      have sb := low_lowest (a := (gp ps l.b).1.1 * (gp ps l.b).2.2 + (gp ps l.b).2.1 * (max 0 l.t) * (gp ps l.b).1.2) (Int.ne_of_gt db)
      have la := low_le (a := (gp ps l.a).1.1 * (gp ps l.a).2.2 + (gp ps l.a).2.1 * (max 0 l.t - l.t) * (gp ps l.a).1.2) (Int.ne_of_gt da)
      have lb := low_le (a := (gp ps l.b).1.1 * (gp ps l.b).2.2 + (gp ps l.b).2.1 * (max 0 l.t) * (gp ps l.b).1.2) (Int.ne_of_gt db)
      have ga : (gp ps l.a).2.2 ≤ (gp ps l.a).1.2 * (gp ps l.a).2.2 := by
        have : 1 * (gp ps l.a).2.2 ≤ (gp ps l.a).1.2 * (gp ps l.a).2.2 := Int.mul_le_mul_of_nonneg_right (by omega) (by omega)
        omega
      have gb : (gp ps l.b).2.2 ≤ (gp ps l.b).1.2 * (gp ps l.b).2.2 := by
        have : 1 * (gp ps l.b).2.2 ≤ (gp ps l.b).1.2 * (gp ps l.b).2.2 := Int.mul_le_mul_of_nonneg_right (by omega) (by omega)
        omega
      have sap := sa.pos
      have sbp := sb.pos
      have lp : (startI (gp ps l.a) (max 0 l.t - l.t)).2 * 1 < 1073741824 := by unfold startI; omega
      have lp0 : 0 < (startI (gp ps l.a) (max 0 l.t - l.t)).2 := sap
      have ll := low_lowest (a := (startI (gp ps l.a) (max 0 l.t - l.t)).1 * 1 + l.d * (startI (gp ps l.a) (max 0 l.t - l.t)).2) (b := (startI (gp ps l.a) (max 0 l.t - l.t)).2 * 1) (by omega)
      have ll2 := low_le (a := (startI (gp ps l.a) (max 0 l.t - l.t)).1 * 1 + l.d * (startI (gp ps l.a) (max 0 l.t - l.t)).2) (b := (startI (gp ps l.a) (max 0 l.t - l.t)).2 * 1) (by omega)
      have llp := ll.pos
      have m1 : sm (gp ps l.b).2.2 := ⟨by omega, by omega⟩
      have m2 : sm (gp ps l.a).2.2 := ⟨by omega, by omega⟩
      have m3 : sm (startI (gp ps l.b) (max 0 l.t)).2 := ⟨by unfold startI; omega, by unfold startI; omega⟩
      have m4 : sm (leastI (gp ps l.a) (max 0 l.t - l.t) l.d).2 := ⟨by unfold leastI; omega, by unfold leastI; omega⟩
      have no : badL ps l = true → Q (.dat (.bl false)) wd := fun h => q false ⟨fun h2 => absurd h2 (by decide), fun ⟨ps', e', h'⟩ => by
        rw [hpl] at e'
        cases e'
        rw [h' l ((hm l).mpr hlm)] at h
        cases h⟩
      refine ⟨rfl, rfl, ?_⟩
      simp only [st_cc, st_cn, st_nn, se0, se1, se2, se3, se4, se5, se6, se7, se8, se9, se10, se11, se12, se13, se14, se15, se16, se17, se18, se19]
      refine ⟨ua, hua, ua, xa, ya, (gp ps l.a).1, (gp ps l.a).2, max 0 l.t - l.t, rfl, ia, fa1, fa2, da1, da2, ba, ⟨by omega, by omega⟩, ?_⟩
      refine ⟨size2, _, _, startI (gp ps l.a) (max 0 l.t - l.t), (l.d, 1), rfl, isF_frD _, .inr rfl, lp0, (show (0 : Int) < 1 by omega), lp, ?_⟩
      simp only [st_cc, st_cn, st_nn, se0, se1, se2, se3, se4, se5, se6, se7, se8, se9, se10, se11, se12, se13, se14, se15, se16, se17, se18, se19]
      rcases ib with rfl | rfl <;> rcases ia with rfl | rfl
      all_goals
        refine ⟨_, hub, yb, rfl, _, hua, ya, rfl, yb, ya, (gp ps l.b).2, (gp ps l.a).2, rfl, fb2, fa2, m1, m2, ?_⟩
        refine ite2 (fun c => ?_) fun c => ?_
        · refine no ?_
          unfold badL
          rw [show below (gp ps l.b).2 (gp ps l.a).2 = true from c, Bool.true_or]
        · refine ⟨_, hub, _, xb, yb, (gp ps l.b).1, (gp ps l.b).2, max 0 l.t, rfl, by first | exact .inl rfl | exact .inr rfl, fb1, fb2, db1, db2, bb, ⟨by omega, by omega⟩, ?_⟩
          refine ⟨_, _, startI (gp ps l.b) (max 0 l.t), leastI (gp ps l.a) (max 0 l.t - l.t) l.d, rfl, isF_frD _, isF_frD _, m3, m4, ?_⟩
          refine ite2 (fun c2 => ?_) fun c2 => ?_
          · refine no ?_
            unfold badL
            rw [show below (startI (gp ps l.b) (max 0 l.t)) (leastI (gp ps l.a) (max 0 l.t - l.t) l.d) = true from c2, Bool.or_true]
          · refine ⟨_, _, _, _, _, _, rfl, fun y hy => ?_⟩
            rw [tk1 hli] at hy
            rcases List.mem_append.mp hy with hy | hy
            · exact hno y hy
            · rw [List.mem_singleton.mp hy]
              unfold badL
              rw [Bool.eq_false_iff.mpr c, Bool.eq_false_iff.mpr c2]
              rfl
    · subst hz
      rw [List.length_map, List.take_length] at hno
      exact q true ⟨fun _ => ⟨ps, hpl, fun l hl => hno l ((hm l).mp hl)⟩, fun _ => rfl⟩
  | tup xs =>
    have tp : ∀ u ∈ xs, tkp u := fun u hu => hq xs rfl u hu
    refine ite2 (fun c => absurd (show false = true from c) (by decide)) fun _ => ?_
    refine ite2 (fun c => ?_) fun c => ?_
    · refine bad ?_
      show (if xs.length = n ∧ _ then _ else none) = none
      refine if_neg fun h => ?_
      have c : (true != ((xs.length : Int) == (n : Int))) = true := c
      rw [h.1, bnt] at c
      simp at c
    have hl : xs.length = n := by
      have c : ¬ (true != ((xs.length : Int) == (n : Int))) = true := c
      rw [bnt] at c
      have c : (xs.length : Int) = n := by simpa using c
      omega
    refine fun hl1 => ⟨hl1, rfl, fun i acc w' => acc = (xs.take i).map (fun u => D.bl (pairOf u).isSome) ∧ wd = w', ⟨rfl, rfl⟩, fun i u acc w' hd ⟨ha, hw⟩ => ?_, fun acc w' ⟨ha, hw⟩ => ?_⟩
    · exact ⟨rfl, rfl, u, rfl, tp u (List.mem_of_getElem? hd), rfl, by rw [ha]; exact tkm (f := fun u => D.bl (pairOf u).isSome) hd, hw⟩
    rw [List.take_length] at ha
    subst ha hw
    refine ⟨xs.map fun u => (pairOf u).isSome, by rw [List.map_map]; rfl, ?_⟩
    have eall : ((xs.map fun u => (pairOf u).isSome).all id) = xs.all fun u => (pairOf u).isSome := by rw [List.all_map]; rfl
    rw [eall]
    refine ite2 (fun c => ?_) fun c => ?_
    · refine bad ?_
      show (if xs.length = n ∧ _ then _ else none) = none
      refine if_neg fun h => ?_
      have c : (!(xs.all fun u => (pairOf u).isSome)) = true := c
      rw [h.2] at c
      exact absurd c (by decide)
    have hall : (xs.all fun u => (pairOf u).isSome) = true := by
      have c : ¬ (!(xs.all fun u => (pairOf u).isSome)) = true := c
      cases h : xs.all fun u => (pairOf u).isSome with
      | true => rfl
      | false => rw [h] at c; exact absurd rfl c
    have hpl : plOf n (.tup xs) = some (xs.map fun x => (pairOf x).getD pr0) := if_pos ⟨hl, hall⟩
    generalize hps : (xs.map fun x => (pairOf x).getD pr0) = ps at hpl
    have hbs := hb ps hpl
    have get : ∀ e : Int, 0 ≤ e → e < n → ∃ u, atI xs e = some u ∧ pairOf u = some (gp ps e) ∧ gp ps e ∈ ps := fun e h0 h1 => by
      have lt : e.toNat < xs.length := by omega
      have hu := List.getElem?_eq_getElem lt
      have hs := List.all_eq_true.mp hall _ (List.getElem_mem lt)
      cases hp : pairOf xs[e.toNat] with
      | none => rw [hp] at hs; cases hs
      | some p =>
        have hg : ps[e.toNat]? = some p := by rw [← hps, List.getElem?_map, hu, Option.map_some, hp]; rfl
        have : gp ps e = p := by unfold gp; rw [List.getD_eq_getElem?_getD, hg]; rfl
        exact ⟨_, atI_nat h0 hu, by rw [this]; exact hp, by rw [this]; exact List.mem_of_getElem? hg⟩
    refine fun hl2 => ⟨fun i z => ∃ x5 x6 x7 x8 x9 x10, z = ⟨[some (.dat (.net n (linksD nl))), some (.dat x), some (.dat (.tup xs)), some (.dat (linksD ls)), none, x5, x6, x7, x8, x9, x10], wd⟩ ∧ ∀ l ∈ ls.take i, badL ps l = false,
      ⟨_, _, _, _, _, _, rfl, fun l h => absurd h (by simp)⟩, fun i d z hd ⟨x5, x6, x7, x8, x9, x10, hz, hno⟩ => ?_, fun z ⟨x5, x6, x7, x8, x9, x10, hz, hno⟩ => ?_⟩
    · subst hz
      obtain ⟨l, hli, rfl⟩ := gmap hd
      have hlm : l ∈ ls := List.mem_of_getElem? hli
      obtain ⟨a0, a1, b0, b1⟩ := N.inn l hlm
      have tb := N.tb l hlm
      obtain ⟨ua, hua, pa, ma⟩ := get l.a a0 a1
      obtain ⟨ub, hub, pb, mb⟩ := get l.b b0 b1
      have ba := hbs _ ma
      have bb := hbs _ mb
      obtain ⟨xa, ya, ia, fa1, fa2, da1, da2, na1, na2⟩ := pair_is pa
      obtain ⟨xb, yb, ib, fb1, fb2, db1, db2, nb1, nb2⟩ := pair_is pb
      have da : 0 < (gp ps l.a).1.2 * (gp ps l.a).2.2 := Int.mul_pos da1 da2
      have db : 0 < (gp ps l.b).1.2 * (gp ps l.b).2.2 := Int.mul_pos db1 db2
      have sa := low_lowest (a := (gp ps l.a).1.1 * (gp ps l.a).2.2 + (gp ps l.a).2.1 * (max 0 l.t - l.t) * (gp ps l.a).1.2) (Int.ne_of_gt da)
      have sb := low_lowest (a := (gp ps l.b).1.1 * (gp ps l.b).2.2 + (gp ps l.b).2.1 * (max 0 l.t) * (gp ps l.b).1.2) (Int.ne_of_gt db)
      have la := low_le (a := (gp ps l.a).1.1 * (gp ps l.a).2.2 + (gp ps l.a).2.1 * (max 0 l.t - l.t) * (gp ps l.a).1.2) (Int.ne_of_gt da)
      have lb := low_le (a := (gp ps l.b).1.1 * (gp ps l.b).2.2 + (gp ps l.b).2.1 * (max 0 l.t) * (gp ps l.b).1.2) (Int.ne_of_gt db)
      have ga : (gp ps l.a).2.2 ≤ (gp ps l.a).1.2 * (gp ps l.a).2.2 := by
        have : 1 * (gp ps l.a).2.2 ≤ (gp ps l.a).1.2 * (gp ps l.a).2.2 := Int.mul_le_mul_of_nonneg_right (by omega) (by omega)
        omega
      have gb : (gp ps l.b).2.2 ≤ (gp ps l.b).1.2 * (gp ps l.b).2.2 := by
        have : 1 * (gp ps l.b).2.2 ≤ (gp ps l.b).1.2 * (gp ps l.b).2.2 := Int.mul_le_mul_of_nonneg_right (by omega) (by omega)
        omega
      have sap := sa.pos
      have sbp := sb.pos
      have lp : (startI (gp ps l.a) (max 0 l.t - l.t)).2 * 1 < 1073741824 := by unfold startI; omega
      have lp0 : 0 < (startI (gp ps l.a) (max 0 l.t - l.t)).2 := sap
      have ll := low_lowest (a := (startI (gp ps l.a) (max 0 l.t - l.t)).1 * 1 + l.d * (startI (gp ps l.a) (max 0 l.t - l.t)).2) (b := (startI (gp ps l.a) (max 0 l.t - l.t)).2 * 1) (by omega)
      have ll2 := low_le (a := (startI (gp ps l.a) (max 0 l.t - l.t)).1 * 1 + l.d * (startI (gp ps l.a) (max 0 l.t - l.t)).2) (b := (startI (gp ps l.a) (max 0 l.t - l.t)).2 * 1) (by omega)
      have llp := ll.pos
      have m1 : sm (gp ps l.b).2.2 := ⟨by omega, by omega⟩
      have m2 : sm (gp ps l.a).2.2 := ⟨by omega, by omega⟩
      have m3 : sm (startI (gp ps l.b) (max 0 l.t)).2 := ⟨by unfold startI; omega, by unfold startI; omega⟩
      have m4 : sm (leastI (gp ps l.a) (max 0 l.t - l.t) l.d).2 := ⟨by unfold leastI; omega, by unfold leastI; omega⟩
      have no : badL ps l = true → Q (.dat (.bl false)) wd := fun h => q false ⟨fun h2 => absurd h2 (by decide), fun ⟨ps', e', h'⟩ => by
        rw [hpl] at e'
        cases e'
        rw [h' l ((hm l).mpr hlm)] at h
        cases h⟩
      refine ⟨rfl, rfl, ?_⟩
      simp only [st_cc, st_cn, st_nn, se0, se1, se2, se3, se4, se5, se6, se7, se8, se9, se10, se11, se12, se13, se14, se15, se16, se17, se18, se19]
      refine ⟨ua, hua, ua, xa, ya, (gp ps l.a).1, (gp ps l.a).2, max 0 l.t - l.t, rfl, ia, fa1, fa2, da1, da2, ba, ⟨by omega, by omega⟩, ?_⟩
      refine ⟨size2, _, _, startI (gp ps l.a) (max 0 l.t - l.t), (l.d, 1), rfl, isF_frD _, .inr rfl, lp0, (show (0 : Int) < 1 by omega), lp, ?_⟩
      simp only [st_cc, st_cn, st_nn, se0, se1, se2, se3, se4, se5, se6, se7, se8, se9, se10, se11, se12, se13, se14, se15, se16, se17, se18, se19]
      rcases ib with rfl | rfl <;> rcases ia with rfl | rfl
      all_goals
        refine ⟨_, hub, yb, rfl, _, hua, ya, rfl, yb, ya, (gp ps l.b).2, (gp ps l.a).2, rfl, fb2, fa2, m1, m2, ?_⟩
        refine ite2 (fun c => ?_) fun c => ?_
        · refine no ?_
          unfold badL
          rw [show below (gp ps l.b).2 (gp ps l.a).2 = true from c, Bool.true_or]
        · refine ⟨_, hub, _, xb, yb, (gp ps l.b).1, (gp ps l.b).2, max 0 l.t, rfl, by first | exact .inl rfl | exact .inr rfl, fb1, fb2, db1, db2, bb, ⟨by omega, by omega⟩, ?_⟩
          refine ⟨_, _, startI (gp ps l.b) (max 0 l.t), leastI (gp ps l.a) (max 0 l.t - l.t) l.d, rfl, isF_frD _, isF_frD _, m3, m4, ?_⟩
          refine ite2 (fun c2 => ?_) fun c2 => ?_
          · refine no ?_
            unfold badL
            rw [show below (startI (gp ps l.b) (max 0 l.t)) (leastI (gp ps l.a) (max 0 l.t - l.t) l.d) = true from c2, Bool.or_true]
          · refine ⟨_, _, _, _, _, _, rfl, fun y hy => ?_⟩
            rw [tk1 hli] at hy
            rcases List.mem_append.mp hy with hy | hy
            · exact hno y hy
            · rw [List.mem_singleton.mp hy]
              unfold badL
              rw [Bool.eq_false_iff.mpr c, Bool.eq_false_iff.mpr c2]
              rfl
    · subst hz
      rw [List.length_map, List.take_length] at hno
      exact q true ⟨fun _ => ⟨ps, hpl, fun l hl => hno l ((hm l).mp hl)⟩, fun _ => rfl⟩
  | _ => exact bad rfl
end
end Kz

set_option Elab.async false
set_option linter.all false
set_option maxRecDepth 100000
set_option maxHeartbeats 4000000
set_option autoImplicit false
/-! The law's small defs. -/
namespace Kz
open PySem PySem.Spec PyProof.Rows L2
section
variable {P : Program} {w : World} {K : PySem.W.Frag} {mg : Str → Option Value} {base : Heap} {B : RB}
abbrev F_law_is_less : ZF := F_is_below
theorem len_law_is_less : ∀ ds wd Q, F_law_is_less ds wd Q → ds.length = 2 := len_is_below
theorem sc_law_is_less : FnScope ["_law_one", "_law_other"] ["_law_one", "_law_other"] (defScope Kp.s_law_is_less) := ⟨rfl, rfl, rfl, by decide +kernel, rfl, by decide +kernel, by decide +kernel⟩
theorem ok_law_is_less (T : Top K mg B) (hK : B.K = K) (A : AllDefs K mg) : ZDef P w K mg base B "_law_is_less" 1 F_law_is_less := by
  subst hK
  obtain ⟨f, fd, FD, hm⟩ := A 45 Kp.d_law_is_less rfl rfl
  have sc := sc_law_is_less
  refine zdef (k := 0) FD hm sc (fun _ _ _ _ _ _ us hl => match us, hl with | [_, _], _ => rfl) len_law_is_less fun cdv A0 outer s H E hr => ⟨_, (zs_one (zs_ret (z_cmp op_lt l_B0 (z_op op_mul l_I (z_ix (zv 0) zint) (z_ix (zv 1) zint)) (z_op op_mul l_I (z_ix (zv 1) zint) (z_ix (zv 0) zint)) (nomark _)))), fun ds wd Q h => ?_⟩
  obtain ⟨d, e, f1, g, rfl, h1, h2, s1, s2, q⟩ := h
  rcases h1 with rfl | rfl <;> rcases h2 with rfl | rfl <;> exact ⟨_, rfl, _, rfl, mulR s2, _, rfl, _, rfl, mulR s1, q⟩
abbrev F_law_n_sums : ZF := F_sums_of
theorem len_law_n_sums : ∀ ds wd Q, F_law_n_sums ds wd Q → ds.length = 1 := len_sums_of
theorem sc_law_n_sums : FnScope ["_law_ring", "_law_link"] ["_law_ring"] (defScope Kp.s_law_n_sums) := ⟨rfl, rfl, rfl, by decide +kernel, rfl, by decide +kernel, by decide +kernel⟩
theorem ok_law_n_sums (T : Top K mg B) (hK : B.K = K) (A : AllDefs K mg) : ZDef P w K mg base B "_law_n_sums" 1 F_law_n_sums := by
  subst hK
  obtain ⟨f, fd, FD, hm⟩ := A 44 Kp.d_law_n_sums rfl rfl
  have sc := sc_law_n_sums
  refine zdef (k := 0) FD hm sc (fun _ _ _ _ _ _ us hl => match us, hl with | [_], _ => rfl) len_law_n_sums fun cdv A0 outer s H E hr => ⟨_, (zs_one (zs_ret (z_tup (za_cons (z_E (z_bi (cr_sum rfl) (l_sum rfl) T.sum (by decide +kernel) (za_cons (z_E (z_comp (own := [("_law_link", 1)]) (zi_seq (zv 0)) (blkOk_by (by rfl)) (fun _ _ _ _ _ => (zg_name 1 sc.nd)) (fun _ _ _ _ _ => zts_nil) (fun _ _ _ _ _ => (z_ix (zv 1) zint)) sc.nd)) za_nil))) (za_cons (z_E (z_bi (cr_sum rfl) (l_sum rfl) T.sum (by decide +kernel) (za_cons (z_E (z_comp (own := [("_law_link", 1)]) (zi_seq (zv 0)) (blkOk_by (by rfl)) (fun _ _ _ _ _ => (zg_name 1 sc.nd)) (fun _ _ _ _ _ => zts_nil) (fun _ _ _ _ _ => (z_ix (zv 1) zint)) sc.nd)) za_nil))) za_nil))))), fun ds wd Q h => ?_⟩
  obtain ⟨r, rfl, q⟩ := h
  unfold ringD
  simp only [zComp, zYes, wipeE, noOwn, List.map, zSeq, zNext, zPass, zRet, zRetM, zRetO, zIfS, zDrop, zSet, zPar, zPar3, zMd, zAd, zVar, zC, zBin, zB, zI, zI0, zEq, zEqD, zNot, zAnd, zOr, zAndV, zOrV, zNotV, zIf, zNeg, zIsN, zNil, zCons, zStar, zLst, zTup, zEmp, zBi, zLen, zMax, zAbs, zIntOf, zListOf, zTupOf, zGcd, zCall, zIsi, zIsi2, zIsi4, zMany, zLinks, zApp, zExt, zPop, zPopAt, zPut, zLenN, zAug, zFrz, zIn, zNotInN, zInD, zGetD, zPutD, zAsg, zgN, zgNil, zgCons, zgTup, ziSeq, ziRng1, ziRng2, ziEnum, ziZip, zNoP, zPt, zCut, zCat, zIxN, setO, fin, svd_dat, svd_own, odd_l, odd_d, st_cc, st_cn, st_nn, if_true, if_false, ite_true, ite_false, dite_true, Bool.false_eq_true, decide_true, decide_false, reduceIte, Bool.false_bne, Bool.true_bne, lk0, lk1, lk2, lk3, lk4, lk5, lk6, lk7, lk8, lk9, lk10, lk11, lk12, lk13, lk14, lk15, lk16, lk17, lk18, lk19, se0, se1, se2, se3, se4, se5, se6, se7, se8, se9, se10, se11, se12, se13, se14, se15, se16, se17, se18, se19]
  refine fun hl => ⟨hl, (by trivial), fun i acc w => acc = (r.take i).map (fun l => D.int l.d) ∧ wd = w, ⟨rfl, rfl⟩, fun i d acc w hd ⟨ha, hw⟩ => ?_, fun acc w ⟨ha, hw⟩ => ?_⟩
  · obtain ⟨x, hx, rfl⟩ := gmap hd
    exact ⟨(by trivial), (by trivial), _, rfl, (by trivial), by rw [ha]; exact tkm hx, hw⟩
  rw [List.length_map, List.take_length] at ha
  subst ha hw
  refine ⟨r.map Lk.d, by rw [List.map_map]; rfl, fun hl => ⟨hl, rfl, fun i acc w => acc = (r.take i).map (fun l => D.int l.t) ∧ wd = w, ⟨rfl, rfl⟩, fun i d acc w hd ⟨ha, hw⟩ => ?_, fun acc w ⟨ha, hw⟩ => ?_⟩⟩
  · obtain ⟨x, hx, rfl⟩ := gmap hd
    exact ⟨(by trivial), (by trivial), _, rfl, (by trivial), by rw [ha]; exact tkm hx, hw⟩
  rw [List.length_map, List.take_length] at ha
  subst ha hw
  exact ⟨r.map Lk.t, by rw [List.map_map]; rfl, size2, q⟩
theorem turn_low {a b : Int} (hb : b < 0) : ((0 - a).fdiv (Nat.gcd a.natAbs b.natAbs : Nat), (0 - b).fdiv (Nat.gcd a.natAbs b.natAbs : Nat)) = low a b := by
  have hg : 0 < Nat.gcd a.natAbs b.natAbs := Nat.gcd_pos_of_pos_right _ (by omega)
  have L := low_lowest (a := a) (b := b) (by omega)
  have d1 : ((Nat.gcd a.natAbs b.natAbs : Nat) : Int) ∣ 0 - a := by rw [Int.zero_sub]; exact Int.dvd_neg.mpr (gcd_dvd_l a b)
  have d2 : ((Nat.gcd a.natAbs b.natAbs : Nat) : Int) ∣ 0 - b := by rw [Int.zero_sub]; exact Int.dvd_neg.mpr (gcd_dvd_r a b)
  have e1 := fdiv_mul d1 (by omega)
  have e2 := fdiv_mul d2 (by omega)
  have cg : ((Nat.gcd a.natAbs b.natAbs : Nat) : Int).natAbs = Nat.gcd (0 - a).natAbs (0 - b).natAbs := by rw [Int.natAbs_natCast, Int.zero_sub, Int.zero_sub, Int.natAbs_neg, Int.natAbs_neg]
  have c := cop_of e1 e2 cg (by omega)
  generalize hx : (0 - a).fdiv (Nat.gcd a.natAbs b.natAbs : Nat) = x at e1 c
  generalize hy : (0 - b).fdiv (Nat.gcd a.natAbs b.natAbs : Nat) = y at e2 c
  generalize hgg : ((Nat.gcd a.natAbs b.natAbs : Nat) : Int) = g at e1 e2
  have g0 : 0 < g := by omega
  have y0 : 0 < y := by
    have : 0 < y * g := by omega
    exact Int.pos_of_mul_pos_left this g0
  have eq := L.eq
  refine lowest_unique y0 L.pos c L.cop ?_
  show x * (low a b).2 = (low a b).1 * y
  have h1 : x * g * (low a b).2 = (low a b).1 * (y * g) := by
    rw [e1, e2, Int.zero_sub, Int.zero_sub, Int.neg_mul, Int.mul_neg, ← eq]
  refine Int.eq_of_mul_eq_mul_right (a := g) (by omega) ?_
  rw [Int.mul_assoc, Int.mul_comm _ g, ← Int.mul_assoc, h1, Int.mul_assoc]
def F_law_turned_up : ZF := fun ds wd Q => ∃ f : Int × Int, ds = [frD f] ∧ f.2 ≠ 0 ∧ f.2.natAbs < 1073741824 ∧ f.1.natAbs < 1073741824 ∧ Q (.dat (frD (low f.1 f.2))) wd
theorem len_law_turned_up : ∀ ds wd Q, F_law_turned_up ds wd Q → ds.length = 1 := fun ds wd Q ⟨a, e, _⟩ => by rw [e]; rfl
theorem sc_law_turned_up : FnScope ["_law_fraction", "_law_top", "_law_bottom", "_law_one", "_law_other"] ["_law_fraction"] (defScope Kp.s_law_turned_up) := ⟨rfl, rfl, rfl, by decide +kernel, rfl, by decide +kernel, by decide +kernel⟩
theorem ok_law_turned_up (T : Top K mg B) (hK : B.K = K) (A : AllDefs K mg) : ZDef P w K mg base B "_law_turned_up" 1 F_law_turned_up := by
  subst hK
  obtain ⟨f, fd, FD, hm⟩ := A 46 Kp.d_law_turned_up rfl rfl
  have sc := sc_law_turned_up
  refine zdef (k := 0) FD hm sc (fun _ _ _ _ _ _ us hl => match us, hl with | [_], _ => rfl) len_law_turned_up fun cdv A0 outer s H E hr => ⟨_, (zs_cons (zs_asg (z_if (z_cmpT op_gt l_B0 (z_ix (zv 0) zint) zint (nomark _)) (zv 0) (z_tup (za_cons (z_op op_sub l_I0 zint (z_ix (zv 0) zint)) (za_cons (z_op op_sub l_I0 zint (z_ix (zv 0) zint)) za_nil)))) (zg_tup (n := 2) (zg_cons (zg_name 1 sc.nd) (zg_cons (zg_name 2 sc.nd) zg_nil)))) (zs_cons (zs_par (i := 3) (j := 4) (z_M (z_E (z_bi call_abs (l_abs) T.abs (by decide +kernel) (za_cons (zv 1) za_nil)))) (z_M (zv 2)) sc.nd) (zs_cons (zs_while (z_cmpT op_gt l_B0 (zv 3) zint (nomark _)) (zs_one (zs_par (i := 3) (j := 4) (z_M (z_op op_modN l_I (zv 4) (zv 3))) (z_M (zv 3)) sc.nd))) (zs_one (zs_ret (z_tup (za_cons (z_op op_fdivN l_I (zv 1) (zv 4)) (za_cons (z_op op_fdivN l_I (zv 2) (zv 4)) za_nil)))))))), fun ds wd Q h => ?_⟩
  obtain ⟨f, rfl, hb, hs1, hs2, q⟩ := h
  have main : ∀ a b : Int, 0 < b → b.natAbs < 1073741824 → a.natAbs < 1073741824 → Q (.dat (frD (a.fdiv (Nat.gcd a.natAbs b.natAbs : Nat), b.fdiv (Nat.gcd a.natAbs b.natAbs : Nat)))) wd → ∀ x3 x4,
      zSeq (zPar 3 4 (zMd (zAd (zBi zAbs (zCons (zVar 1) zNil)))) (zMd (zVar 2))) (zSeq (zWhile (zB (zBin (zI0 fun i j => .bl (decide (j < i))) (zVar 3) (zC (.int 0)))) (zPar 3 4 (zMd (zBin (zI (fun _ j => j ≠ 0) fun i j => .int (i.fmod j)) (zVar 4) (zVar 3))) (zMd (zVar 3))))
        (zRet (zTup (zCons (zBin (zI CDivN fun i j => .int (i.fdiv j)) (zVar 1) (zVar 4)) (zCons (zBin (zI CDivN fun i j => .int (i.fdiv j)) (zVar 2) (zVar 4)) zNil))))) (fin Q)
        ⟨[some (.dat (frD f)), some (.dat (.int a)), some (.dat (.int b)), x3, x4], wd⟩ := fun a b b0 b1 a1 q x3 x4 => by
    have hg : 0 < Nat.gcd a.natAbs b.natAbs := Nat.gcd_pos_of_pos_right _ (by omega)
    have hle : Nat.gcd a.natAbs b.natAbs ≤ b.natAbs := Nat.gcd_le_right _ (by omega)
    refine ⟨fun z => ∃ u v : Int, z = ⟨[some (.dat (frD f)), some (.dat (.int a)), some (.dat (.int b)), some (.dat (.int u)), some (.dat (.int v))], wd⟩ ∧ 0 ≤ u ∧ u < 1073741824 ∧ 0 < v ∧ Nat.gcd u.natAbs v.natAbs = Nat.gcd a.natAbs b.natAbs,
      fun z => match look z.e 3 with | some (.dat (.int u)) => u.toNat | _ => 0, ⟨(a.natAbs : Nat), b, rfl, by omega, by omega, b0, by rw [Int.natAbs_natCast]⟩, fun z ⟨u, v, hz, u0, u1, v0, hgc⟩ => ?_⟩
    subst hz
    refine ite2 (fun c => ?_) fun c => ?_
    · have up : 0 < u := by simpa using c
      have e : v.fmod u = v % u := Int.fmod_eq_emod_of_nonneg _ u0
      have r0 := Int.emod_nonneg v (by omega : u ≠ 0)
      have r1 := Int.emod_lt_of_pos v up
      refine ⟨by omega, ⟨v.fmod u, u, rfl, by omega, by omega, up, ?_⟩, ?_⟩
      · rw [e, ← hgc, Int.natAbs_emod_of_nonneg (by omega), ← Nat.gcd_rec]
      · show (v.fmod u).toNat < u.toNat
        omega
    · have uz : u = 0 := by
        have : ¬ 0 < u := by simpa using c
        omega
      subst uz
      have hv : v = ((Nat.gcd a.natAbs b.natAbs : Nat) : Int) := by
        rw [← hgc]; simp; omega
      rw [← hv] at q
      exact ⟨⟨by omega, by omega⟩, ⟨by omega, by omega⟩, size2, q⟩
  refine ⟨.int f.2, rfl, ite2 (fun c => ?_) fun c => ?_⟩
  · have c : 0 < f.2 := by simpa using c
    refine ⟨rfl, rfl, main f.1 f.2 c hs1 hs2 ?_ _ _⟩
    unfold low at q
    rw [if_pos c] at q
    exact q
  · have c : f.2 < 0 := by
      have : ¬ 0 < f.2 := by simpa using c
      omega
    refine ⟨.int f.1, rfl, .int f.2, rfl, size2, rfl, rfl, main (0 - f.1) (0 - f.2) (by omega) (by omega) (by omega) ?_ _ _⟩
    rw [← turn_low c] at q
    rw [Int.zero_sub, Int.zero_sub, Int.natAbs_neg, Int.natAbs_neg, ← Int.zero_sub, ← Int.zero_sub]
    exact q
def F_law_n_asks : ZF := fun ds wd Q => ∃ r : List Lk, ds = [ringD r] ∧ (tokS r).natAbs < 1073741824 ∧ (tikS r).natAbs < 1073741824 ∧ (tokS r ≠ 0 → Q (.dat (frD (asks r))) wd) ∧ (tokS r = 0 → Q (.dat .non) wd)
theorem len_law_n_asks : ∀ ds wd Q, F_law_n_asks ds wd Q → ds.length = 1 := fun ds wd Q ⟨a, e, _⟩ => by rw [e]; rfl
theorem sc_law_n_asks : FnScope ["_law_ring", "_law_ticks", "_law_tokens"] ["_law_ring"] (defScope Kp.s_law_n_asks) := ⟨rfl, rfl, rfl, by decide +kernel, rfl, by decide +kernel, by decide +kernel⟩
theorem ok_law_n_asks (T : Top K mg B) (hK : B.K = K) (A : AllDefs K mg) (G_law_n_sums : ZDef P w K mg base B "_law_n_sums" 1 F_law_n_sums) (G_law_turned_up : ZDef P w K mg base B "_law_turned_up" 1 F_law_turned_up) : ZDef P w K mg base B "_law_n_asks" 2 F_law_n_asks := by
  subst hK
  obtain ⟨f, fd, FD, hm⟩ := A 47 Kp.d_law_n_asks rfl rfl
  have sc := sc_law_n_asks
  refine zdef (k := 1) FD hm sc (fun _ _ _ _ _ _ us hl => match us, hl with | [_], _ => rfl) len_law_n_asks fun cdv A0 outer s H E hr => ⟨_, (zs_cons (zs_asg (z_E (z_call G_law_n_sums (hr.mono (by decide)) (by rfl) (za_cons (zv 0) za_nil))) (zg_tup (n := 2) (zg_cons (zg_name 1 sc.nd) (zg_cons (zg_name 2 sc.nd) zg_nil)))) (zs_one (zs_ret (z_if (z_cmpT op_ne l_ne (zv 2) zint (nomark _)) (z_E (z_call G_law_turned_up (hr.mono (by decide)) (by rfl) (za_cons (z_tup (za_cons (zv 1) (za_cons (zv 2) za_nil))) za_nil))) znon)))), fun ds wd Q h => ?_⟩
  obtain ⟨r, rfl, h1, h2, q1, q2⟩ := h
  refine ⟨r, rfl, rfl, rfl, ?_⟩
  refine ite2 (fun c => ?_) fun c => ?_
  · have c : (true != (tokS r == 0)) = true := c
    have c : tokS r ≠ 0 := by rw [bnt] at c; simpa using c
    exact ⟨size2, (tikS r, tokS r), rfl, c, h1, h2, q1 c⟩
  · have c : ¬ (true != (tokS r == 0)) = true := c
    have c : tokS r = 0 := by rw [bnt] at c; simpa using c
    exact q2 c
def F_law_at : ZF := fun ds wd Q => ∃ (d x y : D) (f g : Int × Int) (k : Int), ds = [d, .int k] ∧ is2 d x y ∧ isF x f ∧ isF y g ∧ sm f.2 ∧ sm g.2 ∧ sm k ∧ Q (.dat (frD (f.1 * g.2 + g.1 * k * f.2, f.2 * g.2))) wd
theorem len_law_at : ∀ ds wd Q, F_law_at ds wd Q → ds.length = 2 := fun ds wd Q ⟨a, _, _, _, _, _, e, _⟩ => by rw [e]; rfl
theorem sc_law_at : FnScope ["_law_pair", "_law_k", "_law_one", "_law_two", "_law_top", "_law_bottom"] ["_law_pair", "_law_k"] (defScope Kp.s_law_at) := ⟨rfl, rfl, rfl, by decide +kernel, rfl, by decide +kernel, by decide +kernel⟩
theorem ok_law_at (T : Top K mg B) (hK : B.K = K) (A : AllDefs K mg) : ZDef P w K mg base B "_law_at" 1 F_law_at := by
  subst hK
  obtain ⟨f, fd, FD, hm⟩ := A 51 Kp.d_law_at rfl rfl
  have sc := sc_law_at
  refine zdef (k := 0) FD hm sc (fun _ _ _ _ _ _ us hl => match us, hl with | [_, _], _ => rfl) len_law_at fun cdv A0 outer s H E hr => ⟨_, (zs_cons (zs_asg (zv 0) (zg_tup (n := 2) (zg_cons (zg_tup (n := 2) (zg_cons (zg_name 2 sc.nd) (zg_cons (zg_name 3 sc.nd) zg_nil))) (zg_cons (zg_tup (n := 2) (zg_cons (zg_name 4 sc.nd) (zg_cons (zg_name 5 sc.nd) zg_nil))) zg_nil)))) (zs_one (zs_ret (z_tup (za_cons (z_op op_add l_I0 (z_op op_mul l_I (zv 2) (zv 5)) (z_op op_mul l_I (z_op op_mul l_I (zv 4) (zv 1)) (zv 3))) (za_cons (z_op op_mul l_I (zv 3) (zv 5)) za_nil)))))), fun ds wd Q h => ?_⟩
  obtain ⟨d, x, y, f, g, k, rfl, h1, h2, h3, s1, s2, s3, q⟩ := h
  rcases h1 with rfl | rfl <;> rcases h2 with rfl | rfl <;> rcases h3 with rfl | rfl <;>
    exact ⟨rfl, rfl, rfl, rfl, rfl, rfl, mulR s2, mulR s3, mulR s1, mulR s2, size2, q⟩
def F_law_is_behind : ZF := fun ds wd Q => ∃ (f g : Int × Int) (t : Int), ds = [frD f, frD g, .int t] ∧ sm f.2 ∧ sm g.2 ∧ sm t ∧ Q (.dat (.bl (decide (g.1 * f.2 + t * f.2 * g.2 ≤ f.1 * g.2)))) wd
theorem len_law_is_behind : ∀ ds wd Q, F_law_is_behind ds wd Q → ds.length = 3 := fun ds wd Q ⟨a, _, _, e, _⟩ => by rw [e]; rfl
theorem sc_law_is_behind : FnScope ["_law_one", "_law_other", "_law_ticks"] ["_law_one", "_law_other", "_law_ticks"] (defScope Kp.s_law_is_behind) := ⟨rfl, rfl, rfl, by decide +kernel, rfl, by decide +kernel, by decide +kernel⟩
theorem ok_law_is_behind (T : Top K mg B) (hK : B.K = K) (A : AllDefs K mg) : ZDef P w K mg base B "_law_is_behind" 1 F_law_is_behind := by
  subst hK
  obtain ⟨f, fd, FD, hm⟩ := A 52 Kp.d_law_is_behind rfl rfl
  have sc := sc_law_is_behind
  refine zdef (k := 0) FD hm sc (fun _ _ _ _ _ _ us hl => match us, hl with | [_, _, _], _ => rfl) len_law_is_behind fun cdv A0 outer s H E hr => ⟨_, (zs_one (zs_ret (z_cmp op_ge l_B0 (z_op op_mul l_I (z_ix (zv 0) zint) (z_ix (zv 1) zint)) (z_op op_add l_I0 (z_op op_mul l_I (z_ix (zv 1) zint) (z_ix (zv 0) zint)) (z_op op_mul l_I (z_op op_mul l_I (zv 2) (z_ix (zv 0) zint)) (z_ix (zv 1) zint))) (nomark _)))), fun ds wd Q h => ?_⟩
  obtain ⟨f, g, t, rfl, s1, s2, s3, q⟩ := h
  exact ⟨_, rfl, _, rfl, mulR s2, _, rfl, _, rfl, mulR s1, _, rfl, mulR s1, _, rfl, mulR s2, q⟩
end
end Kz

set_option Elab.async false
set_option linter.all false
set_option maxRecDepth 100000
set_option maxHeartbeats 4000000
set_option autoImplicit false
/-! The law's own reading of what is led to. -/
namespace Kz
open PySem PySem.Spec PyProof.Rows L2
section
variable {P : Program} {w : World} {K : PySem.W.Frag} {mg : Str → Option Value} {base : Heap} {B : RB}
def F_law_n_led : ZF := fun ds wd Q => ∃ (ls : List Lk) (es : List Int), ds = [linksD ls, .lst (es.map D.int)] ∧ es.Nodup ∧ es.length ≤ 100 ∧ ls.length ≤ 100 ∧ ∀ ks : List Int, ks.Nodup → (∀ e, e ∈ ks ↔ Reach ls es e) → Q (.own (.lst (ks.map D.int))) wd
theorem len_law_n_led : ∀ ds wd Q, F_law_n_led ds wd Q → ds.length = 2 := fun ds wd Q ⟨a, _, e, _⟩ => by rw [e]; rfl
theorem sc_law_n_led : FnScope ["_law_links", "_law_events", "_law_found", "_law_order", "_law_here", "_law_one", "_law_other", "_law_tokens", "_law_ticks"] ["_law_links", "_law_events"] (defScope Kp.s_law_n_led) := ⟨rfl, rfl, rfl, by decide +kernel, rfl, by decide +kernel, by decide +kernel⟩
theorem ok_law_n_led (T : Top K mg B) (hK : B.K = K) (A : AllDefs K mg) : ZDef P w K mg base B "_law_n_led" 1 F_law_n_led := by
  subst hK
  obtain ⟨f, fd, FD, hm⟩ := A 48 Kp.d_law_n_led rfl rfl
  have sc := sc_law_n_led
  refine zdef (k := 0) FD hm sc (fun _ _ _ _ _ _ us hl => match us, hl with | [_, _], _ => rfl) len_law_n_led fun cdv A0 outer s H E hr => ⟨_, (zs_cons (zs_par (i := 2) (j := 3) (z_ty call_list_of (l_list rfl) T.list (by decide +kernel) (za_cons (zv 1) za_nil)) (z_ty call_list_of (l_list rfl) T.list (by decide +kernel) (za_cons (zv 1) za_nil)) sc.nd) (zs_cons (zs_while (z_neNil 3 hr.units) (zs_cons (zs_set (i := 4) (z_M (z_pop 3)) sc.nd) (zs_one (zs_for (zi_seq (zv 0)) (zg_tup (n := 4) (zg_cons (zg_name 5 sc.nd) (zg_cons (zg_name 6 sc.nd) (zg_cons (zg_name 7 sc.nd) (zg_cons (zg_name 8 sc.nd) zg_nil))))) (zs_one (zs_if (PW.pt (z_and (z_cmpT op_eq l_eq (zv 5) (zv 4) (nomark _)) (z_and1 (z_notInN 2 (zv 6))))) (zs_cons (zs_expr (z_app 2 (zv 6))) (zs_one (zs_expr (z_app 3 (zv 6))))) zs_nil)))))) (zs_one (zs_retO 2)))), fun ds wd Q h => ?_⟩
  obtain ⟨ls, es, rfl, nd, he, hl, q⟩ := h
  refine ⟨fun z => ∃ es' W x4 x5 x6 x7 x8, z = ⟨[some (.dat (linksD ls)), some (.dat (.lst (es.map D.int))), some (.own (.lst (es'.map D.int))), some (.own (.lst (W.map D.int))), x4, x5, x6, x7, x8], wd⟩ ∧ Led ls es es' W fun _ => False,
    fun z => match look z.e 2, look z.e 3 with | some (.own (.lst ks)), some (.own (.lst ds)) => ds.length + 2 * (1000 - ks.length) | _, _ => 0, ⟨es, es, _, _, _, _, _, rfl, Led.start nd⟩, fun z ⟨ks', W, x4, x5, x6, x7, x8, hz, L⟩ => ?_⟩
  subst hz
  refine ⟨okQ_ints W, ?_⟩
  refine ite2 (fun c => ?_) fun c => ?_
  · have hW : W ≠ [] := fun e => by subst e; exact absurd (show false = true from c) (by decide)
    obtain ⟨V, h, rfl⟩ := snoc_of hW
    have hpop : ((V ++ [h]).map D.int)[((V ++ [h]).map D.int).length - 1]? = some (D.int h) := by
      rw [List.map_append]; simp
    have hdl : ((V ++ [h]).map D.int).dropLast = V.map D.int := by rw [List.map_append]; simp
    refine ⟨D.int h, hpop, ?_⟩
    rw [hdl]
    have hks := L.wk h (by simp)
    have L2' := L.pop
    have hmu : V.length + 2 * (1000 - ks'.length) < ((V ++ [h]).map D.int).length + 2 * (1000 - (ks'.map D.int).length) := by
      rw [List.length_map, List.length_map, List.length_append, List.length_singleton]; omega
    generalize hM : ((V ++ [h]).map D.int).length + 2 * (1000 - (ks'.map D.int).length) = M at hmu
    refine fun hl2 => ⟨fun i z => ∃ es' W x5 x6 x7 x8, z = ⟨[some (.dat (linksD ls)), some (.dat (.lst (es.map D.int))), some (.own (.lst (es'.map D.int))), some (.own (.lst (W.map D.int))), some (.dat (.int h)), x5, x6, x7, x8], wd⟩ ∧ h ∈ es' ∧ Led ls es es' W (fun l => l.a = h ∧ l ∉ ls.take i) ∧ W.length + 2 * (1000 - es'.length) < M,
      ⟨ks', V, _, _, _, _, rfl, hks, L2'.weak fun l _ e => ⟨e, by simp⟩, hmu⟩, fun i d z hd ⟨es', W, x5, x6, x7, x8, hz, hh, L3, hmu3⟩ => ?_, fun z ⟨es', W, x5, x6, x7, x8, hz, hh, L3, hmu3⟩ => ?_⟩
    · subst hz
      obtain ⟨l, hll, rfl⟩ := gmap hd
      have hin : l ∈ ls := List.mem_of_getElem? hll
      have few := L3.few he hl
      have szw := L3.sz
      refine ⟨rfl, rfl, ?_⟩
      refine ite2 (fun c2 => ?_) fun c2 => ?_
      · have ea : l.a = h := by
          have c2 : (false != (l.a == h)) = true := c2
          simpa using c2
        refine ⟨es', rfl, ite2 (fun c3 => ?_) fun c3 => ?_⟩
        · have nb : l.b ∉ es' := by
            have c3 : (!(es'.contains l.b)) = true := c3
            simpa using c3
          refine ⟨by rw [List.length_map, sizeLine_eq]; omega, by rw [List.length_map, sizeLine_eq]; omega, es' ++ [l.b], W ++ [l.b], some (.dat (.int l.a)), some (.dat (.int l.b)), some (.dat (.int l.t)), some (.dat (.int l.d)), ?_, List.mem_append_left _ hh, (L3.push hin (by rw [ea]; exact hh) nb).weak fun x _ ⟨⟨e1, e2⟩, e3⟩ => ⟨e1, ?_⟩, by rw [List.length_append, List.length_append, List.length_singleton]; omega⟩
          · rw [List.map_append, List.map_append]; rfl
          · rw [tk1 hll]; simp [e2, e3]
        · have nb : l.b ∈ es' := by
            have c3 : ¬ (!(es'.contains l.b)) = true := c3
            simpa using c3
          refine ⟨es', W, some (.dat (.int l.a)), some (.dat (.int l.b)), some (.dat (.int l.t)), some (.dat (.int l.d)), rfl, hh, (L3.skip nb).weak fun x _ ⟨⟨e1, e2⟩, e3⟩ => ⟨e1, ?_⟩, hmu3⟩
          rw [tk1 hll]; simp [e2, e3]
      · have ea : l.a ≠ h := by
          have c2 : ¬ (false != (l.a == h)) = true := c2
          simpa using c2
        refine ⟨es', W, some (.dat (.int l.a)), some (.dat (.int l.b)), some (.dat (.int l.t)), some (.dat (.int l.d)), rfl, hh, L3.weak fun x _ ⟨e1, e2⟩ => ⟨e1, ?_⟩, hmu3⟩
        rw [tk1 hll]
        simp only [List.mem_append, List.mem_singleton, not_or]
        exact ⟨e2, fun e => ea (by rw [← e]; exact e1)⟩
    · subst hz
      refine ⟨⟨es', W, _, _, _, _, _, rfl, L3.weak fun l hl ⟨_, e2⟩ => e2 ?_⟩, ?_⟩
      · rw [List.length_map, List.take_length]; exact hl
      · show (W.map D.int).length + 2 * (1000 - (es'.map D.int).length) < ((V ++ [h]).map D.int).length + 2 * (1000 - (ks'.map D.int).length)
        rw [hM, List.length_map, List.length_map]; exact hmu3
  · have hW : W = [] := by
      cases W with
      | nil => rfl
      | cons w W => exact (c rfl).elim
    subst hW
    exact q ks' L.nd L.done
end
end Kz

set_option Elab.async false
set_option linter.all false
set_option maxRecDepth 100000
set_option maxHeartbeats 4000000
set_option autoImplicit false
/-! The law's links. -/
namespace Kz
open PySem PySem.Spec PyProof.Rows L2
def selfs (n : Nat) : List Lk := (List.range n).map fun (e : Nat) => ⟨(e : Int), (e : Int), 1, 0⟩
section
variable {P : Program} {w : World} {K : PySem.W.Frag} {mg : Str → Option Value} {base : Heap} {B : RB}
def netD (n : Nat) (arcs : List Lk) : D := .tup [.int n, linksD arcs]
def F_law_n_links : ZF := fun ds wd Q => ∃ (n : Nat) (arcs : List Lk), ds = [netD n arcs] ∧ n ≤ 100 ∧ arcs.length ≤ 100 ∧ Q (.dat (linksD (arcs ++ selfs n))) wd
theorem len_law_n_links : ∀ ds wd Q, F_law_n_links ds wd Q → ds.length = 1 := fun ds wd Q ⟨a, _, e, _⟩ => by rw [e]; rfl
theorem sc_law_n_links : FnScope ["_law_net", "_law_event"] ["_law_net"] (defScope Kp.s_law_n_links) := ⟨rfl, rfl, rfl, by decide +kernel, rfl, by decide +kernel, by decide +kernel⟩
theorem ok_law_n_links (T : Top K mg B) (hK : B.K = K) (A : AllDefs K mg) : ZDef P w K mg base B "_law_n_links" 1 F_law_n_links := by
  subst hK
  obtain ⟨f, fd, FD, hm⟩ := A 40 Kp.d_law_n_links rfl rfl
  have sc := sc_law_n_links
  refine zdef (k := 0) FD hm sc (fun _ _ _ _ _ _ us hl => match us, hl with | [_], _ => rfl) len_law_n_links fun cdv A0 outer s H E hr => ⟨_, (zs_one (zs_ret (z_E (z_cat (z_ix (zv 0) zint) (z_E (z_comp (own := [("_law_event", 1)]) (zi_rng1 (z_ix (zv 0) zint) T.range) (blkOk_by (by rfl)) (fun _ _ _ _ _ => (zg_name 1 sc.nd)) (fun _ _ _ _ _ => zts_nil) (fun _ _ _ _ _ => (z_tup (za_cons (zv 1) (za_cons (zv 1) (za_cons zint (za_cons zint za_nil)))))) sc.nd)))))), fun ds wd Q h => ?_⟩
  obtain ⟨n, arcs, rfl, hn, ha1, q⟩ := h
  refine ⟨linksD arcs, rfl, .int n, rfl, by omega, by omega, ?_⟩
  refine ⟨by rw [rangeD_length, sizeLine_eq]; omega, rfl, fun i acc w' => acc = (selfs i).map lkD ∧ wd = w', ⟨rfl, rfl⟩, fun i d acc w' hd ⟨ha, hw⟩ => ?_, fun acc w' ⟨ha, hw⟩ => ?_⟩
  · have lt := (List.getElem?_eq_some_iff.mp hd).1
    rw [rangeD_length] at lt
    rw [rangeD_get 0 lt] at hd
    cases hd
    refine ⟨rfl, rfl, Nat.le_trans (by decide : 4 ≤ 64) (by rw [sizeLine_eq]; omega), rfl, ?_, hw⟩
    rw [ha]
    unfold selfs
    rw [List.range_succ, List.map_append, List.map_append, Int.zero_add]
    rfl
  · rw [rangeD_length, Int.toNat_natCast] at ha
    subst ha hw
    refine ⟨by rw [List.length_map, List.length_map]; unfold selfs; rw [List.length_map, List.length_range, sizeLine_eq]; omega, ?_⟩
    unfold linksD at q
    rw [List.map_append] at q
    exact q
def F_law_n_all_links : ZF := fun ds wd Q => ∃ (n : Nat) (arcs dl : List Lk), ds = [netD n arcs, linksD dl] ∧ n ≤ 100 ∧ arcs.length ≤ 100 ∧ dl.length ≤ 100 ∧ Q (.dat (linksD (arcs ++ selfs n ++ dl.map rev))) wd
theorem len_law_n_all_links : ∀ ds wd Q, F_law_n_all_links ds wd Q → ds.length = 2 := fun ds wd Q ⟨a, _, _, e, _⟩ => by rw [e]; rfl
theorem sc_law_n_all_links : FnScope ["_law_net", "_law_distances", "_law_one", "_law_other", "_law_tokens", "_law_most"] ["_law_net", "_law_distances"] (defScope Kp.s_law_n_all_links) := ⟨rfl, rfl, rfl, by decide +kernel, rfl, by decide +kernel, by decide +kernel⟩
theorem ok_law_n_all_links (T : Top K mg B) (hK : B.K = K) (A : AllDefs K mg) (G_law_n_links : ZDef P w K mg base B "_law_n_links" 1 F_law_n_links) : ZDef P w K mg base B "_law_n_all_links" 2 F_law_n_all_links := by
  subst hK
  obtain ⟨f, fd, FD, hm⟩ := A 42 Kp.d_law_n_all_links rfl rfl
  have sc := sc_law_n_all_links
  refine zdef (k := 1) FD hm sc (fun _ _ _ _ _ _ us hl => match us, hl with | [_, _], _ => rfl) len_law_n_all_links fun cdv A0 outer s H E hr => ⟨_, (zs_one (zs_ret (z_E (z_cat (z_E (z_call G_law_n_links (hr.mono (by decide)) (by rfl) (za_cons (zv 0) za_nil))) (z_E (z_comp (own := [("_law_one", 2), ("_law_other", 3), ("_law_tokens", 4), ("_law_most", 5)]) (zi_seq (zv 1)) (blkOk_by (by rfl)) (fun _ _ _ _ _ => (zg_tup (n := 4) (zg_cons (zg_name 2 sc.nd) (zg_cons (zg_name 3 sc.nd) (zg_cons (zg_name 4 sc.nd) (zg_cons (zg_name 5 sc.nd) zg_nil)))))) (fun _ _ _ _ _ => zts_nil) (fun _ _ _ _ _ => (z_tup (za_cons (zv 3) (za_cons (zv 2) (za_cons (z_op op_sub l_I0 zint (zv 4)) (za_cons (z_op op_sub l_I0 zint (zv 5)) za_nil)))))) sc.nd)))))), fun ds wd Q h => ?_⟩
  obtain ⟨n, arcs, dl, rfl, hn, ha1, hd1, q⟩ := h
  refine ⟨n, arcs, rfl, hn, ha1, ?_⟩
  refine fun hl => ⟨hl, rfl, fun i acc w' => acc = ((dl.map rev).take i).map lkD ∧ wd = w', ⟨rfl, rfl⟩, fun i d acc w' hd ⟨ha, hw⟩ => ?_, fun acc w' ⟨ha, hw⟩ => ?_⟩
  · obtain ⟨l, hl2, rfl⟩ := gmap hd
    have hr : (dl.map rev)[i]? = some (rev l) := by rw [List.getElem?_map, hl2]; rfl
    have y : acc ++ [lkD (rev l)] = ((dl.map rev).take (i + 1)).map lkD := by rw [ha]; exact tkm hr
    exact ⟨rfl, rfl, rfl, rfl, Nat.le_trans (by decide : 4 ≤ 64) (by rw [sizeLine_eq]; omega), rfl, y, hw⟩
  · rw [List.length_map, List.take_of_length_le (by rw [List.length_map]; exact Nat.le_refl _)] at ha
    subst ha hw
    refine ⟨by rw [List.length_map, List.length_map, List.length_map, List.length_append]; unfold selfs; rw [List.length_map, List.length_range, sizeLine_eq]; omega, ?_⟩
    unfold linksD at q
    rw [List.map_append] at q
    exact q
end
end Kz

set_option Elab.async false
set_option linter.all false
set_option maxRecDepth 100000
set_option maxHeartbeats 4000000
set_option autoImplicit false
/-! The law's rings. -/
namespace Kz
open PySem PySem.Spec PyProof.Rows L2
theorem okQ_gen {m : Nat} {α : Type} {f : α → D} (h : ∀ x, isP (f x) = true ∧ (toP (f x)).canLay0 = true ∧ (toP (f x)).depth ≤ m) : ∀ xs : List α, isPs (xs.map f) = true ∧ PyData.canLayAll0 (toPs (xs.map f)) = true ∧ PyData.depthAll (toPs (xs.map f)) ≤ m
  | [] => ⟨rfl, rfl, Nat.zero_le _⟩
  | x :: xs => by
    obtain ⟨a, b, c⟩ := h x
    obtain ⟨a2, b2, c2⟩ := okQ_gen h xs
    refine ⟨?_, ?_, ?_⟩
    · show (isP (f x) && isPs (xs.map f)) = true
      rw [a, a2]; rfl
    · show ((toP (f x)).canLay0 && PyData.canLayAll0 (toPs (xs.map f))) = true
      rw [b, b2]; rfl
    · show max (toP (f x)).depth (PyData.depthAll (toPs (xs.map f))) ≤ m
      omega
theorem lk_lay (l : Lk) : isP (lkD l) = true ∧ (toP (lkD l)).canLay0 = true ∧ (toP (lkD l)).depth ≤ 1 := ⟨rfl, rfl, by show max 0 (max 0 (max 0 (max 0 0))) + 1 ≤ 1; omega⟩
theorem ring_lay (r : List Lk) : isP (ringD r) = true ∧ (toP (ringD r)).canLay0 = true ∧ (toP (ringD r)).depth ≤ 2 := by
  obtain ⟨a, b, c⟩ := okQ_gen lk_lay r
  exact ⟨a, b, Nat.succ_le_succ c⟩
theorem okQ_rings (ws : List (List Lk)) : okQ (.lst (ws.map ringD)) := by
  obtain ⟨a, b, c⟩ := okQ_gen ring_lay ws
  refine ⟨a, ?_⟩
  show (PyData.canLayAll0 (toPs (ws.map ringD)) && decide (PyData.depthAll (toPs (ws.map ringD)) + 1 ≤ 64)) = true
  rw [b, decide_eq_true (by omega)]; rfl
end Kz

set_option Elab.async false
set_option linter.all false
set_option maxRecDepth 100000
set_option maxHeartbeats 4000000
set_option autoImplicit false
/-! The stream of draws: a list of a list and three ints, written to by many defs. -/
namespace Kz
open PySem PySem.Spec PyProof.Rows L2
section
variable {X : Cx} {B : RB}
def wget : Int → Wd → Int
  | 1, w => w.mix
  | 2, w => w.cnt
  | _, w => w.cell
def wput : Int → Int → Wd → Wd
  | 1, v, w => ⟨w.great, v, w.cnt, w.cell, w.sa⟩
  | 2, v, w => ⟨w.great, w.mix, v, w.cell, w.sa⟩
  | _, v, w => ⟨w.great, w.mix, w.cnt, v, w.sa⟩
def wV (ga : Addr) (w : Wd) : List V := [.ref ga, .int w.mix, .int w.cnt, .int w.cell]
theorem Rel.stream {Y : RC} {D H : Hp} {z : Z} {σ : L2.St} {a : Addr} (R : Rel B Y D z σ H) (h : z.w.sa = some a) : ∃ ga, Y.on = true ∧ Y.sa = a ∧ Y.ga = ga ∧ H a = some (.lst (wV ga z.w)) ∧ H ga = some (.lst (z.w.great.map V.int)) ∧ a ≠ ga := by
  obtain ⟨h1, h2⟩ := R.wr.a a h
  exact ⟨Y.ga, h1, h2, rfl, by rw [← h2]; exact R.wr.s h1, R.wr.g h1, by rw [← h2]; exact R.wr.ne h1⟩
/-- the stream's own list changes -/
theorem Step.swrite {Y : RC} {D H : Hp} {z : Z} {σ : L2.St} {a : Addr} {w' : Wd} (R : Rel B Y D z σ H) (h : z.w.sa = some a) (hg : w'.great = z.w.great) (hs : w'.sa = z.w.sa) : ∀ ga, Y.ga = ga → Step B Y D z σ H D ⟨z.e, w'⟩ (upd H a (.lst (wV ga w'))) := by
  rintro ga rfl
  obtain ⟨ga, on, e1, e2, h1, h2, ne⟩ := R.stream h
  subst e1 e2
  have da : ∀ b u, D b = some u → b ≠ Y.sa := fun b u e q => by rw [q, R.wr.ds on] at e; cases e
  have nt : Y.sa ≠ Y.ta := fun q => by
    obtain ⟨ps, e, _⟩ := R.wr.t on
    rw [← q, h1] at e; cases e
  refine ⟨R.more (w' := w') (Same.refl _) (fun b u e off => by rw [upd_ne (off on).1]; exact e) (fun b u e => by rw [upd_ne (da b u e)]; exact R.dat b u e) (fun b hb => .inl hb)
    ⟨fun _ => upd_same, fun _ => by rw [upd_ne ne.symm, hg]; exact h2, R.wr.ds, R.wr.dg, R.wr.hs, R.wr.hg, R.wr.ne, fun _ => tab_upd (R.wr.t on) h1 nt fun c z => by (unfold LamX.CodeO at z; cases z), R.wr.dt, R.wr.ht, fun p q => R.wr.a p (by rw [← hs]; exact q), R.wr.tb⟩, Same.refl _, fun p q => ?_, fun p u hp f => ?_⟩
  · by_cases e : p = Y.sa
    · rw [e, upd_same] at q; cases q
    · rw [upd_ne e] at q; exact q
  · exact ⟨by rw [upd_ne (f.off on).1]; exact hp, f.to f.d fun i o e => ⟨o, e⟩⟩
/-- the great cells change -/
theorem Step.gwrite {Y : RC} {D H : Hp} {z : Z} {σ : L2.St} {a : Addr} {w' : Wd} (R : Rel B Y D z σ H) (h : z.w.sa = some a) (h1 : w'.mix = z.w.mix) (h2 : w'.cnt = z.w.cnt) (h3 : w'.cell = z.w.cell) (hs : w'.sa = z.w.sa) : Step B Y D z σ H D ⟨z.e, w'⟩ (upd H Y.ga (.lst (w'.great.map V.int))) := by
  obtain ⟨ga, on, e1, e2, k1, k2, ne⟩ := R.stream h
  subst e1 e2
  have da : ∀ b u, D b = some u → b ≠ Y.ga := fun b u e q => by rw [q, R.wr.dg on] at e; cases e
  have nt : Y.ga ≠ Y.ta := fun q => by
    obtain ⟨ps, e, _⟩ := R.wr.t on
    rw [← q, k2] at e; cases e
  refine ⟨R.more (w' := w') (Same.refl _) (fun b u e off => by rw [upd_ne (off on).2.1]; exact e) (fun b u e => by rw [upd_ne (da b u e)]; exact R.dat b u e) (fun b hb => .inl hb)
    ⟨fun _ => by rw [upd_ne ne, h1, h2, h3]; exact k1, fun _ => upd_same, R.wr.ds, R.wr.dg, R.wr.hs, R.wr.hg, R.wr.ne, fun _ => tab_upd (R.wr.t on) k2 nt fun c z => by (unfold LamX.CodeO at z; cases z), R.wr.dt, R.wr.ht, fun p q => R.wr.a p (by rw [← hs]; exact q), R.wr.tb⟩, Same.refl _, fun p q => ?_, fun p u hp f => ?_⟩
  · by_cases e : p = Y.ga
    · rw [e, upd_same] at q; cases q
    · rw [upd_ne e] at q; exact q
  · exact ⟨by rw [upd_ne (f.off on).2.1]; exact hp, f.to f.d fun i o e => ⟨o, e⟩⟩
/-- s[k], s the stream -/
def zSGet (i : Nat) (k : Int) : ZE := fun z Q => match look z.e i with
  | some (.dat (.adr a)) => z.w.sa = some a ∧ Q (.int (wget k z.w)) z
  | _ => False
theorem wat {ga : Addr} {w : Wd} {k : Int} (h : k = 1 ∨ k = 2 ∨ k = 3) : atI (wV ga w) k = some (.int (wget k w)) := by
  rcases h with rfl | rfl | rfl <;> rfl
theorem z_sget (i : Nat) (k : Int) {x : Str} {p pc pos : Pos} {j : Nat} (hk : k = 1 ∨ k = 2 ∨ k = 3 := by decide) (hN : X.N[i]? = some x := by rfl) (hv : Vis X.env.scope x := by first | exact Or.inl rfl | exact Or.inr (Or.inl rfl) | exact Or.inr (Or.inr rfl)) (hd : (x == ("__debug__" : Str)) = false := by decide)
    (hcd : (x == ("__classdict__" : Str)) = false := by decide) : DE X B (.Subscript (.Name x p) (.Constant (.int k) j pc) pos) (zSGet i k) :=
  pe_weak (pe_ix ix_list (pe_var hN hv hd hcd) pe_int (by intro _ _; rfl)) fun σ H Q ⟨Y, D, z, Q', R, h, kk⟩ => by
    unfold zSGet at h
    split at h
    · rename_i a e0
      obtain ⟨v, s0, r⟩ := R.look_dat e0
      obtain ⟨h1, h2⟩ := h
      obtain ⟨ga, on, e1, e2, k1, k2, ne⟩ := R.stream h1
      unfold Rp at r
      subst r
      exact ⟨_, s0, a, _, k, _, rfl, rfl, SqL.of k1, wat hk, kk _ z h2 _ H D (Step.refl R) (Rp.mk_int _)⟩
    · exact h.elim
/-- s[k] = e -/
def zSPut (i : Nat) (k : Int) (te : ZE) : ZS := fun E z => te z fun d z1 => match look z1.e i, d with
  | some (.dat (.adr a)), .int v => z1.w.sa = some a ∧ E.nx ⟨z1.e, wput k v z1.w⟩
  | _, _ => False
theorem wset {ga : Addr} {w : Wd} {k v : Int} (h : k = 1 ∨ k = 2 ∨ k = 3) : ∃ n, ixN (wV ga w).length k = some n ∧ (wV ga w).set n (.int v) = wV ga (wput k v w) ∧ (wput k v w).great = w.great ∧ (wput k v w).sa = w.sa := by
  rcases h with rfl | rfl | rfl <;> exact ⟨_, rfl, rfl, rfl, rfl⟩
theorem zs_sput (i : Nat) (k : Int) {x : Str} {e : Expr} {te : ZE} {p pc pos' pos : Pos} {j : Nat} (he : DE X B e te) (hk : k = 1 ∨ k = 2 ∨ k = 3 := by decide) (hN : X.N[i]? = some x := by rfl) (hv : Vis X.env.scope x := by first | exact Or.inl rfl | exact Or.inr (Or.inl rfl) | exact Or.inr (Or.inr rfl))
    (hd : (x == ("__debug__" : Str)) = false := by decide) (hcd : (x == ("__classdict__" : Str)) = false := by decide)
    (ha : ∀ v, assign (.Subscript (.Name x p) (.Constant (.int k) j pc) pos') X.env v = (do
      let ov ← holding [v] (eval (.Name x p) X.env)
      let iv ← holding [v, ov] (eval (.Constant (.int k) j pc) X.env)
      standAt pos'
      holding [v, ov, iv] (setItem ov iv v)
      release [v, ov, iv] []) := by intro _; rfl)
    (hs : swapsWithSole [.Subscript (.Name x p) (.Constant (.int k) j pc) pos'] e pos.line X.env = pure false := by rfl) (hw : swappedStores [.Subscript (.Name x p) (.Constant (.int k) j pc) pos'] e X.env = pure none := by rfl)
    (h1 : (assignEach [.Subscript (.Name x p) (.Constant (.int k) j pc) pos'] X.env).map (·.2) = [assign (.Subscript (.Name x p) (.Constant (.int k) j pc) pos') X.env] := by rfl) :
    DS X B (.Assign [.Subscript (.Name x p) (.Constant (.int k) j pc) pos'] e pos) (zSPut i k te) :=
  ps_weak (ps_asg he (pg_sub (pe_var hN hv hd hcd) pe_int set_list ha) hs hw h1) fun T σ H ⟨Y, D, z, E, R, h, kk⟩ => ⟨Y, D, z, _, R, h, fun d z1 h1 v H1 D1 S1 r1 => by
    split at h1
    · rename_i a v1 e0
      obtain ⟨v2, s0, r⟩ := S1.rel.look_dat e0
      obtain ⟨h1, q⟩ := h1
      obtain ⟨ga, on, e1, e2, k1, k2, ne⟩ := S1.rel.stream h1
      unfold Rp at r
      subst r
      obtain ⟨n, m1, m2, m3, m4⟩ := wset (ga := ga) (w := z1.w) (v := v1) hk
      refine ⟨_, s0, a, _, k, n, rfl, rfl, k1, m1, ?_⟩
      rw [r1.int_, m2]
      exact kk.nx _ q _ _ D1 (S1.trans (Step.swrite S1.rel h1 m3 m4 ga e2)).stp
    · exact h1.elim⟩
/-- s[0] != [] -/
def zSNe (i : Nat) : ZT := fun z Q => match look z.e i with
  | some (.dat (.adr a)) => z.w.sa = some a ∧ Q (!z.w.great.isEmpty) z
  | _ => False
theorem z_sne (i : Nat) {x : Str} {p pc p3 p2 pos : Pos} {j : Nat} (hu : X.A.units + 64 < cLine) (hN : X.N[i]? = some x := by rfl) (hv : Vis X.env.scope x := by first | exact Or.inl rfl | exact Or.inr (Or.inl rfl) | exact Or.inr (Or.inr rfl)) (hd : (x == ("__debug__" : Str)) = false := by decide) (hcd : (x == ("__classdict__" : Str)) = false := by decide) (hB : B.K = X.K := by rfl) :
    DT X B (.Compare (.Subscript (.Name x p) (.Constant (.int 0) j pc) p3) [.NotEq] [.List [] p2] pos) (zSNe i) :=
  pt_weak (pt_cmpR (op_neD hu) (pe_ix ix_list (pe_var hN hv hd hcd) pe_int (by intro _ _; rfl)) (pe_lst pa_nil) (nomark _)) fun σ H Q ⟨Y, D, z, Q', R, h, kk⟩ => by
    unfold zSNe at h
    split at h
    · rename_i a e0
      obtain ⟨v, s0, r⟩ := R.look_dat e0
      obtain ⟨h1, h2⟩ := h
      obtain ⟨ga, on, e1, e2, k1, k2, ne⟩ := R.stream h1
      unfold Rp at r
      subst r
      refine ⟨_, s0, a, _, 0, _, rfl, rfl, SqL.of k1, rfl, Nat.zero_le _, fun q hq => ?_⟩
      have S := Step.aside (o := .lst []) R hq
      have ne : ga ≠ q := fun e => by rw [e, hq] at k2; cases k2
      have dp : ∀ g : List Int, DpAll X.K (upd H q (.lst [])) (g.map V.int) (g.map PyData.int) ∧ PyData.canLayAll0 (g.map PyData.int) = true ∧ PyData.depthAll (g.map PyData.int) = 0 := fun g => by
        induction g with
        | nil => exact ⟨.nil, rfl, rfl⟩
        | cons i g ih =>
          refine ⟨.cons (.int i) ih.1, ?_, ?_⟩
          · show (true && PyData.canLayAll0 (g.map PyData.int)) = true
            rw [ih.2.1]; rfl
          · show max 0 (PyData.depthAll (g.map PyData.int)) = 0
            rw [ih.2.2]; rfl
      obtain ⟨d1, d2, d3⟩ := dp z.w.great
      have sh : SeqAt.shaped (.list (z.w.great.map PyData.int)) = true := by
        show (PyData.canLayAll0 (z.w.great.map PyData.int) && decide (PyData.depthAll (z.w.great.map PyData.int) + 1 ≤ 64)) = true
        rw [d2, d3]; rfl
      refine ⟨.list (z.w.great.map PyData.int), .list [], ?_, ?_, sh, rfl, !z.w.great.isEmpty, ?_, kk _ z h2 _ D S⟩
      · exact .lst (SqL.of (by rw [upd_ne ne]; exact k2)) d1
      · exact .lst (SqL.of upd_same) .nil
      · show V.bl _ = V.bl _
        congr 1
        cases z.w.great with
        | nil => rfl
        | cons g gs => rfl
    · exact h.elim
/-- s[0].pop(0) -/
def zSPop (i : Nat) : ZE := fun z Q => match look z.e i with
  | some (.dat (.adr a)) => z.w.sa = some a ∧ ∃ g gs, z.w.great = g :: gs ∧ Q (.int g) ⟨z.e, ⟨gs, z.w.mix, z.w.cnt, z.w.cell, z.w.sa⟩⟩
  | _ => False
theorem z_spop (i : Nat) {x : Str} {p pc p3 p4 apos cpos : Pos} {j j2 : Nat} (hN : X.N[i]? = some x := by rfl) (hv : Vis X.env.scope x := by first | exact Or.inl rfl | exact Or.inr (Or.inl rfl) | exact Or.inr (Or.inr rfl))
    (hd : (x == ("__debug__" : Str)) = false := by decide) (hcd : (x == ("__classdict__" : Str)) = false := by decide)
    (hbase : attributeBase (.Subscript (.Name x p) (.Constant (.int 0) j pc) p3) "pop" X.env (eval (.Subscript (.Name x p) (.Constant (.int 0) j pc) p3) X.env) = eval (.Subscript (.Name x p) (.Constant (.int 0) j pc) p3) X.env := by rfl)
    (hfew : ((backTo cpos (starEach (.Constant (.int 0) j2 p4 :: []) X.env)).all (fun x => !x.1) && (backToKw cpos (keywordEach [] X.env)).all (fun x => x.1.isSome)
      && decide (((.Constant (.int 0) j2 p4 : Expr) :: ([] : List Expr)).length + ([] : List Keyword).length + (if ([] : List Keyword).isEmpty then 0 else 1) < 30)) = true := by rfl)
    (hline : (apos.endLine == cpos.line) = true := by rfl) (hs : starEach (.Constant (.int 0) j2 p4 :: []) X.env = (false, eval (.Constant (.int 0) j2 p4) X.env) :: starEach [] X.env := by rfl) (hplain : (backTo cpos (starEach [] X.env)).any (·.1) = false := by rfl) :
    DE X B (.Call (.Attribute (.Subscript (.Name x p) (.Constant (.int 0) j pc) p3) "pop" apos) [.Constant (.int 0) j2 p4] [] cpos) (zSPop i) :=
  pe_weak (pe_bm PySem.F.plainAttrs_list PySem.F.slot_list_pop PySem.F.type_list_pop mt_popAt (pe_ix ix_list (pe_var hN hv hd hcd) pe_int (by intro _ _; rfl)) (pa_cons pe_int pa_nil hs) hbase hfew hline hs hplain) fun σ H Q ⟨Y, D, z, Q', R, h, kk⟩ => by
    unfold zSPop at h
    split at h
    · rename_i a e0
      obtain ⟨v, s0, r⟩ := R.look_dat e0
      obtain ⟨h1, g, gs, hg, q⟩ := h
      obtain ⟨ga, on, e1, e2, k1, k2, ne⟩ := R.stream h1
      unfold Rp at r
      subst r
      have S := Step.gwrite (w' := ⟨gs, z.w.mix, z.w.cnt, z.w.cell, z.w.sa⟩) R h1 rfl rfl rfl rfl
      rw [hg] at k2
      rw [e2] at S
      exact ⟨_, s0, a, _, 0, _, rfl, rfl, SqL.of k1, rfl, .inl ⟨rfl, _, SqL.of k2⟩, ga, _, 0, 0, .int g, rfl, rfl, k2, by decide, by decide, (ixN_seq (n := (List.map V.int (g :: gs)).length) (i := 0) (j := 0) (by unfold ixN; rw [if_pos (by decide), List.length_map, List.length_cons, if_pos (by omega)]; rfl)).1, rfl, kk _ _ q _ _ D S (Rp.mk_int _)⟩
    · exact h.elim
end
end Kz

set_option Elab.async false
set_option linter.all false
set_option maxRecDepth 100000
set_option maxHeartbeats 4000000
set_option autoImplicit false
/-! A statement that only reads: what names own stays their own. -/
namespace Kz
open PySem PySem.Spec PyProof.Rows L2
def borE : List (Option SV) → (Nat → V) → Nat → List (Option SV)
  | [], _, _ => []
  | some s :: r, vs, i => some (.bor s.d (vs i)) :: borE r vs (i + 1)
  | none :: r, vs, i => none :: borE r vs (i + 1)
def flat : D → Bool
  | .non => true
  | .bl _ => true
  | .int _ => true
  | .str _ => true
  | _ => false
def flatS : Option SV → Option SV
  | some (.dat d) => if flat d then some (.dat d) else none
  | _ => none
def backE (e e' : List (Option SV)) : List Nat → List (Option SV)
  | [] => e
  | i :: asg => (backE e e' asg).set i (flatS (look e' i))
theorem borE_get (vs : Nat → V) : ∀ (e : List (Option SV)) (k i : Nat), (borE e vs k)[i]? = (e[i]?).map (fun s => s.map fun s => .bor s.d (vs (k + i)))
  | [], k, i => by simp [borE]
  | some s :: r, k, 0 => rfl
  | none :: r, k, 0 => rfl
  | some s :: r, k, i + 1 => by
    show (borE r vs (k + 1))[i]? = _
    rw [borE_get vs r (k + 1) i, show k + 1 + i = k + (i + 1) from by omega]; rfl
  | none :: r, k, i + 1 => by
    show (borE r vs (k + 1))[i]? = _
    rw [borE_get vs r (k + 1) i, show k + 1 + i = k + (i + 1) from by omega]; rfl
theorem borE_length (vs : Nat → V) : ∀ (e : List (Option SV)) (k : Nat), (borE e vs k).length = e.length
  | [], k => rfl
  | some s :: r, k => by show (borE r vs (k + 1)).length + 1 = _; rw [borE_length vs r]; rfl
  | none :: r, k => by show (borE r vs (k + 1)).length + 1 = _; rw [borE_length vs r]; rfl
theorem backE_length (e e' : List (Option SV)) : ∀ asg, (backE e e' asg).length = e.length
  | [] => rfl
  | i :: asg => by show ((backE e e' asg).set i _).length = _; rw [List.length_set, backE_length e e' asg]
theorem backE_out {e e' : List (Option SV)} {i : Nat} : ∀ {asg : List Nat}, i ∉ asg → (backE e e' asg)[i]? = e[i]?
  | [], _ => rfl
  | j :: asg, h => by
    show ((backE e e' asg).set j _)[i]? = _
    rw [List.getElem?_set_ne (fun q => h (by rw [q]; exact List.mem_cons_self))]
    exact backE_out fun m => h (List.mem_cons_of_mem _ m)
theorem backE_in {e e' : List (Option SV)} {i : Nat} {s : Option SV} : ∀ {asg : List Nat}, i ∈ asg → (backE e e' asg)[i]? = some s → s = flatS (look e' i)
  | j :: asg, h, g => by
    have g : ((backE e e' asg).set j (flatS (look e' j)))[i]? = some s := g
    by_cases q : j = i
    · subst q
      have lt : j < (backE e e' asg).length := by
        have := (List.getElem?_eq_some_iff.mp g).1
        rwa [List.length_set] at this
      rw [List.getElem?_set_self lt] at g
      exact (Option.some.inj g).symm
    · rw [List.getElem?_set_ne q] at g
      exact backE_in ((List.mem_cons.mp h).resolve_left fun e => q e.symm) g
section
variable {B : RB} {X : Cx}
theorem Rp.flat_ {H H' : Hp} {d : D} {v : V} (f : flat d = true) (h : Rp B H d v) : Rp B H' d v := by
  cases d with
  | non => rw [h.non_]; exact Rp.mk_non
  | bl b => rw [h.bl_]; exact Rp.mk_bl b
  | int b => rw [h.int_]; exact Rp.mk_int b
  | str b => rw [h.str_]; exact Rp.mk_str b
  | _ => cases f
def Owns (z : Z) (σ : L2.St) (b : Addr) : Prop := ∃ (i : Nat) (o : OD), z.e[i]? = some (some (SV.own o)) ∧ σ[i]? = some (some (V.ref b))
/-- the data when all that is owned is lent -/
noncomputable def lentD (D H : Hp) (z : Z) (σ : L2.St) : Hp := fun b =>
  open Classical in if Owns z σ b then H b else D b
theorem lent_in {D H : Hp} {z : Z} {σ : L2.St} {i : Nat} {o : OD} {b : Addr} (h1 : z.e[i]? = some (some (.own o))) (h2 : σ[i]? = some (some (.ref b))) : lentD D H z σ b = H b := if_pos ⟨i, o, h1, h2⟩
theorem lent_cases (D H : Hp) (z : Z) (σ : L2.St) (b : Addr) : ((Owns z σ b) ∧ lentD D H z σ b = H b) ∨ ((¬ Owns z σ b) ∧ lentD D H z σ b = D b) := by
  by_cases c : Owns z σ b
  · exact .inl ⟨c, if_pos c⟩
  · exact .inr ⟨c, if_neg c⟩
def valsAt (σ : L2.St) (i : Nat) : V := match σ[i]? with
  | some (some v) => v
  | _ => .non
theorem valsAt_of {σ : L2.St} {i : Nat} {v : V} (h : σ[i]? = some (some v)) : valsAt σ i = v := by unfold valsAt; rw [h]
theorem Rel.own_at {Y : RC} {D : Hp} {z : Z} {σ : L2.St} {H : Hp} {i : Nat} {o : OD} {b : Addr} (R : Rel B Y D z σ H) (h1 : z.e[i]? = some (some (.own o))) (h2 : σ[i]? = some (some (.ref b))) : ∃ u, H b = some u ∧ ObR B D o u ∧ D b = none ∧ Y.H0 b = none ∧ Off Y b := by
  obtain ⟨v, e1, p, u, e2, e3⟩ := R.slot i _ h1
  rw [h2] at e1
  cases e1
  cases e2
  exact ⟨u, e3⟩
theorem Rel.lend {Y : RC} {D : Hp} {z : Z} {σ : L2.St} {H : Hp} (R : Rel B Y D z σ H) : Rel B Y (lentD D H z σ) ⟨borE z.e (valsAt σ) 0, z.w⟩ σ H ∧ Same D (lentD D H z σ) := by
  have s1 : Same D (lentD D H z σ) := fun b u e => by
    rcases lent_cases D H z σ b with ⟨_, q⟩ | ⟨_, q⟩
    · rw [q]; exact R.dat b u e
    · rw [q]; exact e
  have off : ∀ b, (Y.on = true → b = Y.sa ∨ b = Y.ga ∨ b = Y.ta) → Y.on = true → lentD D H z σ b = D b := fun b hb on => by
    rcases lent_cases D H z σ b with ⟨⟨i, o, h1, h2⟩, q⟩ | ⟨_, q⟩
    · obtain ⟨u, _, _, _, _, f⟩ := R.own_at h1 h2
      obtain ⟨f1, f2, f3⟩ := f on
      rcases hb on with h | h | h
      · exact (f1 h).elim
      · exact (f2 h).elim
      · exact (f3 h).elim
    · exact q
  refine ⟨⟨R.keep, fun b u e => ?_, fun b hb => ?_, ⟨R.wr.s, R.wr.g, fun h => ?_, fun h => ?_, R.wr.hs, R.wr.hg, R.wr.ne, R.wr.t, fun h => ?_, R.wr.ht, R.wr.a, R.wr.tb⟩, by rw [borE_length]; exact R.len, fun i s e => ?_, fun i j o o' p e => ?_⟩, s1⟩
  · rcases lent_cases D H z σ b with ⟨_, q⟩ | ⟨_, q⟩
    · rw [q] at e; exact e
    · rw [q] at e; exact R.dat b u e
  · rcases lent_cases D H z σ b with ⟨⟨i, o, h1, h2⟩, q⟩ | ⟨_, q⟩
    · obtain ⟨u, _, _, _, f, _⟩ := R.own_at h1 h2
      exact .inr f
    · rw [q] at hb; exact R.dom b hb
  · rw [off _ (fun _ => .inl rfl) h]; exact R.wr.ds h
  · rw [off _ (fun _ => .inr (.inl rfl)) h]; exact R.wr.dg h
  · rw [off _ (fun _ => .inr (.inr rfl)) h]; exact R.wr.dt h
  · rw [borE_get, Nat.zero_add] at e
    cases q : z.e[i]? with
    | none => rw [q] at e; cases e
    | some s0 =>
      obtain ⟨v, h1, h2⟩ := R.slot i s0 q
      rw [q] at e
      cases s0 with
      | none => cases e; exact ⟨v, h1, True.intro⟩
      | some s0 =>
        cases e
        refine ⟨v, h1, ?_⟩
        cases s0 with
        | dat d =>
          obtain ⟨x, rfl, r⟩ := h2
          exact ⟨by rw [valsAt_of h1], by rw [valsAt_of h1]; exact Rp.mono s1 _ _ r⟩
        | own o =>
          obtain ⟨p, u, rfl, h3, h4, _⟩ := h2
          refine ⟨by rw [valsAt_of h1], ?_⟩
          rw [valsAt_of h1]
          exact (h4.mono s1).rp (by rw [lent_in q h1]; exact h3)
        | bor d x =>
          obtain ⟨rfl, r⟩ := h2
          exact ⟨by rw [valsAt_of h1], by rw [valsAt_of h1]; exact Rp.mono s1 _ _ r⟩
  · rw [borE_get] at e
    cases q : z.e[i]? with
    | none => rw [q] at e; cases e
    | some s0 =>
      rw [q] at e
      cases s0 with
      | none => cases e
      | some s0 => cases e
def zBor (asg : List Nat) (t : ZS) : ZS := fun E z => ∀ vs : Nat → V, t ⟨fun z' => wipeE z'.e asg = wipeE (borE z.e vs 0) asg ∧ E.nx ⟨backE z.e z'.e asg, z'.w⟩, fun _ _ => False, fun _ => False, fun _ => False⟩ ⟨borE z.e vs 0, z.w⟩
theorem zs_bor (asg : List Nat) {st : Stmt} {t : ZS} (h : DS X B st t) : DS X B st (zBor asg t) := ps_weak h fun T σ H ⟨Y, D, z, E, R, ht, k⟩ => by
  obtain ⟨R1, s1⟩ := R.lend
  refine ⟨Y, _, _, _, R1, ht (valsAt σ), ⟨fun z' ⟨hw, q⟩ σ' H' D' S => ?_, fun d z' q => q.elim, fun z' q => q.elim, fun z' q => q.elim⟩⟩
  have R' := S.rel
  have sD : Same D D' := s1.trans S.same
  have out : ∀ i, i ∉ asg → z'.e[i]? = (z.e[i]?).map (fun s => s.map fun s => .bor s.d (valsAt σ i)) := fun i hi => by
    rw [← wipeE_out hi, hw, wipeE_out hi, borE_get, Nat.zero_add]
  have len : z'.e.length = z.e.length := by rw [← wipeE_length z'.e asg, hw, wipeE_length, borE_length]
  have val : ∀ i s v, i ∉ asg → z.e[i]? = some (some s) → σ[i]? = some (some v) → σ'[i]? = some (some v) := fun i s v hi h1 h2 => by
    have e := out i hi
    rw [h1] at e
    obtain ⟨v', e1, e2, e3⟩ := R'.slot i _ e
    rw [e1, e2, valsAt_of h2]
  have outk : ∀ i s, (backE z.e z'.e asg)[i]? = some (some s) → (i ∈ asg ∧ ∃ d, s = .dat d ∧ flat d = true ∧ look z'.e i = some (.dat d)) ∨ (i ∉ asg ∧ z.e[i]? = some (some s)) := fun i s e => by
    by_cases hi : i ∈ asg
    · have := backE_in hi e
      refine .inl ⟨hi, ?_⟩
      cases q : look z'.e i with
      | none => rw [q] at this; cases this
      | some sv =>
        rw [q] at this
        cases sv with
        | dat d =>
          have this : some s = if flat d then some (SV.dat d) else none := this
          by_cases f : flat d = true
          · rw [if_pos f] at this
            exact ⟨d, Option.some.inj this, f, rfl⟩
          · rw [if_neg f] at this; cases this
        | own o => cases this
        | bor d x => cases this
    · rw [backE_out hi] at e
      exact .inr ⟨hi, e⟩
  refine k.nx _ q σ' H' D ⟨⟨R'.keep, fun b u e => R'.dat b u (sD b u e), R.dom, ⟨R'.wr.s, R'.wr.g, R.wr.ds, R.wr.dg, R.wr.hs, R.wr.hg, R.wr.ne, R'.wr.t, R.wr.dt, R.wr.ht, R'.wr.a, R.wr.tb⟩, ?_, fun i s e => ?_, fun i j o o' p ei ej si sj => ?_⟩, Same.refl _, S.grow⟩
  · rw [R'.len, backE_length, len]
  · cases s with
    | none =>
      have lt : i < σ'.length := by
        have := (List.getElem?_eq_some_iff.mp e).1
        rw [backE_length] at this
        rw [R'.len, len]; exact this
      exact ⟨σ'[i], List.getElem?_eq_getElem lt, True.intro⟩
    | some s =>
      rcases outk i s e with ⟨hi, d, rfl, f, hl⟩ | ⟨hi, he⟩
      · obtain ⟨v, h1, h2⟩ := R'.look_dat hl
        exact ⟨_, h1, v, rfl, h2.flat_ f⟩
      · obtain ⟨v, h1, h2⟩ := R.slot i _ he
        cases s with
        | dat d =>
          obtain ⟨x, rfl, r⟩ := h2
          exact ⟨_, val i _ x hi he h1, x, rfl, r⟩
        | own o =>
          obtain ⟨p, u, rfl, h3, h4, h5, h6, h7⟩ := h2
          exact ⟨_, val i _ _ hi he h1, p, u, rfl, R'.dat _ _ (S.same _ _ (by rw [lent_in he h1]; exact h3)), h4, h5, h6, h7⟩
        | bor d x =>
          obtain ⟨rfl, r⟩ := h2
          exact ⟨_, val i _ _ hi he h1, rfl, r⟩
  · have base : ∀ {i : Nat} {o : OD}, (backE z.e z'.e asg)[i]? = some (some (SV.own o)) → σ'[i]? = some (some (V.ref p)) → z.e[i]? = some (some (SV.own o)) ∧ σ[i]? = some (some (V.ref p)) := fun {i o} e si => by
      rcases outk i _ e with ⟨hi, d, q, _⟩ | ⟨hi, he⟩
      · cases q
      · refine ⟨he, ?_⟩
        obtain ⟨v, h1, p', u, rfl, _⟩ := R.slot i _ he
        have := val i _ _ hi he h1
        rw [si] at this
        cases this
        exact h1
    obtain ⟨e1, f1⟩ := base ei si
    obtain ⟨e2, f2⟩ := base ej sj
    exact R.inj i j o o' p e1 e2 f1 f2
/-- x is not None, x a name: nothing is lent for it -/
def zNN (i : Nat) : ZT := fun z Q => match look z.e i with
  | some (.own _) => Q true z
  | some (.dat d) => Q (!isNon d) z
  | some (.bor d _) => Q (!isNon d) z
  | none => False
theorem z_nn (i : Nat) {x : Str} {p p2 pos : Pos} {j : Nat} (hN : X.N[i]? = some x := by rfl) (hv : Vis X.env.scope x := by first | exact Or.inl rfl | exact Or.inr (Or.inl rfl) | exact Or.inr (Or.inr rfl)) (hd : (x == ("__debug__" : Str)) = false := by decide)
    (hcd : (x == ("__classdict__" : Str)) = false := by decide) : DT X B (.Compare (.Name x p) [.IsNot] [.Constant .none j p2] pos) (zNN i) :=
  pt_weak (pt_cmp (pc_notN (pe_var hN hv hd hcd)) rfl) fun σ H Q ⟨Y, D, z, Q', R, h, k⟩ => by
    unfold zNN at h
    split at h
    · rename_i o e0
      obtain ⟨p0, u, h1, h2, h3, h4⟩ := R.look_own e0
      exact ⟨_, h1, _, rfl, k true z h H D (Step.refl R)⟩
    · rename_i d e0
      obtain ⟨v, h1, r⟩ := R.look_dat e0
      exact ⟨_, h1, _, rfl, by rw [rp_isNon r]; exact k _ z h H D (Step.refl R)⟩
    · rename_i d x e0
      obtain ⟨v, h1, h2, r⟩ := R.slot i _ (look_some e0)
      exact ⟨_, h1.trans (by rw [h2]), _, rfl, by rw [rp_isNon r]; exact k _ z h H D (Step.refl R)⟩
    · exact h.elim
end
end Kz

set_option Elab.async false
set_option linter.all false
set_option maxRecDepth 100000
set_option maxHeartbeats 4000000
set_option autoImplicit false
/-! An instance under way: its fields, its making. -/
namespace Kz
open PySem PySem.Spec PyProof.Rows L2
theorem putF_new {f : Str} {v : V} : ∀ {ns : List Str} {xs : List V}, f ∉ ns → ns.length = xs.length → putF f v (ns.zip xs) = (ns ++ [f]).zip (xs ++ [v])
  | [], [], _, _ => rfl
  | n :: ns, x :: xs, h, e => by
    have h1 : n ≠ f := fun q => h (by rw [q]; exact List.mem_cons_self)
    have h2 : f ∉ ns := fun q => h (List.mem_cons_of_mem _ q)
    show (if n = f then (n, v) :: ns.zip xs else (n, x) :: putF f v (ns.zip xs)) = (n, x) :: (ns ++ [f]).zip (xs ++ [v])
    rw [if_neg h1, putF_new h2 (by simpa using e)]
section
variable {X : Cx} {B : RB}
theorem Rel.own_ins {Y : RC} {D H : Hp} {z : Z} {σ : L2.St} {i : Nat} {dx : Addr} {ns : List Str} {ds : List Kz.D} (R : Rel B Y D z σ H) (h : look z.e i = some (.own (.ins dx ns ds))) : ∃ p xs, σ[i]? = some (some (.ref p)) ∧ H p = some (.ins B.C dx (ns.zip xs)) ∧ ns.length = xs.length ∧ RpA B D ds xs ∧ z.e[i]? = some (some (.own (.ins dx ns ds))) := by
  obtain ⟨p, u, h1, h2, ⟨xs, rfl, hl, ra⟩, h4⟩ := R.look_own h
  exact ⟨p, xs, h1, h2, hl, ra, h4⟩
/-- self.f -/
def zFldO (i : Nat) (f : Str) : ZE := fun z Q => match look z.e i with
  | some (.own (.ins dx ns ds)) => ∃ d, (ns.zip ds).lookup f = some d ∧ Q d z
  | _ => False
theorem z_fldO (i : Nat) (f : Str) {x : Str} {p pos : Pos} (c : Cls X.K B.C) (n : NoAttr X.K B.C f) (hN : X.N[i]? = some x := by rfl) (hv : Vis X.env.scope x := by first | exact Or.inl rfl | exact Or.inr (Or.inl rfl) | exact Or.inr (Or.inr rfl)) (hd : (x == ("__debug__" : Str)) = false := by decide)
    (hcd : (x == ("__classdict__" : Str)) = false := by decide) (hb : attributeBase (.Name x p) f X.env (eval (.Name x p) X.env) = eval (.Name x p) X.env := by rfl) : DE X B (.Attribute (.Name x p) f pos) (zFldO i f) :=
  pe_weak (pe_fld (pe_var hN hv hd hcd) hb) fun σ H Q ⟨Y, D, z, Q', R, h, k⟩ => by
    unfold zFldO at h
    split at h
    · rename_i dx ns ds e0
      obtain ⟨d, h1, h2⟩ := h
      obtain ⟨p0, xs, s0, hp, hl, ra, _⟩ := R.own_ins e0
      obtain ⟨v, l, r⟩ := zip_look ra h1
      exact ⟨_, s0, p0, B.C, dx, _, v, rfl, hp, c, n, l, k d z h2 v H D (Step.refl R) r⟩
    · exact h.elim
/-- self.f = e, a new field -/
def zFldP (i : Nat) (f : Str) (t : ZE) : ZS := fun E z => t z fun d z1 => match look z1.e i with
  | some (.own (.ins dx ns ds)) => f ∉ ns ∧ ns.length < 1000 ∧ E.nx (setO z1 i (.ins dx (ns ++ [f]) (ds ++ [d])))
  | _ => False
theorem zs_fldP (i : Nat) (f : Str) {x : Str} {e : Expr} {t : ZE} {p pos' pos : Pos} (he : DE X B e t) (c : Cls X.K B.C) (n : NoAttr X.K B.C f) (hN : X.N[i]? = some x := by rfl) (hv : Vis X.env.scope x := by first | exact Or.inl rfl | exact Or.inr (Or.inl rfl) | exact Or.inr (Or.inr rfl)) (hd : (x == ("__debug__" : Str)) = false := by decide)
    (hcd : (x == ("__classdict__" : Str)) = false := by decide) (hs : swapsWith e (some (.Attribute (.Name x p) f pos')) pos.line X.env = pure false := by rfl) : DS X B (.Assign [.Attribute (.Name x p) f pos'] e pos) (zFldP i f t) :=
  ps_weak (ps_fld (pe_var hN hv hd hcd) he hs) fun T σ H ⟨Y, D, z, E, R, h, k⟩ => ⟨Y, D, z, _, R, h, fun d z1 h1 v H1 D1 S1 r1 => by
    split at h1
    · rename_i dx ns ds e0
      obtain ⟨h1, h2, h3⟩ := h1
      obtain ⟨p0, xs, s0, hp, hl, ra, he1⟩ := S1.rel.own_ins e0
      refine ⟨_, s0, p0, B.C, dx, _, rfl, hp, c, n, by rw [List.length_zip, ← hl, Nat.min_self]; exact h2, ?_⟩
      refine k.nx _ h3 _ _ D1 (S1.trans (Step.write (o' := .ins dx (ns ++ [f]) (ds ++ [d])) S1.rel he1 s0 ⟨xs ++ [v], by rw [putF_new h1 hl], by rw [List.length_append, List.length_append, hl]; rfl, RpA.append ra (RpA.one r1)⟩)).stp
    · exact h1.elim⟩
/-! ### making -/
abbrev ZFI := List D → Wd → (List Str → List D → Wd → Prop) → Prop
def spI (B : RB) (F : ZFI) : Sp := fun vs H Q _ => ∃ x rest Y Dh ds w Q' dx, vs = V.ref x :: rest ∧ H x = some (.ins B.C dx []) ∧ Y.H0 dx = some (.own x) ∧ Rel B Y Dh ⟨[], w⟩ [] H ∧ Dh x = none ∧ Y.H0 x = none ∧ Off Y x ∧ RpA B Dh ds rest ∧ F ds w Q' ∧
  ∀ ns ds' w', Q' ns ds' w' → ∀ H' D', Rel B Y D' ⟨[], w'⟩ [] H' → Same Dh D' → (∀ p, H' p = none → H p = none) → VB B Y D' H' (.own (.ins dx ns ds')) (.ref x) → Q .non H'
structure ZIni (P : Program) (w : World) (K : PySem.W.Frag) (mg : Str → Option Value) (base : Heap) (B : RB) (x : Str) (k : Nat) (F : ZFI) : Prop where
  ex : ∃ f fd ps, FnOk P w K mg base CX0 k f fd ps (spI B F) ∧ Mk K B.C f ∧ mg x = some (.ref B.C) ∧ Binds K fd ps []
theorem ZIni.mono {P : Program} {w : World} {K : PySem.W.Frag} {mg : Str → Option Value} {base : Heap} {B : RB} {x : Str} {j k : Nat} {F : ZFI} (h : ZIni P w K mg base B x j F) (l : j ≤ k) : ZIni P w K mg base B x k F :=
  let ⟨f, fd, ps, G, a, b, c⟩ := h.ex; ⟨f, fd, ps, G.mono l, a, b, c⟩
def zMake (F : ZFI) (t : ZA) : ZM := fun z Q => t z fun ds z1 => F ds z1.w fun ns ds' w' => ∀ dx, Q (.own (.ins dx ns ds')) ⟨z1.e, w'⟩
theorem z_make {x : Str} {k : Nat} {F : ZFI} {e : Expr} {es : List Expr} {t : ZA} {p pos : Pos} (G : ZIni X.prog X.w X.K X.mg X.base B x k F) (hr : Room (k + 1) X.A) (hg : Gl X x) (ha : DA X B (e :: es) t)
    (hdb : (x == ("__debug__" : Str)) = false := by decide) (he : starEach (e :: es) X.env = (false, eval e X.env) :: starEach es X.env := by rfl) (hpl : (backTo pos (starEach es X.env)).any (·.1) = false := by rfl) :
    DM X B (.Call (.Name x p) (e :: es) [] pos) (zMake F t) := by
  obtain ⟨f, fd, ps, G, M, hm, hb⟩ := G.ex
  exact pe_weak (pe_make M G hr hg hm hb .nil pass0 ha hdb he hpl) fun σ H Q ⟨Y, Dh, z, Q', R, h, k⟩ => ⟨Y, Dh, z, _, R, h, fun ds z1 h1 vs H1 D1 S1 r1 => fun x dx hx hdx hne => by
    show spI B F (V.ref x :: (vs ++ [])) _ _ _
    rw [List.append_nil]
    have A1 := Step.aside (o := .own x) S1.rel hdx
    have hx1 : (upd H1 dx (.own x)) x = none := by rw [upd_ne (Ne.symm hne)]; exact hx
    have F1 := A1.rel.fresh hx1
    have F2 := S1.rel.fresh hdx
    have RC := callee_rel A1.rel
    have hc0 : (callee Y D1 (upd H1 dx (.own x))).H0 x = none := by
      show (if Y.on = true ∧ (x = Y.sa ∨ x = Y.ga ∨ x = Y.ta) then none else (upd H1 dx (.own x)) x) = none
      rw [hx1]; split <;> rfl
    have hc1 : (callee Y D1 (upd H1 dx (.own x))).H0 dx = some (.own x) := by
      show (if Y.on = true ∧ (dx = Y.sa ∨ dx = Y.ga ∨ dx = Y.ta) then none else (upd H1 dx (.own x)) dx) = some (.own x)
      rw [if_neg, upd_same]
      rintro ⟨on, h | h | h⟩
      · exact (F2.off on).1 h
      · exact (F2.off on).2.1 h
      · exact (F2.off on).2.2 h
    refine ⟨x, vs, callee Y D1 (upd H1 dx (.own x)), D1, ds, z1.w, _, dx, rfl, upd_same, hc1, RC.aside hx1, F1.d, hc0, F1.off, r1, h1, fun ns ds' w' q H' D' R' s g rp => ⟨rfl, ?_⟩⟩
    have g' : ∀ p, H' p = none → (upd H1 dx (.own x)) p = none := fun p hp => by
      have := g p hp
      by_cases e : p = x
      · rw [e]; exact hx1
      · rw [upd_ne e] at this; exact this
    have S2 := callee_step A1.rel R' s g'
    refine k _ _ (q dx) _ H' D' ((S1.trans A1).trans S2) ?_
    obtain ⟨p, u, e1, e2, e3, e4⟩ := VB.vr (w' := w') A1.rel rp
    exact ⟨p, u, e1, e2, S1.grow p (A1.grow p e3), e4⟩⟩
/-- what a block ends in is told with the invariant there -/
theorem pss_inv {st : List Stmt} {t : TS} (h : PSs X st t) : PSs X st (fun T σ H => t { T with nx := fun σ' H' => (∃ pins s, Inv X pins σ' H' s) → T.nx σ' H' } σ H) := by
  refine ⟨fun pins s σ H T I hw => thn (h.run pins s σ H _ I hw) fun f s' q => ?_⟩
  cases f with
  | next =>
    obtain ⟨σ', H', J, q⟩ := q
    exact ⟨σ', H', J, q ⟨pins, s', J⟩⟩
  | brk => exact q
  | cont => exact q
  | ret u => exact q
end
section
variable {P : Program} {w : World} {K : PySem.W.Frag} {mg : Str → Option Value} {base : Heap} {B : RB}
/-- what __init__'s body is to reach -/
def finI (dx : Addr) (Q : List Str → List D → Wd → Prop) : ZEnds := ⟨fun z => ∃ ns ds, look z.e 0 = some (.own (.ins dx ns ds)) ∧ Q ns ds z.w, fun _ _ => False, fun _ => False, fun _ => False⟩
theorem zini {x m : Str} {qual : Str} {params : Arguments} {body : List Stmt} {scope : Scope} {f : Addr} {fd : FuncData} {N ps : List Str} {n0 : Str} {k : Nat} {F : ZFI} (FD : FunD K m qual params body scope [] [] f fd) (M : Mk K B.C f) (hm : mg x = some (.ref B.C)) (S : FnScope N ps scope)
    (hN : ∃ N', N = n0 :: N')
    (hb : ∀ (kV doc pm : Value) (an : Option Addr) (cdv ct : Value) (us : List Value), us.length = ps.length → bindArgs (PySem.W.fnOf m qual params body scope .none kV doc pm an cdv ct) ⟨us, []⟩ = pure (ps.zip us))
    (len : ∀ ds wd Q, F ds wd Q → ds.length + 1 = ps.length)
    (hbody : ∀ (cdv : Value) (A : Around) (outer : List Env) (s : Shared) (H : Hp) (E : XK), Room k (A.deeper (envOfC qual scope s.heap.objs.size f cdv)) →
      ∃ t, DSs (cxOf CX0 P w K mg base N qual scope f cdv A outer s H E).nox B body t ∧ ∀ ds wd Q dx, F ds wd Q → t (finI dx Q) ⟨some (.own (.ins dx [] [])) :: startE N.tail ds, wd⟩) : ZIni P w K mg base B x (k + 1) F := by
  refine ⟨f, fd, ps, ?_, M, hm, FD.bindsN fun kV doc pm an cdv ct us hl => hb kV doc pm an cdv ct us hl⟩
  refine FunD.ok (CX := CX0) FD S (fun vs H Q E ⟨x, rest, Y, Dh, ds, wd, Q', dx, ev, hx, hdx, R, h1, h2, h3, r, h, k⟩ => by rw [ev, List.length_cons, ← r.length]; exact len ds wd Q' h)
    fun cdv A outer s H vs Q E hr ⟨x, rest, Y, Dh, ds, wd, Q', dx, ev, hx, hdx, R, h1, h2, h3, r, h, k⟩ => ?_
  obtain ⟨t, dt, ht⟩ := hbody cdv A outer s H E hr
  subst ev
  obtain ⟨N', rfl⟩ := hN
  have R1 : Rel B Y Dh ⟨startE N' ds, wd⟩ (L2.start N' rest) H := start_rel R r
  have eσ : L2.start (n0 :: N') (V.ref x :: rest) = some (V.ref x) :: L2.start N' rest := by
    unfold L2.start
    rw [List.map_cons, List.length_cons, List.length_cons, Nat.add_sub_add_right]; rfl
  have R2 : Rel B Y Dh ⟨some (.own (.ins dx [] [])) :: startE N' ds, wd⟩ (L2.start (n0 :: N') (V.ref x :: rest)) H := by
    rw [eσ]
    have noown : ∀ (i : Nat) (o : OD), (startE N' ds)[i]? ≠ some (some (SV.own o)) := fun i o e => by
      unfold startE at e
      obtain ⟨v, _, h⟩ := start_slot (B := B) (Dh := Dh) _ r i _ e
      rcases h with h | ⟨d, x, h, _⟩ <;> cases h
    refine ⟨R1.keep, R1.dat, R1.dom, R1.wr, by rw [List.length_cons, List.length_cons, R1.len], fun i s e => ?_, fun i j o o' p ei ej si sj => ?_⟩
    · cases i with
      | zero =>
        cases e
        exact ⟨_, rfl, x, _, rfl, hx, ⟨[], rfl, rfl, RpA.mk_nil⟩, h1, h2, h3⟩
      | succ i => exact R1.slot i s e
    · cases i with
      | zero =>
        cases j with
        | zero => rfl
        | succ j => exact (noown j o' ej).elim
      | succ i => exact (noown i o ei).elim
  refine ⟨_, (pss_inv dt).nox, Y, Dh, _, _, R2, ht ds wd Q' dx h, ⟨fun z' q σ' H' D' S => ?_, fun d z' q => q.elim, fun z' q => q.elim, fun z' q => q.elim⟩⟩
  rintro ⟨pins, s', J⟩
  obtain ⟨ns, ds', hl, q⟩ := q
  obtain ⟨v, e1, p, u, e2, hp, ob, hd, h0, off⟩ := S.rel.slot 0 _ (look_some hl)
  have ob' := ob
  obtain ⟨xs, rfl, _⟩ := ob'
  have e3 : H' dx = some (.own p) := (show ObjOk _ _ H' _ p (.ins B.C dx (ns.zip xs)) from J.hok p _ hp).1
  have e4 : H' dx = some (.own x) := S.rel.keep _ _ hdx
  have px : p = x := by
    rw [e4] at e3
    cases e3; rfl
  subst px
  exact k ns ds' _ q H' D' S.rel.bare S.same S.grow ⟨p, _, rfl, hp, hd, h0, off, ob⟩
end
end Kz

set_option Elab.async false
set_option linter.all false
set_option maxRecDepth 100000
set_option maxHeartbeats 4000000
set_option autoImplicit false
/-! list(range(..)), repr of data, is not True. -/
namespace Kz
open PySem PySem.Spec PyProof.Rows L2
section
variable {X : Cx} {B : RB}
def zListRg (t : ZE) : ZM := fun z Q => t z fun d z1 => match d with
  | .int n => 0 ≤ n ∧ n ≤ 1000000 ∧ Q (.own (.lst (rangeD 0 n.toNat))) z1
  | _ => False
theorem rangeD_eq (lo : Int) : ∀ n : Nat, rangeD lo n = ((List.range n).map fun i : Nat => lo + (i : Int)).map D.int
  | 0 => rfl
  | n + 1 => by rw [rangeD, rangeD_eq lo n, List.range_succ, List.map_append, List.map_append]; rfl
theorem z_listRg {e : Expr} {t : ZE} {p p2 pos pos2 : Pos} (he : DE X B e t) (hm2 : X.mg "list" = none) (hm : X.mg "range" = none) (hc : X.calm = true := by rfl) (hg : Gl X "range" := by rfl) (hg2 : Gl X "list" := by rfl) (na : starEach [e] X.env = (false, eval e X.env) :: starEach [] X.env := by rfl)
    (nb : starEach [.Call (.Name "range" p) [e] [] pos] X.env = (false, eval (.Call (.Name "range" p) [e] [] pos) X.env) :: starEach [] X.env := by rfl) :
    DM X B (.Call (.Name "list" p2) [.Call (.Name "range" p) [e] [] pos] [] pos2) (zListRg t) :=
  pe_weak (pe_listRg hc hg2 hm2 (prg_1 hg hm he na) nb) fun σ H Q ⟨Y, D, z, Q', R, h, k⟩ => ⟨Y, D, z, _, R, h, fun d z1 q v H1 D1 S1 r => by
    cases d with
    | int n =>
      obtain ⟨n0, n1, q⟩ := q
      refine ⟨n, r.int_, RgOk.of_le (by omega) (by omega) (by omega) n0, fun p hp => ?_⟩
      have e : rgV 0 n = ((List.range n.toNat).map fun i : Nat => (0 : Int) + (i : Int)).map V.int := by
        unfold rgV
        rw [Int.sub_zero, List.map_map]; rfl
      refine k _ _ q _ _ D1 (S1.trans (Step.aside S1.rel hp)) ⟨p, _, rfl, upd_same, S1.grow p hp, (Fresh.new S1.rel hp).2, _, rfl, ?_⟩
      rw [rangeD_eq, e]
      exact RpA.mk_ints _
    | _ => exact q.elim⟩
/-! repr -/
theorem call_repr_dp (hg : X.A.guards = some []) (hu : X.A.units + 66 < cLine) : CallR X (.builtin "repr") (fun xs H Q => ∃ a d, xs = [V.ref a] ∧ Dp X.K H (.ref a) d ∧ d.showable = true ∧ d.hasDict = false ∧ d.depth ≤ 64 ∧ d.shown.length ≤ sizeLine ∧ Q (.str d.shown) H) := by
  intro pins s σ H xs us Q I r h
  obtain ⟨a, d, rfl, hd, h1, h2, h3, h4, q⟩ := h
  obtain ⟨u, rfl, rx⟩ := vals1 r
  obtain ⟨as, hr⟩ := Dp.reads I d (.ref a) u hd rx
  obtain rfl : u = Value.ref a := rx
  refine repr_of_reads' hr h1 (PyData.noDict_hsm h2) hg (by omega) (fun b o e => e) (fun h' tk n hk => ?_) h4
  exact ⟨.str d.shown, H, I.kept hk, ⟨_, rfl⟩, q⟩
def isSeq : D → Bool
  | .lst _ => true
  | .tup _ => true
  | _ => false
def zRepr : ZRL := fun ds z Q => match ds with
  | [d] => isSeq d = true ∧ isP d = true ∧ (toP d).showable = true ∧ (toP d).hasDict = false ∧ (toP d).depth ≤ 64 ∧ (toP d).shown.length ≤ sizeLine ∧ Q (.dat (.str (toP d).shown)) z
  | _ => False
theorem l_repr (hB : B.K = X.K) : LinkA B (fun xs H Q => ∃ a d, xs = [V.ref a] ∧ Dp X.K H (.ref a) d ∧ d.showable = true ∧ d.hasDict = false ∧ d.depth ≤ 64 ∧ d.shown.length ≤ sizeLine ∧ Q (.str d.shown) H) zRepr := fun Y D z σ H ds vs Q' Q R r h k => by
  unfold zRepr at h
  split at h
  · rename_i d
    obtain ⟨v, rfl, r1⟩ := r.one_
    obtain ⟨h0, h1, h2, h3, h4, h5, q⟩ := h
    have dp := dp_of (B := B) R.dat d v h1 r1
    have hv : ∃ a, v = .ref a := by
      cases d with
      | lst ds => obtain ⟨a, xs, e, _⟩ := r1.lst_; exact ⟨a, e⟩
      | tup ds => obtain ⟨a, xs, e, _⟩ := r1.tup_; exact ⟨a, e⟩
      | _ => cases h0
    obtain ⟨a, rfl⟩ := hv
    exact ⟨a, toP d, rfl, hB ▸ dp, h2, h3, h4, h5, k _ z q _ H D (Step.refl R) (Rp.mk_str (Y := B) (H := D) _)⟩
  · exact h.elim
/-! x is not True -/
def zNotTrue (t : ZE) : ZT := fun z Q => t z fun d z1 => match d with
  | .bl b => Q (!b) z1
  | _ => False
theorem z_notTrue {e : Expr} {t : ZE} {j : Nat} {p pos : Pos} (he : DE X B e t) : DT X B (.Compare e [.IsNot] [.Constant (.bool true) j p] pos) (zNotTrue t) :=
  pt_weak (pt_cmpR op_isnot_bl he pe_bl (nomark _)) fun σ H Q ⟨Y, D, z, Q', R, h, k⟩ => ⟨Y, D, z, _, R, h, fun d z1 q v H1 D1 S1 r => by
    cases d with
    | bl b =>
      refine ⟨b, true, r.bl_, rfl, !decide (b = true), rfl, ?_⟩
      have e : decide (b = true) = b := by cases b <;> rfl
      rw [e]
      exact k _ z1 q H1 D1 S1
    | _ => exact q.elim⟩
end
end Kz

set_option Elab.async false
set_option linter.all false
set_option autoImplicit false
/-! Plain law: the law's own search for rings. -/
namespace Kz
structure LInv (ls : List Lk) (F W : List (List Lk)) : Prop where
  ok : ∀ w ∈ W, Way ls (headA w) w
  all : ∀ r, Ring ls r → r ∈ F ∨ ∃ p ∈ W, ∃ s, r = p ++ s
  rings : ∀ r ∈ F, Ring ls r
def goL (w : List Lk) (l : Lk) : Bool := decide (l.a = endO w)
def extL (some w : List Lk) : List (List Lk) := (some.filter (goL w)).map fun l => w ++ [l]
theorem headA_app {w s : List Lk} (h : w ≠ []) : headA (w ++ s) = headA w := by
  cases w with
  | nil => exact (h rfl).elim
  | cons x w => rfl
theorem Way.head_ {ls : List Lk} {f : Int} {w : List Lk} (h : Way ls f w) : headA w = f := by
  obtain ⟨l, s, rfl, e⟩ := h.head
  exact e
theorem LInv.start {ls some : List Lk} (h : ∀ l, l ∈ some ↔ l ∈ ls) : LInv ls [] (some.map fun l => [l]) := by
  refine ⟨fun w hw => ?_, fun r hr => ?_, fun r hr => absurd hr (by simp)⟩
  · obtain ⟨l, hl, rfl⟩ := List.mem_map.mp hw
    exact Way.one ((h l).mp hl)
  · obtain ⟨f, W, _⟩ := hr
    obtain ⟨l, s, e, _⟩ := W.head
    exact .inr ⟨[l], List.mem_map.mpr ⟨l, (h l).mpr (W.sub l (by rw [e]; simp)), rfl⟩, s, e⟩
theorem LInv.found {ls w : List Lk} {F W V : List (List Lk)} (I : LInv ls F (w :: W ++ V)) (e : endO w = headA w) : LInv ls (F ++ [w]) (W ++ V) := by
  have ow := I.ok w (by simp)
  have rw_ : Ring ls w := ⟨headA w, ow, e⟩
  refine ⟨fun v hv => I.ok v (by simp at hv ⊢; rcases hv with h | h; exact .inr (.inl h); exact .inr (.inr h)), fun r hr => ?_, fun r hr => ?_⟩
  · rcases I.all r hr with h | ⟨p, hp, s, rfl⟩
    · exact .inl (by simp [h])
    · rcases List.mem_cons.mp hp with rfl | hp
      · obtain ⟨f, W1, e1⟩ := hr
        have hf : headA p = f := by rw [← W1.head_, headA_app ow.ne]
        have := Ring1.at_end (p := p) (s := s) ⟨W1, e1⟩ ow.ne (by rw [e, hf])
        subst this
        exact .inl (by simp)
      · exact .inr ⟨p, hp, s, rfl⟩
  · rcases List.mem_append.mp hr with h | h
    · exact I.rings r h
    · rw [List.mem_singleton.mp h]; exact rw_
theorem LInv.drop {ls w : List Lk} {F W V : List (List Lk)} (I : LInv ls F (w :: W ++ V)) (e : endO w ≠ headA w) (h : ¬ (headA w < endO w ∧ endO w ∉ hs w)) : LInv ls F (W ++ V) := by
  have ow := I.ok w (by simp)
  refine ⟨fun v hv => I.ok v (by simp at hv ⊢; rcases hv with h | h; exact .inr (.inl h); exact .inr (.inr h)), fun r hr => ?_, I.rings⟩
  rcases I.all r hr with h1 | ⟨p, hp, s, rfl⟩
  · exact .inl h1
  · rcases List.mem_cons.mp hp with rfl | hp
    · obtain ⟨f, W1, e1⟩ := hr
      have hf : headA p = f := by rw [← W1.head_, headA_app ow.ne]
      cases s with
      | nil => rw [List.append_nil] at e1; exact (e (by rw [e1, hf])).elim
      | cons l s =>
        obtain ⟨_, _, a3, a4, _⟩ := Ring1.next (p := p) (s := s) (l := l) ⟨W1, e1⟩ ow.ne
        exact (h ⟨by rw [hf]; exact a3, a4⟩).elim
    · exact .inr ⟨p, hp, s, rfl⟩
theorem extL_way {ls some w : List Lk} (h : ∀ l, l ∈ some ↔ l ∈ ls) (W : Way ls (headA w) w) (h2 : headA w < endO w) (h3 : endO w ∉ hs w) : ∀ v ∈ extL some w, Way ls (headA v) v ∧ v.length = w.length + 1 := fun v hv => by
  obtain ⟨l, hl, rfl⟩ := List.mem_map.mp hv
  obtain ⟨hl, hg⟩ := List.mem_filter.mp hl
  have hg : l.a = endO w := of_decide_eq_true hg
  rw [headA_app W.ne]
  exact ⟨W.snoc ((h l).mp hl) hg h3 (by omega), by simp⟩
theorem LInv.more {ls some w : List Lk} {F W V : List (List Lk)} (hm : ∀ l, l ∈ some ↔ l ∈ ls) (I : LInv ls F (w :: W ++ V)) (h2 : headA w < endO w) (h3 : endO w ∉ hs w) : LInv ls F (W ++ (V ++ extL some w)) := by
  have ow := I.ok w (by simp)
  refine ⟨fun v hv => ?_, fun r hr => ?_, I.rings⟩
  · rcases List.mem_append.mp hv with hv | hv
    · exact I.ok v (by simp [hv])
    · rcases List.mem_append.mp hv with hv | hv
      · exact I.ok v (by simp [hv])
      · exact (extL_way hm ow h2 h3 v hv).1
  · rcases I.all r hr with h1 | ⟨p, hp, s, rfl⟩
    · exact .inl h1
    · rcases List.mem_cons.mp hp with rfl | hp
      · obtain ⟨f, W1, e1⟩ := hr
        have hf : headA p = f := by rw [← W1.head_, headA_app ow.ne]
        cases s with
        | nil => rw [List.append_nil] at e1; omega
        | cons l s =>
          obtain ⟨a1, a2, _⟩ := Ring1.next (p := p) (s := s) (l := l) ⟨W1, e1⟩ ow.ne
          exact .inr ⟨p ++ [l], List.mem_append_right _ (List.mem_append_right _ (List.mem_map.mpr ⟨l, List.mem_filter.mpr ⟨(hm l).mpr a1, decide_eq_true a2⟩, rfl⟩)), s, by simp⟩
      · rcases List.mem_append.mp hp with hp | hp
        · exact .inr ⟨p, List.mem_append_left _ hp, s, rfl⟩
        · exact .inr ⟨p, List.mem_append_right _ (List.mem_append_left _ hp), s, rfl⟩
theorem extL_phi {ls some w : List Lk} {n : Nat} (hm : ∀ l, l ∈ some ↔ l ∈ ls) (W : Way ls (headA w) w) (h2 : headA w < endO w) (h3 : endO w ∉ hs w) (ok : ∀ l ∈ ls, inN n l) (hn : n ≤ 5) (hl : some.length ≤ 15) : Phi (extL some w) < wt w := by
  have hlen : (extL some w).length ≤ 15 := by
    unfold extL
    rw [List.length_map]
    exact Nat.le_trans (List.length_filter_le _ _) hl
  by_cases c : w.length ≤ 4
  · have hp := Phi_le (c := 16 ^ (4 - w.length)) (W := extL some w) fun v hv => by
      have e := (extL_way hm W h2 h3 v hv).2
      unfold wt
      rw [e, show 5 - (w.length + 1) = 4 - w.length from by omega]
      exact Nat.le_refl _
    have e : wt w = 16 * 16 ^ (4 - w.length) := by
      unfold wt
      rw [show 5 - w.length = (4 - w.length) + 1 from by omega, Nat.pow_succ, Nat.mul_comm]
    have hq : (extL some w).length * 16 ^ (4 - w.length) ≤ 15 * 16 ^ (4 - w.length) := Nat.mul_le_mul_right _ hlen
    have hpos : 0 < 16 ^ (4 - w.length) := Nat.pow_pos (by omega)
    omega
  · have : extL some w = [] := by
      cases e : extL some w with
      | nil => rfl
      | cons v V =>
        have hv : v ∈ extL some w := by rw [e]; exact List.mem_cons_self
        obtain ⟨hw, hle⟩ := extL_way hm W h2 h3 v hv
        have := hw.len ok
        omega
    rw [this]
    exact wt_pos w
end Kz

set_option Elab.async false
set_option linter.all false
set_option maxRecDepth 100000
set_option maxHeartbeats 4000000
set_option autoImplicit false
/-! The law's rings. -/
namespace Kz
open PySem PySem.Spec PyProof.Rows L2
theorem len_subG {α : Type} [DecidableEq α] : ∀ {l m : List α}, l.Nodup → (∀ x ∈ l, x ∈ m) → l.length ≤ m.length
  | [], m, _, _ => Nat.zero_le _
  | x :: l, m, h, s => by
    rw [List.nodup_cons] at h
    have hx := s x List.mem_cons_self
    have : l.length ≤ (m.erase x).length := len_subG h.2 fun y hy => (List.mem_erase_of_ne (fun e => h.1 (by rw [← e]; exact hy))).mpr (s y (List.mem_cons_of_mem _ hy))
    rw [List.length_erase_of_mem hx] at this
    have hp : 0 < m.length := List.length_pos_of_mem hx
    rw [List.length_cons]
    omega
theorem quad_inj {x y : Lk} (h : quad x = quad y) : x = y := by
  cases x; cases y
  unfold quad at h
  injection h with h1 h
  injection h with h2 h
  injection h with h3 h
  injection h with h4 h
  simp_all
theorem quads_of {ls : List Lk} : ∀ {mss : List (List Int)}, (∀ m ∈ mss, m ∈ ls.map quad) → ∃ ss : List Lk, mss = ss.map quad
  | [], _ => ⟨[], rfl⟩
  | m :: mss, h => by
    obtain ⟨l, _, rfl⟩ := List.mem_map.mp (h m List.mem_cons_self)
    obtain ⟨ss, rfl⟩ := quads_of (mss := mss) fun x hx => h x (List.mem_cons_of_mem _ hx)
    exact ⟨l :: ss, rfl⟩
theorem at_head {w : List Lk} (h : w ≠ []) : ∃ l, atI (w.map lkD) 0 = some (lkD l) ∧ l.a = headA w := by
  cases w with
  | nil => exact (h rfl).elim
  | cons x w => exact ⟨x, atI_nat (by decide) rfl, rfl⟩
theorem at_last {w : List Lk} (h : w ≠ []) : ∃ l, atI (w.map lkD) (-1) = some (lkD l) ∧ l.b = endO w := by
  obtain ⟨v, l, rfl⟩ := snoc_of h
  exact ⟨l, by rw [List.map_append]; exact atI_last _ _, by rw [endO_snoc]⟩
theorem drop_at {α : Type} {xs : List α} {i : Nat} {x : α} (h : xs[i]? = some x) : xs.drop i = x :: xs.drop (i + 1) := by
  obtain ⟨lt, e⟩ := List.getElem?_eq_some_iff.mp h
  rw [List.drop_eq_getElem_cons lt, e]
section
variable {P : Program} {w : World} {K : PySem.W.Frag} {mg : Str → Option Value} {base : Heap} {B : RB}
def F_law_n_rings : ZF := fun ds wd Q => ∃ (ls : List Lk) (n : Nat), ds = [linksD ls] ∧ n ≤ 5 ∧ ls.length ≤ 15 ∧ (∀ l ∈ ls, inN n l) ∧ ∀ rs : List (List Lk), (∀ r, r ∈ rs ↔ Ring ls r) → rs.length ≤ 983040 → Q (.own (.lst (rs.map ringD))) wd
theorem len_law_n_rings : ∀ ds wd Q, F_law_n_rings ds wd Q → ds.length = 1 := fun ds wd Q ⟨a, _, e, _⟩ => by rw [e]; rfl
theorem sc_law_n_rings : FnScope ["_law_links", "_law_some", "_law_found", "_law_ways", "_law_link", "_law_later", "_law_way", "_law_first", "_law_last"] ["_law_links"] (defScope Kp.s_law_n_rings) := ⟨rfl, rfl, rfl, by decide +kernel, rfl, by decide +kernel, by decide +kernel⟩
theorem ok_law_n_rings (T : Top K mg B) (hK : B.K = K) (A : AllDefs K mg) : ZDef P w K mg base B "_law_n_rings" 1 F_law_n_rings := by
  subst hK
  obtain ⟨f, fd, FD, hm⟩ := A 43 Kp.d_law_n_rings rfl rfl
  have sc := sc_law_n_rings
  refine zdef (k := 0) FD hm sc (fun _ _ _ _ _ _ us hl => match us, hl with | [_], _ => rfl) len_law_n_rings fun cdv A0 outer s H E hr => ⟨_, (zs_cons (zs_set (i := 1) (z_M (z_E (z_sortedSetOf (zv 0) T.sorted (by decide +kernel) T.set (by decide +kernel) hr.units))) sc.nd) (zs_cons (zs_par (i := 2) (j := 3) (z_lst za_nil) (z_comp (own := [("_law_link", 4)]) (zi_seq (zv 1)) (blkOk_by (by rfl)) (fun _ _ _ _ _ => (zg_name 4 sc.nd)) (fun _ _ _ _ _ => zts_nil) (fun _ _ _ _ _ => (z_E (z_lst (za_cons (zv 4) za_nil)))) sc.nd) sc.nd) (zs_cons (zs_while (z_neNil 3 hr.units) (zs_cons (zs_set (i := 5) (z_lst za_nil) sc.nd) (zs_cons (zs_for (zi_seq (zv 3)) (zg_name 6 sc.nd) (zs_cons (zs_asg (z_tup (za_cons (z_ix (z_ix (zv 6) zint) zint) (za_cons (z_ix (z_ix (zv 6) (z_neg zint)) zint) za_nil))) (zg_tup (n := 2) (zg_cons (zg_name 7 sc.nd) (zg_cons (zg_name 8 sc.nd) zg_nil)))) (zs_one (zs_if (z_cmpT op_eq l_eq (zv 7) (zv 8) (nomark _)) (zs_one (zs_expr (z_app 2 (zv 6)))) (zs_one (zs_if (PW.pt (z_and (z_cmpT op_gt l_B0 (zv 8) (zv 7) (nomark _)) (z_and1 (z_notIn (zv 8) (z_E (z_comp (own := [("_law_link", 4)]) (zi_seq (zv 6)) (blkOk_by (by rfl)) (fun _ _ _ _ _ => (zg_name 4 sc.nd)) (fun _ _ _ _ _ => zts_nil) (fun _ _ _ _ _ => (z_ix (zv 4) zint)) sc.nd)))))) (zs_one (zs_expr (z_ext 5 (z_E (z_comp (own := [("_law_link", 4)]) (zi_seq (zv 1)) (blkOk_by (by rfl)) (fun _ _ _ _ _ => (zg_name 4 sc.nd)) (fun _ _ _ _ _ => (zts_one (z_cmpT op_eq l_eq (z_ix (zv 4) zint) (zv 8) (nomark _)))) (fun _ _ _ _ _ => (z_E (z_cat (zv 6) (z_E (z_lst (za_cons (zv 4) za_nil)))))) sc.nd))))) zs_nil)))))) (zs_one (zs_set (i := 3) (z_M (zv 5)) sc.nd))))) (zs_one (zs_retO 2))))), fun ds wd Q h => ?_⟩
  obtain ⟨ls, n, rfl, hn, hl, ok, q⟩ := h
  refine ⟨ls.map quad, by rw [List.map_map]; rfl, fun ns hns => ?_, by rw [List.length_map]; omega, fun mss hm nd hlt => ?_⟩
  · obtain ⟨l, _, rfl⟩ := List.mem_map.mp hns
    rfl
  obtain ⟨ss, rfl⟩ := quads_of (ls := ls) (mss := mss) fun m hmm => (hm m).mp hmm
  have hs1 : ∀ l, l ∈ ss ↔ l ∈ ls := fun l => by
    have := hm (quad l)
    constructor
    · intro h
      obtain ⟨x, hx, e⟩ := List.mem_map.mp (this.mp (List.mem_map_of_mem h))
      rw [← quad_inj e]; exact hx
    · intro h
      obtain ⟨x, hx, e⟩ := List.mem_map.mp (this.mpr (List.mem_map_of_mem h))
      rw [← quad_inj e]; exact hx
  have hsl : ss.length ≤ 15 := by
    have := len_subG nd fun x hx => (hm x).mp hx
    rw [List.length_map, List.length_map] at this
    omega
  have es : (ss.map quad).map tupI = ss.map lkD := by rw [List.map_map]; rfl
  rw [es]
  clear es hm nd hlt
  refine ⟨Nat.zero_le _, ?_⟩
  refine fun hl1 => ⟨hl1, rfl, fun i acc w' => acc = (ss.take i).map (fun l => ringD [l]) ∧ wd = w', ⟨rfl, rfl⟩, fun i d acc w' hd ⟨ha, hw⟩ => ?_, fun acc w' ⟨ha, hw⟩ => ?_⟩
  · obtain ⟨l, hx, rfl⟩ := gmap hd
    exact ⟨rfl, rfl, Nat.le_trans (by decide : 1 ≤ 2) size2, rfl, by rw [ha]; exact tkm (f := fun l => ringD [l]) hx, hw⟩
  rw [List.length_map, List.take_length] at ha
  subst ha hw
  have e0 : ss.map (fun l => ringD [l]) = (ss.map fun l => [l]).map ringD := by rw [List.map_map]; rfl
  rw [e0]
  refine ⟨fun z => ∃ F W x3 x5 x6 x7 x8, z = ⟨[some (.dat (linksD ls)), some (.dat (.lst (ss.map lkD))), some (.own (.lst (F.map ringD))), some x3, none, x5, x6, x7, x8], wd⟩ ∧ (x3 = .own (.lst (W.map ringD)) ∨ x3 = .dat (.lst (W.map ringD))) ∧ LInv ls F W ∧ F.length + Phi W ≤ 983040,
    fun z => match look z.e 3 with | some (.own (.lst ds)) => PhiD ds | some (.dat (.lst ds)) => PhiD ds | _ => 0, ⟨[], _, _, _, _, _, _, rfl, .inl rfl, LInv.start hs1, ?_⟩, fun z ⟨F, W, x3, x5, x6, x7, x8, hz, h3, L, hc⟩ => ?_⟩
  · have hp := Phi_le (c := 65536) (W := ss.map fun l => [l]) fun w hw => by
      obtain ⟨l, _, rfl⟩ := List.mem_map.mp hw
      show 16 ^ 4 ≤ 65536
      decide
    rw [List.length_map] at hp
    show 0 + _ ≤ _
    omega
  subst hz
  rcases h3 with rfl | rfl
  all_goals
    refine ⟨okQ_rings W, ?_⟩
    refine ite2 (fun c => ?_) fun c => ?_
    · have hW : W ≠ [] := fun e => by subst e; exact absurd (show false = true from c) (by decide)
      have hPW : Phi W ≤ 983040 := by omega
      refine ⟨Nat.zero_le _, fun hl2 => ⟨fun i z => ∃ F' V x6 x7 x8, z = ⟨[some (.dat (linksD ls)), some (.dat (.lst (ss.map lkD))), some (.own (.lst (F'.map ringD))), some (.dat (.lst (W.map ringD))), none, some (.own (.lst (V.map ringD))), x6, x7, x8], wd⟩ ∧ LInv ls F' (W.drop i ++ V) ∧ F'.length + Phi (W.drop i) + Phi V ≤ 983040 ∧ Phi (W.drop i) + Phi V + min i 1 ≤ Phi W,
        ⟨F, [], _, _, _, rfl, by rw [List.drop_zero, List.append_nil]; exact L, hc, Nat.le_refl _⟩, fun i d z hd ⟨F', V, x6, x7, x8, hz, L2, hc2, hmu⟩ => ?_, fun z ⟨F', V, x6, x7, x8, hz, L2, hc2, hmu⟩ => ?_⟩⟩
      · subst hz
        obtain ⟨w, hw, rfl⟩ := gmap hd
        have hdr := drop_at hw
        rw [hdr] at L2 hc2 hmu
        have ow := L2.ok w (by simp)
        obtain ⟨l0, h0, e0⟩ := at_head ow.ne
        obtain ⟨l1, h1, e1⟩ := at_last ow.ne
        have hP : Phi (w :: W.drop (i + 1)) = wt w + Phi (W.drop (i + 1)) := rfl
        have hwp := wt_pos w
        have wl := ow.len ok
        refine ⟨lkD l0, h0, .int l0.a, rfl, lkD l1, h1, .int l1.b, rfl, size2, ?_⟩
        rw [hP] at hc2 hmu
        refine ⟨rfl, rfl, ?_⟩
        refine ite2 (fun c2 => ?_) fun c2 => ?_
        · have e : endO w = headA w := by
            have c2 : (false != (l0.a == l1.b)) = true := c2
            have c2 : l0.a = l1.b := by simpa using c2
            omega
          refine ⟨by rw [List.length_map, sizeLine_eq]; omega, F' ++ [w], V, _, _, _, by rw [List.map_append]; rfl, L2.found e, ?_, ?_⟩
          · rw [List.length_append, List.length_singleton]; omega
          · omega
        · have e : endO w ≠ headA w := by
            have c2 : ¬ (false != (l0.a == l1.b)) = true := c2
            have c2 : l0.a ≠ l1.b := by simpa using c2
            omega
          refine ite2 (fun c3 => ?_) fun c3 => ?_
          · have g : headA w < endO w := by
              have c3 : decide (l0.a < l1.b) = true := c3
              have c3 := of_decide_eq_true c3
              omega
            refine fun hl3 => ⟨hl3, rfl, fun j acc w' => acc = (w.take j).map (fun l => D.int l.a) ∧ wd = w', ⟨rfl, rfl⟩, fun j d acc w' hd ⟨ha, hw⟩ => ?_, fun acc w' ⟨ha, hw⟩ => ?_⟩
            · obtain ⟨x, hx, rfl⟩ := gmap hd
              exact ⟨rfl, rfl, _, rfl, rfl, by rw [ha]; exact tkm hx, hw⟩
            rw [List.length_map, List.take_length] at ha
            subst ha hw
            refine ⟨hs w, by unfold hs; rw [List.map_map]; rfl, ?_⟩
            refine ite2 (fun c4 => ?_) fun c4 => ?_
            · have ni : endO w ∉ hs w := by
                have c4 : (true != (hs w).contains l1.b) = true := c4
                rw [bnt] at c4
                rw [e1] at c4
                simpa using c4
              refine fun hl4 => ⟨hl4, rfl, fun j acc w' => acc = ((ss.take j).filter (goL w)).map (fun l => ringD (w ++ [l])) ∧ wd = w', ⟨rfl, rfl⟩, fun j d acc w' hd ⟨ha, hw⟩ => ?_, fun acc w' ⟨ha, hw⟩ => ?_⟩
              · obtain ⟨x, hx, rfl⟩ := gmap hd
                refine ⟨rfl, .int x.a, rfl, rfl, ite2 (fun c5 => ?_) fun c5 => ?_⟩
                · have y : goL w x = true := by
                    have c5 : (false != (x.a == l1.b)) = true := c5
                    have c5 : x.a = l1.b := by simpa using c5
                    exact decide_eq_true (by omega)
                  refine ⟨Nat.le_trans (by decide : 1 ≤ 2) size2, by rw [List.length_map, sizeLine_eq]; show w.length + 1 ≤ _; omega, rfl, ?_, hw⟩
                  rw [ha, ← tkf_yes (f := fun l => ringD (w ++ [l])) hx y]
                  have eW : ringD (w ++ [x]) = D.lst (w.map lkD ++ [lkD x]) := by unfold ringD; rw [List.map_append]; rfl
                  rw [eW]
                  rfl
                · have y : goL w x = false := by
                    have c5 : ¬ (false != (x.a == l1.b)) = true := c5
                    have c5 : x.a ≠ l1.b := by simpa using c5
                    exact decide_eq_false (by omega)
                  exact ⟨by rw [ha]; exact tkf_no hx y, hw⟩
              rw [List.length_map, List.take_length] at ha
              subst ha hw
              have eE : (ss.filter (goL w)).map (fun l => ringD (w ++ [l])) = (extL ss w).map ringD := by unfold extL; rw [List.map_map]; rfl
              have hphi := extL_phi hs1 ow g ni ok hn hsl
              have hpv := Phi_len V
              have hpe := Phi_len (extL ss w)
              refine ⟨?_, F', V ++ extL ss w, some (.dat (ringD w)), some (.dat (.int l0.a)), some (.dat (.int l1.b)), ?_, L2.more hs1 g ni, ?_, ?_⟩
              · rw [eE, List.length_map, List.length_map, sizeLine_eq]; omega
              · rw [eE, ← List.map_append]; rfl
              · rw [Phi_app]; omega
              · rw [Phi_app]; omega
            · have ni : ¬ (headA w < endO w ∧ endO w ∉ hs w) := fun h => by
                have c4 : ¬ (true != (hs w).contains l1.b) = true := c4
                rw [bnt] at c4
                rw [e1] at c4
                exact h.2 (by simpa using c4)
              exact ⟨F', V, _, _, _, rfl, L2.drop e ni, by omega, by omega⟩
          · have ni : ¬ (headA w < endO w ∧ endO w ∉ hs w) := fun h => by
              have c3 : ¬ decide (l0.a < l1.b) = true := c3
              have c3 : ¬ l0.a < l1.b := by simpa using c3
              omega
            exact ⟨F', V, _, _, _, rfl, L2.drop e ni, by omega, by omega⟩
      · subst hz
        rw [List.length_map, List.drop_length] at L2 hc2 hmu
        have hWl : 0 < W.length := List.length_pos_iff.mpr hW
        have e0 : Phi [] = 0 := rfl
        refine ⟨⟨F', V, _, _, _, _, _, rfl, .inr rfl, L2, by omega⟩, ?_⟩
        show PhiD (V.map ringD) < PhiD (W.map ringD)
        rw [PhiD_eq, PhiD_eq]; omega
    · have hW : W = [] := by
        cases W with
        | nil => rfl
        | cons w W => exact (c rfl).elim
      subst hW
      refine q F (fun r => ⟨L.rings r, fun hr => ?_⟩) (by omega)
      rcases L.all r hr with h | ⟨p, hp, _⟩
      · exact h
      · exact absurd hp (by simp)
end
end Kz

set_option Elab.async false
set_option linter.all false
set_option maxRecDepth 100000
set_option maxHeartbeats 4000000
set_option autoImplicit false
/-! The law's lows. -/
namespace Kz
open PySem PySem.Spec PyProof.Rows L2
def selfR (e : Int) : List Lk := [⟨e, e, 1, 0⟩]
def seenL (ls : List Lk) (rs : List (List Lk)) (e : Int) (r : List Lk) : Prop := (r ∈ rs ∧ LeadS ls e r) ∨ r = selfR e
theorem rep_one {α : Type} {a : α} : ∀ n : Nat, (List.replicate n [a]).flatten = List.replicate n a
  | 0 => rfl
  | n + 1 => by rw [List.replicate_succ, List.flatten_cons, rep_one n]; rfl
section
variable {P : Program} {w : World} {K : PySem.W.Frag} {mg : Str → Option Value} {base : Heap} {B : RB}
def F_law_n_lows : ZF := fun ds wd Q => ∃ (n : Nat) (ls : List Lk), ds = [.int n, linksD ls] ∧ NetOk n ls ∧ ∀ fs : List (Int × Int), LowsOf n ls fs → Q (.own (.lst (fs.map frD))) wd
theorem len_law_n_lows : ∀ ds wd Q, F_law_n_lows ds wd Q → ds.length = 2 := fun ds wd Q ⟨a, _, e, _⟩ => by rw [e]; rfl
theorem sc_law_n_lows : FnScope ["_law_many", "_law_links", "_law_found", "_law_ring", "_law_event", "_law_link"] ["_law_many", "_law_links"] (defScope Kp.s_law_n_lows) := ⟨rfl, rfl, rfl, by decide +kernel, rfl, by decide +kernel, by decide +kernel⟩
theorem ok_law_n_lows (T : Top K mg B) (hK : B.K = K) (A : AllDefs K mg) (G_law_n_rings : ZDef P w K mg base B "_law_n_rings" 1 F_law_n_rings) (G_law_n_sums : ZDef P w K mg base B "_law_n_sums" 1 F_law_n_sums) (G_law_n_led : ZDef P w K mg base B "_law_n_led" 1 F_law_n_led) (G_law_is_less : ZDef P w K mg base B "_law_is_less" 1 F_law_is_less) (G_law_n_asks : ZDef P w K mg base B "_law_n_asks" 2 F_law_n_asks) : ZDef P w K mg base B "_law_n_lows" 3 F_law_n_lows := by
  subst hK
  obtain ⟨f, fd, FD, hm⟩ := A 49 Kp.d_law_n_lows rfl rfl
  have sc := sc_law_n_lows
  refine zdef (k := 2) FD hm sc (fun _ _ _ _ _ _ us hl => match us, hl with | [_, _], _ => rfl) len_law_n_lows fun cdv A0 outer s H E hr => ⟨_, (zs_cons (zs_set (i := 2) (z_rep (z_E (z_lst (za_cons (z_tup (za_cons zint (za_cons zint za_nil))) za_nil))) (zv 0)) sc.nd) (zs_cons (zs_for (zi_seq (z_E (z_call G_law_n_rings (hr.mono (by decide)) (by rfl) (za_cons (zv 1) za_nil)))) (zg_name 3 sc.nd) (zs_one (zs_if (z_cmpT op_gt l_B0 (z_ix (z_E (z_call G_law_n_sums (hr.mono (by decide)) (by rfl) (za_cons (zv 3) za_nil))) zint) zint (nomark _)) (zs_one (zs_for (zi_seq (z_E (z_call G_law_n_led (hr.mono (by decide)) (by rfl) (za_cons (zv 1) (za_cons (z_E (z_comp (own := [("_law_link", 5)]) (zi_seq (zv 3)) (blkOk_by (by rfl)) (fun _ _ _ _ _ => (zg_name 5 sc.nd)) (fun _ _ _ _ _ => zts_nil) (fun _ _ _ _ _ => (z_ix (zv 5) zint)) sc.nd)) za_nil))))) (zg_name 4 sc.nd) (zs_one (zs_put 2 (zv 4) (z_if (z_val (z_E (z_call G_law_is_less (hr.mono (by decide)) (by rfl) (za_cons (z_ixN 2 (zv 4)) (za_cons (z_E (z_call G_law_n_asks (hr.mono (by decide)) (by rfl) (za_cons (zv 3) za_nil))) za_nil))))) (z_E (z_call G_law_n_asks (hr.mono (by decide)) (by rfl) (za_cons (zv 3) za_nil))) (z_ixN 2 (zv 4))))))) zs_nil))) (zs_one (zs_retO 2)))), fun ds wd Q h => ?_⟩
  obtain ⟨n, ls, rfl, N, q⟩ := h
  have n5 := N.n5
  refine ⟨size2, by show 1 ≤ sizeLine; exact Nat.le_trans (by decide : 1 ≤ 2) size2, ⟨by omega, by omega, by rw [sizeLine_eq]; show 1 * (n : Int).toNat ≤ _; omega⟩, ?_⟩
  rw [Int.toNat_natCast, rep_one]
  refine ⟨ls, n, rfl, N.n5, N.l15, N.inn, fun rs hrs hrl => ?_⟩
  refine fun hl1 => ⟨fun i z => ∃ (fs : List (List Lk)) (x3 x4 : Option SV), z = ⟨[some (.dat (.int n)), some (.dat (linksD ls)), some (.own (.lst (fs.map fun r => frD (asks r)))), x3, x4, none], wd⟩ ∧ fs.length = n ∧ ∀ (e : Nat) r, fs[e]? = some r → BstP (seenL ls (rs.take i) e) (some r),
    ⟨(List.range n).map fun e => selfR (e : Nat), none, none, ?_, by simp, fun e r ho => ?_⟩, fun i d z hd ⟨fs, x3, x4, hz, hfl, hb⟩ => ?_, fun z ⟨fs, x3, x4, hz, hfl, hb⟩ => ?_⟩
  · have e1 : ((List.range n).map fun e : Nat => selfR (e : Int)).map (fun r => frD (asks r)) = List.replicate n (D.tup [.int 0, .int 1]) := by
      rw [List.map_map, List.eq_replicate_iff]
      refine ⟨by simp, fun b hb => ?_⟩
      obtain ⟨e, _, rfl⟩ := List.mem_map.mp hb
      show frD (asks (selfR e)) = _
      have : asks (selfR e) = (0, 1) := by
        unfold asks
        have h1 : tikS (selfR e) = 0 := rfl
        have h2 : tokS (selfR e) = 1 := rfl
        rw [h1, h2]; rfl
      rw [this]; rfl
    rw [e1]; rfl
  · have e1 : r = selfR (e : Int) := by
      rw [List.getElem?_map] at ho
      cases hr : (List.range n)[e]? with
      | none => rw [hr] at ho; cases ho
      | some u =>
        rw [hr] at ho
        obtain ⟨lt, hu⟩ := List.getElem?_eq_some_iff.mp hr
        rw [List.getElem_range] at hu
        cases ho
        rw [hu]
    subst e1
    refine ⟨.inr rfl, fun x hx => ?_⟩
    rcases hx with ⟨h, _⟩ | rfl
    · simp at h
    · unfold below; rw [decide_eq_false_iff_not]; omega
  · subst hz
    obtain ⟨r, hr, rfl⟩ := gmap hd
    have ring : Ring ls r := (hrs r).mp (List.mem_of_getElem? hr)
    have tb := N.tok ring
    have tk := N.tik ring
    refine ⟨r, rfl, .int (tokS r), rfl, ite2 (fun c => ?_) fun c => ?_⟩
    · have hp : 0 < tokS r := by simpa using c
      refine fun hl2 => ⟨hl2, rfl, fun j acc w' => acc = (r.take j).map (fun l => D.int l.a) ∧ wd = w', ⟨rfl, rfl⟩, fun j d acc w' hd ⟨ha, hw⟩ => ?_, fun acc w' ⟨ha, hw⟩ => ?_⟩
      · obtain ⟨x, hx, rfl⟩ := gmap hd
        exact ⟨rfl, rfl, _, rfl, rfl, by rw [ha]; exact tkm hx, hw⟩
      rw [List.length_map, List.take_length] at ha
      subst ha hw
      obtain ⟨f0, W, hE⟩ := ring
      have ring : Ring ls r := ⟨f0, W, hE⟩
      have wl := W.len N.inn
      refine ⟨ls, hs r, by unfold hs; rw [List.map_map]; rfl, W.nd, by unfold hs; rw [List.length_map]; omega, by have := N.l15; omega, fun ks knd hks => ?_⟩
      have reach : ∀ e ∈ ks, 0 ≤ e ∧ e < n := fun e he => by
        have : ∀ x, Reach ls (hs r) x → 0 ≤ x ∧ x < n := fun x hx => by
          cases hx with
          | base h =>
            obtain ⟨l, hl, rfl⟩ := List.mem_map.mp h
            have := N.inn l (W.sub l hl)
            exact ⟨this.1, this.2.1⟩
          | step h hl => have := N.inn _ hl; exact ⟨this.2.2.1, this.2.2.2⟩
        exact this e ((hks e).mp he)
      refine fun hl5 => ⟨fun j z => ∃ (fs : List (List Lk)) (x3 : Option SV), z = ⟨[some (.dat (.int n)), some (.dat (linksD ls)), some (.own (.lst (fs.map fun r => frD (asks r)))), some (.dat (ringD r)), x3, none], wd⟩ ∧ fs.length = n ∧ ∀ (e : Nat) o, fs[e]? = some o → BstP (seenL ls (if (e : Int) ∈ ks.take j then rs.take (i + 1) else rs.take i) e) (some o),
        ⟨fs, _, rfl, hfl, fun e o ho => by rw [if_neg (by simp)]; exact hb e o ho⟩, fun j d z hd ⟨fs, x3, hz, hfl, hb⟩ => ?_, fun z ⟨fs, x3, hz, hfl, hb⟩ => ?_⟩
      · subst hz
        obtain ⟨k, hk, rfl⟩ := gmap hd
        obtain ⟨k0, k1⟩ := reach k (List.mem_of_getElem? hk)
        have hlt : k.toNat < fs.length := by omega
        obtain ⟨p, ho⟩ : ∃ o, fs[k.toNat]? = some o := ⟨fs[k.toNat], List.getElem?_eq_getElem hlt⟩
        have kn : k ∉ ks.take j := by
          have : (ks.take (j + 1)).Nodup := (List.take_sublist _ _).nodup knd
          rw [tk1 hk, List.nodup_append] at this
          exact fun hm => this.2.2 k hm k (by simp) rfl
        have ek : ((k.toNat : Nat) : Int) = k := by omega
        have bo := hb _ _ ho
        rw [ek, if_neg kn] at bo
        have hat : atI (fs.map fun r => frD (asks r)) k = some (frD (asks p)) := atI_nat k0 (by rw [List.getElem?_map, ho]; rfl)
        have lead : LeadS ls k r := ⟨ring, hp, (hks k).mp (List.mem_of_getElem? hk)⟩
        have more : ∀ x, seenL ls (rs.take (i + 1)) k x ↔ seenL ls (rs.take i) k x ∨ x = r := fun x => by
          unfold seenL
          rw [tk1 hr, List.mem_append, List.mem_singleton]
          constructor
          · rintro (⟨h | h, h2⟩ | h)
            · exact .inl (.inl ⟨h, h2⟩)
            · exact .inr h
            · exact .inl (.inr h)
          · rintro ((⟨h, h2⟩ | h) | h)
            · exact .inl ⟨.inl h, h2⟩
            · exact .inr h
            · exact .inl ⟨.inr h, by rw [h]; exact lead⟩
        have upd : ∀ o', BstP (seenL ls (rs.take (i + 1)) k) (some o') → ∀ (e : Nat) u, (fs.set k.toNat o')[e]? = some u → BstP (seenL ls (if (e : Int) ∈ ks.take (j + 1) then rs.take (i + 1) else rs.take i) e) (some u) := fun o' b e u hu => by
          by_cases q : k.toNat = e
          · subst q
            rw [List.getElem?_set_self hlt] at hu
            cases hu
            rw [ek, if_pos (by rw [tk1 hk]; simp)]
            exact b
          · rw [List.getElem?_set_ne q] at hu
            have b := hb e u hu
            have : ((e : Int) ∈ ks.take (j + 1)) ↔ (e : Int) ∈ ks.take j := by
              rw [tk1 hk, List.mem_append, List.mem_singleton]
              constructor
              · rintro (h | h)
                · exact h
                · omega
              · exact .inl
            simp only [this]
            exact b
        have setmap : ∀ o', (fs.map fun r => frD (asks r)).set k.toNat (frD (asks o')) = (fs.set k.toNat o').map fun r => frD (asks r) := fun o' => (List.map_set ..).symm
        have hm : ixN (fs.map fun r => frD (asks r)).length k = some k.toNat := ixN_nat k0 (by rw [List.length_map]; omega)
        have pl : LeadS ls k p := bo.1.elim (fun h => h.2) fun h => by rw [h]; exact self_lead (N.self k k0 k1)
        have ap := N.asks pl.1 (Int.ne_of_gt pl.2.1)
        have ar := N.asks ring (Int.ne_of_gt hp)
        have tp := N.tok pl.1
        refine ⟨frD (asks p), hat, r, rfl, by omega, by omega, fun _ => ?_, fun z => absurd z (Int.ne_of_gt hp)⟩
        refine ⟨_, _, _, _, rfl, isF_frD _, isF_frD _, ⟨by have := ap.1; show -(2 ^ 64) < (asks p).2; omega, by show (asks p).2 < 2 ^ 64; omega⟩, ⟨by have := ar.1; show -(2 ^ 64) < (asks r).2; omega, by show (asks r).2 < 2 ^ 64; omega⟩, ?_⟩
        refine ite2 (fun c3 => ?_) fun c3 => ?_
        · refine ⟨r, rfl, by omega, by omega, fun _ => ⟨_, hm, fs.set k.toNat r, some (.dat (.int k)), ?_, by rw [List.length_set]; exact hfl, upd _ (bo.up more (fun x hx => ?_) c3)⟩, fun z => absurd z (Int.ne_of_gt hp)⟩
          · rw [← setmap]; rfl
          · rcases hx with hx | hx
            · exact asks_pos (Int.ne_of_gt hx.2.2.1)
            · rw [hx]; exact asks_pos (Int.ne_of_gt (self_lead (N.self k k0 k1)).2.1)
        · refine ⟨frD (asks p), hat, _, hm, fs.set k.toNat p, some (.dat (.int k)), ?_, by rw [List.length_set]; exact hfl, upd p (bo.stay more (Bool.eq_false_iff.mpr c3))⟩
          rw [← setmap]; rfl
      · subst hz
        refine ⟨fs, _, _, rfl, hfl, fun e o ho => ?_⟩
        have b := hb e o ho
        rw [List.length_map, List.take_length] at b
        by_cases m : (e : Int) ∈ ks
        · rw [if_pos m] at b; exact b
        · rw [if_neg m] at b
          refine b.keep fun x => ?_
          unfold seenL
          rw [tk1 hr, List.mem_append, List.mem_singleton]
          constructor
          · rintro (⟨h, h2⟩ | h)
            · exact .inl ⟨.inl h, h2⟩
            · exact .inr h
          · rintro (⟨h | h, h2⟩ | h)
            · exact .inl ⟨h, h2⟩
            · rw [h] at h2; exact (m ((hks e).mpr h2.2.2)).elim
            · exact .inr h
    · refine ⟨fs, _, _, rfl, hfl, fun e o ho => (hb e o ho).keep fun x => ?_⟩
      unfold seenL
      rw [tk1 hr, List.mem_append, List.mem_singleton]
      constructor
      · rintro (⟨h, h2⟩ | h)
        · exact .inl ⟨.inl h, h2⟩
        · exact .inr h
      · rintro (⟨h | h, h2⟩ | h)
        · exact .inl ⟨h, h2⟩
        · rw [h] at h2; exact (c (by simpa using h2.2.1)).elim
        · exact .inr h
  · subst hz
    have := q (fs.map asks) ⟨by rw [List.length_map]; exact hfl, fun e f hf => ?_⟩
    · rw [List.map_map] at this; exact this
    · obtain ⟨r, hr, rfl⟩ := gmap hf
      have b := hb e r hr
      rw [List.length_map, List.take_length] at b
      have lt : e < n := by rw [← hfl]; exact (List.getElem?_eq_some_iff.mp hr).1
      have sl := self_lead (N.self e (by omega) (by omega))
      refine ⟨r, b.keep fun x => ⟨fun h => h.elim (fun h => h.2) fun h => by rw [h]; exact sl, fun h => .inl ⟨(hrs x).mpr h.1, h⟩⟩, rfl⟩
end
end Kz

set_option Elab.async false
set_option linter.all false
set_option maxRecDepth 100000
set_option maxHeartbeats 4000000
set_option autoImplicit false
/-! What rings let; fractions by the law. -/
namespace Kz
open PySem PySem.Spec PyProof.Rows L2
section
variable {P : Program} {w : World} {K : PySem.W.Frag} {mg : Str → Option Value} {base : Heap} {B : RB}
def F_law_is_let : ZF := fun ds wd Q => ∃ (n : Nat) (ls : List Lk) (fs : List (Int × Int)), ds = [.int n, linksD ls, .lst (fs.map frD)] ∧ NetOk n ls ∧ LowsOf n ls fs ∧ (Clash ls → Q (.dat (.bl false)) wd) ∧ (¬ Clash ls → Q (.dat (.bl true)) wd)
theorem len_law_is_let : ∀ ds wd Q, F_law_is_let ds wd Q → ds.length = 3 := fun ds wd Q ⟨a, _, _, e, _⟩ => by rw [e]; rfl
theorem sc_law_is_let : FnScope ["_law_many", "_law_links", "_law_lows", "_law_ring", "_law_ticks", "_law_tokens"] ["_law_many", "_law_links", "_law_lows"] (defScope Kp.s_law_is_let) := ⟨rfl, rfl, rfl, by decide +kernel, rfl, by decide +kernel, by decide +kernel⟩
theorem ok_law_is_let (T : Top K mg B) (hK : B.K = K) (A : AllDefs K mg) (G_law_n_rings : ZDef P w K mg base B "_law_n_rings" 1 F_law_n_rings) (G_law_n_sums : ZDef P w K mg base B "_law_n_sums" 1 F_law_n_sums) (G_law_is_less : ZDef P w K mg base B "_law_is_less" 1 F_law_is_less) (G_law_n_asks : ZDef P w K mg base B "_law_n_asks" 2 F_law_n_asks) : ZDef P w K mg base B "_law_is_let" 3 F_law_is_let := by
  subst hK
  obtain ⟨f, fd, FD, hm⟩ := A 54 Kp.d_law_is_let rfl rfl
  have sc := sc_law_is_let
  refine zdef (k := 2) FD hm sc (fun _ _ _ _ _ _ us hl => match us, hl with | [_, _, _], _ => rfl) len_law_is_let fun cdv A0 outer s H E hr => ⟨_, (zs_cons (zs_for (zi_seq (z_E (z_call G_law_n_rings (hr.mono (by decide)) (by rfl) (za_cons (zv 1) za_nil)))) (zg_name 3 sc.nd) (zs_cons (zs_asg (z_E (z_call G_law_n_sums (hr.mono (by decide)) (by rfl) (za_cons (zv 3) za_nil))) (zg_tup (n := 2) (zg_cons (zg_name 4 sc.nd) (zg_cons (zg_name 5 sc.nd) zg_nil)))) (zs_one (zs_if (PW.pt (z_or (PW.pt (z_and (z_cmpT op_eq l_eq (zv 5) zint (nomark _)) (z_and1 (z_cmpT op_gt l_B0 (zv 4) zint (nomark _))))) (z_or1 (PW.pt (z_and (z_cmpT op_lt l_B0 (zv 5) zint (nomark _)) (z_and1 (z_val (z_E (z_call G_law_is_less (hr.mono (by decide)) (by rfl) (za_cons (z_E (z_call G_law_n_asks (hr.mono (by decide)) (by rfl) (za_cons (zv 3) za_nil))) (za_cons (z_ix (zv 2) (z_ix (z_ix (zv 3) zint) zint)) za_nil))))))))))) (zs_one (zs_ret zbl)) zs_nil)))) (zs_one (zs_ret zbl))), fun ds wd Q h => ?_⟩
  obtain ⟨n, ls, fs, rfl, N, lo, q1, q2⟩ := h
  refine ⟨ls, n, rfl, N.n5, N.l15, N.inn, fun rs hrs hrl => ?_⟩
  refine fun hl1 => ⟨fun i z => ∃ x3 x4 x5, z = ⟨[some (.dat (.int n)), some (.dat (linksD ls)), some (.dat (.lst (fs.map frD))), x3, x4, x5], wd⟩ ∧ ∀ r ∈ rs.take i, ¬ (tokS r = 0 ∧ 0 < tikS r) ∧ ∀ g, fs[(headA r).toNat]? = some g → ¬ (tokS r < 0 ∧ below (asks r) g = true),
    ⟨_, _, _, rfl, fun r h => absurd h (by simp)⟩, fun i d z hd ⟨x3, x4, x5, hz, hno⟩ => ?_, fun z ⟨x3, x4, x5, hz, hno⟩ => ?_⟩
  · subst hz
    obtain ⟨r, hr, rfl⟩ := gmap hd
    have ring : Ring ls r := (hrs r).mp (List.mem_of_getElem? hr)
    have tb := N.tok ring
    have tk := N.tik ring
    obtain ⟨f0, W, hE⟩ := ring
    have ring : Ring ls r := ⟨f0, W, hE⟩
    obtain ⟨l0, h0, e0⟩ := at_head W.ne
    have hin : 0 ≤ l0.a ∧ l0.a < n := by
      obtain ⟨l, s, er, _⟩ := W.head
      subst er
      obtain ⟨a0, a1, _, _⟩ := N.inn l (W.sub l (by simp))
      have : l0.a = l.a := e0
      omega
    have hlt : l0.a.toNat < fs.length := by rw [lo.len]; omega
    obtain ⟨g, hg⟩ : ∃ g, fs[l0.a.toNat]? = some g := ⟨fs[l0.a.toNat], List.getElem?_eq_getElem hlt⟩
    have hat : atI (fs.map frD) l0.a = some (frD g) := atI_nat hin.1 (by rw [List.getElem?_map, hg]; rfl)
    have go : ∀ x4 x5, ¬ (tokS r = 0 ∧ 0 < tikS r) → ¬ (tokS r < 0 ∧ below (asks r) g = true) → ∃ x3' x4' x5', (⟨[some (.dat (.int n)), some (.dat (linksD ls)), some (.dat (.lst (fs.map frD))), some (.dat (ringD r)), x4, x5], wd⟩ : Z) = ⟨[some (.dat (.int n)), some (.dat (linksD ls)), some (.dat (.lst (fs.map frD))), x3', x4', x5'], wd⟩ ∧ ∀ r ∈ rs.take (i + 1), ¬ (tokS r = 0 ∧ 0 < tikS r) ∧ ∀ g, fs[(headA r).toNat]? = some g → ¬ (tokS r < 0 ∧ below (asks r) g = true) := fun x4 x5 k1 k2 => ⟨_, _, _, rfl, fun r' hr' => by
      rw [tk1 hr] at hr'
      rcases List.mem_append.mp hr' with h | h
      · exact hno r' h
      · rw [List.mem_singleton.mp h]
        refine ⟨k1, fun g' hg' => ?_⟩
        rw [← e0, hg] at hg'
        cases hg'
        exact k2⟩
    refine ⟨r, rfl, rfl, rfl, ?_⟩
    have no2 : tokS r < 0 → below (asks r) g = true → Q (.dat (.bl false)) wd := fun h1 h2 => by
      have hg' := hg
      rw [e0] at hg'
      obtain ⟨p, bp, ep⟩ := lo.at_ _ _ hg'
      have eh : ((headA r).toNat : Int) = headA r := by rw [← e0]; omega
      rw [eh] at bp
      exact q1 (.inr ⟨r, p, ring, h1, bp, by rw [← ep]; exact h2⟩)
    refine ite2 (fun c => ?_) fun c => ?_
    · have c : (false != (tokS r == 0)) = true := c
      have c : tokS r = 0 := by simpa using c
      refine ite2 (fun c2 => ?_) fun c2 => ?_
      · have c2 : decide (0 < tikS r) = true := c2
        exact q1 (.inl ⟨r, ring, c, of_decide_eq_true c2⟩)
      · have c2 : ¬ decide (0 < tikS r) = true := c2
        have c2 : ¬ 0 < tikS r := by simpa using c2
        refine ite2 (fun c3 => ?_) fun c3 => ?_
        · have c3 : decide (tokS r < 0) = true := c3
          have c3 := of_decide_eq_true c3
          omega
        · refine ite2 (fun z => absurd (show false = true from z) (by decide)) fun _ => ?_
          exact go _ _ (by omega) (by omega)
    · have c : ¬ (false != (tokS r == 0)) = true := c
      have c : ¬ tokS r = 0 := by simpa using c
      refine ite2 (fun z => absurd (show false = true from z) (by decide)) fun _ => ?_
      refine ite2 (fun c3 => ?_) fun c3 => ?_
      · have c3 : decide (tokS r < 0) = true := c3
        have c3 := of_decide_eq_true c3
        have ar := N.asks ring (by omega)
        obtain ⟨p, bp, ep⟩ := lo.at_ _ _ hg
        have ap := N.asks bp.1.1 (Int.ne_of_gt bp.1.2.1)
        rw [← ep] at ap
        refine ⟨r, rfl, by omega, by omega, fun _ => ?_, fun z => by omega⟩
        refine ⟨lkD l0, h0, .int l0.a, rfl, frD g, hat, ?_⟩
        refine ⟨_, _, _, _, rfl, isF_frD _, isF_frD _, ⟨by have := ar.1; show -(2 ^ 64) < (asks r).2; omega, by show (asks r).2 < 2 ^ 64; omega⟩, ⟨by have := ap.1; show -(2 ^ 64) < g.2; omega, by show g.2 < 2 ^ 64; omega⟩, ?_⟩
        refine ite2 (fun c4 => ?_) fun c4 => ?_
        · exact no2 c3 c4
        · exact go _ _ (by omega) fun h => c4 h.2
      · have c3 : ¬ decide (tokS r < 0) = true := c3
        have c3 : ¬ tokS r < 0 := by simpa using c3
        refine ite2 (fun z => absurd (show false = true from z) (by decide)) fun _ => ?_
        exact go _ _ (by omega) (by omega)
  · subst hz
    rw [List.length_map, List.take_length] at hno
    refine q2 fun c => ?_
    rcases c with ⟨r, ring, h1, h2⟩ | ⟨r, p, ring, h1, h2, h3⟩
    · exact (hno r ((hrs r).mpr ring)).1 ⟨h1, h2⟩
    · obtain ⟨f0, W, hE⟩ := ring
      obtain ⟨l, s, er, _⟩ := W.head
      obtain ⟨a0, a1, _, _⟩ := N.inn l (W.sub l (by rw [er]; simp))
      have eh : headA r = l.a := by rw [er]; rfl
      have hlt : (headA r).toNat < fs.length := by rw [lo.len, eh]; omega
      obtain ⟨p', bp, ep⟩ := lo.at_ _ _ (List.getElem?_eq_getElem hlt)
      rw [show ((headA r).toNat : Int) = headA r from by rw [eh]; omega] at bp
      refine (hno r ((hrs r).mpr ⟨f0, W, hE⟩)).2 _ (List.getElem?_eq_getElem hlt) ⟨h1, ?_⟩
      rw [ep, best_eq bp h2]
      exact h3
/-- one number of what may be a fraction -/
theorem num_read {x : D} {z : Z} {Q : D → Z → Prop} (hl : look z.e 1 = some (.dat x)) (hx : tk x) (q : Q (.bl (isI x)) z) : zAndV (zIsi "int" (zVar 1)) (zNotV (zIsi "bool" (zVar 1))) z Q := by
  simp only [zAndV, zIsi, zNotV, zVar, hl]
  cases x <;> first | exact (hx rfl).elim | skip
  all_goals first | exact ⟨_, _, rfl, rfl, ⟨_, _, rfl, rfl, q⟩⟩ | exact ⟨_, _, rfl, rfl, q⟩
def F_law_is_fraction : ZF := fun ds wd Q => ∃ d, ds = [d] ∧ tks d ∧ Q (.dat (.bl (fracN d).isSome)) wd
theorem len_law_is_fraction : ∀ ds wd Q, F_law_is_fraction ds wd Q → ds.length = 1 := fun ds wd Q ⟨a, e, _⟩ => by rw [e]; rfl
theorem fracN_two {d x y : D} (e : els d = some [x, y]) : (fracN d).isSome = (isI x && isI y && (match x, y with | .int a, .int b => decide (0 ≤ a) && decide (1 ≤ b) | _, _ => false)) := by
  unfold fracN frac
  simp only [e]
  cases x <;> first | rfl | skip
  cases y <;> first | rfl | skip
  rename_i a b
  show (match (if 1 ≤ b then some (a, b) else none) with | some f => if 0 ≤ f.1 then some f else none | none => none).isSome = (decide (0 ≤ a) && decide (1 ≤ b))
  by_cases c : 1 ≤ b <;> by_cases c2 : 0 ≤ a <;> simp [c, c2]
theorem fracN_len {d : D} {xs : List D} (e : els d = some xs) (h : xs.length ≠ 2) : fracN d = none := by
  unfold fracN frac
  simp only [e]
  split
  · rename_i f h2
    split at h2
    · rename_i q; cases q; exact (h rfl).elim
    · cases h2
  · rfl
theorem sc_law_is_fraction : FnScope ["_law_thing", "_law_number"] ["_law_thing"] (defScope Kp.s_law_is_fraction) := ⟨rfl, rfl, rfl, by decide +kernel, rfl, by decide +kernel, by decide +kernel⟩
theorem ok_law_is_fraction (T : Top K mg B) (hK : B.K = K) (A : AllDefs K mg) : ZDef P w K mg base B "_law_is_fraction" 1 F_law_is_fraction := by
  subst hK
  obtain ⟨f, fd, FD, hm⟩ := A 50 Kp.d_law_is_fraction rfl rfl
  have sc := sc_law_is_fraction
  refine zdef (k := 0) FD hm sc (fun _ _ _ _ _ _ us hl => match us, hl with | [_], _ => rfl) len_law_is_fraction fun cdv A0 outer s H E hr => ⟨_, (zs_cons (zs_if (PW.pt (z_or (z_not (z_val (z_isi2 (id := "list") (id2 := "tuple") (zv 0) T.isinstance T.list T.tuple (by decide +kernel) (by decide +kernel)))) (z_or1 (z_cmpT op_ne l_ne (z_E (z_bi call_len (l_len rfl) T.len PySem.boot_len (za_cons (zv 0) za_nil))) zint (nomark _))))) (zs_one (zs_ret zbl)) zs_nil) (zs_cons (zs_if (z_not (z_val (z_E (z_bi (cr_all rfl) (l_all rfl) T.all (by decide +kernel) (za_cons (z_E (z_comp (own := [("_law_number", 1)]) (zi_seq (zv 0)) (blkOk_by (by rfl)) (fun _ _ _ _ _ => (zg_name 1 sc.nd)) (fun _ _ _ _ _ => zts_nil) (fun _ _ _ _ _ => (z_andV (z_isi (id := "int") (zv 1) T.isinstance T.int (by decide +kernel)) (z_one (z_notV (z_isi (id := "bool") (zv 1) T.isinstance T.bool (by decide +kernel)))))) sc.nd)) za_nil))))) (zs_one (zs_ret zbl)) zs_nil) (zs_one (zs_ret (z_andV (z_cmp op_ge l_B0 (z_ix (zv 0) zint) zint (nomark _)) (z_one (z_cmp op_ge l_B0 (z_ix (zv 0) zint) zint (nomark _)))))))), fun ds wd Q h => ?_⟩
  obtain ⟨d, rfl, ⟨ht, hp⟩, q⟩ := h
  have le2 : ∀ x y : D, ([x, y] : List D).length ≤ sizeLine := fun _ _ => size2
  have two : ∀ x y, (d = .lst [x, y] ∨ d = .tup [x, y]) → tk x → tk y → zSeq (zIfS (zNot (zB (zAd (zBi zAll (zCons (zAd (zComp (ziSeq (zVar 0)) (zgN 1) zYes (zAndV (zIsi "int" (zVar 1)) (zNotV (zIsi "bool" (zVar 1)))) [1])) zNil))))) (zRet (zC (.bl false))) zNext)
      (zRet (zAndV (zBin (zI0 fun i j => .bl (decide (j ≤ i))) (zBin zIx (zVar 0) (zC (.int 0))) (zC (.int 0))) (zBin (zI0 fun i j => .bl (decide (j ≤ i))) (zBin zIx (zVar 0) (zC (.int 1))) (zC (.int 1))))) (fin Q) ⟨[some (.dat d), none], wd⟩ := fun x y hd tx ty => by
    have e : els d = some [x, y] := by rcases hd with rfl | rfl <;> rfl
    rw [fracN_two e] at q
    rcases hd with rfl | rfl
    all_goals
      refine fun hl1 => ⟨hl1, rfl, fun i acc w' => acc = (([x, y] : List D).take i).map (fun u => D.bl (isI u)) ∧ wd = w', ⟨rfl, rfl⟩, fun i u acc w' hd ⟨ha, hw⟩ => ?_, fun acc w' ⟨ha, hw⟩ => ?_⟩
      · have tu : tk u := by
          have := List.mem_of_getElem? hd
          simp at this
          rcases this with h | h
          · rw [h]; exact tx
          · rw [h]; exact ty
        refine ⟨rfl, rfl, num_read rfl tu ⟨rfl, ?_, hw⟩⟩
        rw [ha]
        exact tkm (f := fun u => D.bl (isI u)) hd
      · subst ha hw
        refine ⟨[isI x, isI y], rfl, ?_⟩
        rw [show ([isI x, isI y] : List Bool).all id = (isI x && isI y) by simp]
        refine ite2 (fun c => ?_) fun c => ?_
        · have c : (!(isI x && isI y)) = true := c
          have c : (isI x && isI y) = false := by
            cases h : (isI x && isI y) with
            | false => rfl
            | true => rw [h] at c; exact absurd c (by decide)
          rw [c, Bool.false_and] at q
          exact q
        · have c : ¬ (!(isI x && isI y)) = true := c
          have c : (isI x && isI y) = true := by
            cases h : (isI x && isI y) with
            | true => rfl
            | false => rw [h] at c; exact absurd rfl c
          rw [c, Bool.true_and] at q
          rw [Bool.and_eq_true] at c
          cases x with
          | int a =>
            cases y with
            | int b =>
              have q : Q (.dat (.bl (decide (0 ≤ a) && decide (1 ≤ b)))) wd := q
              refine ⟨_, rfl, ?_⟩
              refine ite2 (fun c2 => ?_) fun c2 => ?_
              · refine ⟨_, rfl, ?_⟩
                have c2 : decide (0 ≤ a) = true := c2
                rw [c2, Bool.true_and] at q
                exact q
              · have c2 : ¬ decide (0 ≤ a) = true := c2
                rw [Bool.eq_false_iff.mpr c2, Bool.false_and] at q
                exact q
            | _ => exact absurd c.2 Bool.false_ne_true
          | _ => exact absurd c.1 Bool.false_ne_true
  have sh : ∀ xs, els d = some xs → xs.length ≠ 2 → Q (.dat (.bl false)) wd := fun xs e h => by
    rw [fracN_len e h] at q; exact q
  cases d <;> first | exact (ht rfl).elim | skip
  all_goals first | exact ⟨_, false, rfl, rfl, q⟩ | skip
  all_goals
    rename_i xs
    refine ⟨_, true, rfl, rfl, ?_⟩
    refine ite2 (fun c => absurd (show false = true from c) (by decide)) fun _ => ?_
    refine ite2 (fun c => ?_) fun c => ?_
    · refine sh xs rfl fun e => ?_
      have c : (true != ((xs.length : Int) == 2)) = true := c
      rw [e, bnt] at c
      exact absurd c (by decide)
    · have c : ¬ (true != ((xs.length : Int) == 2)) = true := c
      rw [bnt] at c
      have c : (xs.length : Int) = 2 := by simpa using c
      rcases cp2 xs with h | ⟨x, y, rfl⟩
      · exact (h (by omega)).elim
      · first
        | exact two x y (.inl rfl) (hp x (by simp)) (hp y (by simp))
        | exact two x y (.inr rfl) (hp x (by simp)) (hp y (by simp))
end
end Kz

set_option Elab.async false
set_option linter.all false
set_option maxRecDepth 100000
set_option maxHeartbeats 4000000
set_option autoImplicit false
/-! Own plans kept, by the law. -/
namespace Kz
open PySem PySem.Spec PyProof.Rows L2
def behind (f g : Int × Int) (t : Int) : Bool := decide (g.1 * f.2 + t * f.2 * g.2 ≤ f.1 * g.2)
def atR (p : Pr) (k : Int) : Int × Int := (p.1.1 * p.2.2 + p.2.1 * k * p.1.2, p.1.2 * p.2.2)
def okL (ps : List Pr) (l : Lk) (u : Nat) : Prop := below (gp ps l.b).2 (gp ps l.a).2 = false ∧ ∀ j : Nat, j < u → behind (atR (gp ps l.b) (max 0 l.t + j)) (atR (gp ps l.a) (max 0 l.t + j - l.t)) l.d = true
theorem pl_none {n : Nat} {th : D} {xs : List D} {u : D} (e : els th = some xs) (hu : u ∈ xs) (h : (pairOf u).isSome = false) : plOf n th = none := by
  unfold plOf
  simp only [e]
  refine if_neg fun c => ?_
  have := List.all_eq_true.mp c.2 u hu
  rw [h] at this
  exact absurd this Bool.false_ne_true
theorem fracN_all {xs : List D} {x y : D} (e : xs = [x, y]) : (xs.map fun u => (fracN u).isSome).all id = ((fracN x).isSome && (fracN y).isSome) := by
  subst e
  simp
section
variable {P : Program} {w : World} {K : PySem.W.Frag} {mg : Str → Option Value} {base : Heap} {B : RB}
def F_law_keeps : ZF := fun ds wd Q => ∃ (n : Nat) (ls : List Lk) (th : D) (u : Nat), ds = [linksD ls, .int n, th, .int u] ∧ NetOk n ls ∧ tkQ th ∧ u ≤ 12 ∧ (∀ ps, plOf n th = some ps → ∀ p ∈ ps, p.1.2 * p.2.2 < 1073741824) ∧
  ∀ b : Bool, (b = true ↔ ∃ ps, plOf n th = some ps ∧ ∀ l ∈ ls, okL ps l u) → Q (.dat (.bl b)) wd
theorem len_law_keeps : ∀ ds wd Q, F_law_keeps ds wd Q → ds.length = 4 := fun ds wd Q ⟨a, _, _, _, e, _⟩ => by rw [e]; rfl
theorem sc_law_keeps : FnScope ["_law_links", "_law_many", "_law_thing", "_law_upto", "_law_pair", "_law_part", "_law_one", "_law_other", "_law_tokens", "_law_ticks", "_law_k"] ["_law_links", "_law_many", "_law_thing", "_law_upto"] (defScope Kp.s_law_keeps) := ⟨rfl, rfl, rfl, by decide +kernel, rfl, by decide +kernel, by decide +kernel⟩
theorem ok_law_keeps (T : Top K mg B) (hK : B.K = K) (A : AllDefs K mg) (G_law_is_fraction : ZDef P w K mg base B "_law_is_fraction" 1 F_law_is_fraction) (G_law_is_less : ZDef P w K mg base B "_law_is_less" 1 F_law_is_less) (G_law_is_behind : ZDef P w K mg base B "_law_is_behind" 1 F_law_is_behind) (G_law_at : ZDef P w K mg base B "_law_at" 1 F_law_at) : ZDef P w K mg base B "_law_keeps" 2 F_law_keeps := by
  subst hK
  obtain ⟨f, fd, FD, hm⟩ := A 53 Kp.d_law_keeps rfl rfl
  have sc := sc_law_keeps
  refine zdef (k := 1) FD hm sc (fun _ _ _ _ _ _ us hl => match us, hl with | [_, _, _, _], _ => rfl) len_law_keeps fun cdv A0 outer s H E hr => ⟨_, (zs_cons (zs_if (PW.pt (z_or (z_not (z_val (z_isi2 (id := "list") (id2 := "tuple") (zv 2) T.isinstance T.list T.tuple (by decide +kernel) (by decide +kernel)))) (z_or1 (z_cmpT op_ne l_ne (z_E (z_bi call_len (l_len rfl) T.len PySem.boot_len (za_cons (zv 2) za_nil))) (zv 1) (nomark _))))) (zs_one (zs_ret zbl)) zs_nil) (zs_cons (zs_for (zi_seq (zv 2)) (zg_name 4 sc.nd) (zs_one (zs_if (PW.pt (z_or (z_not (z_val (z_isi2 (id := "list") (id2 := "tuple") (zv 4) T.isinstance T.list T.tuple (by decide +kernel) (by decide +kernel)))) (z_or (z_cmpT op_ne l_ne (z_E (z_bi call_len (l_len rfl) T.len PySem.boot_len (za_cons (zv 4) za_nil))) zint (nomark _)) (z_or1 (z_not (z_val (z_E (z_bi (cr_all rfl) (l_all rfl) T.all (by decide +kernel) (za_cons (z_E (z_comp (own := [("_law_part", 5)]) (zi_seq (zv 4)) (blkOk_by (by rfl)) (fun _ _ _ _ _ => (zg_name 5 sc.nd)) (fun _ _ _ _ _ => zts_nil) (fun _ _ _ _ _ => (z_E (z_call G_law_is_fraction (hr.mono (by decide)) (by rfl) (za_cons (zv 5) za_nil)))) sc.nd)) za_nil))))))))) (zs_one (zs_ret zbl)) zs_nil))) (zs_cons (zs_for (zi_seq (zv 0)) (zg_tup (n := 4) (zg_cons (zg_name 6 sc.nd) (zg_cons (zg_name 7 sc.nd) (zg_cons (zg_name 8 sc.nd) (zg_cons (zg_name 9 sc.nd) zg_nil))))) (zs_cons (zs_if (z_val (z_E (z_call G_law_is_less (hr.mono (by decide)) (by rfl) (za_cons (z_ix (z_ix (zv 2) (zv 7)) zint) (za_cons (z_ix (z_ix (zv 2) (zv 6)) zint) za_nil))))) (zs_one (zs_ret zbl)) zs_nil) (zs_one (zs_for (zi_rng2 (z_E (z_bi (call_max2 rfl) (l_max) T.max (by decide +kernel) (za_cons zint (za_cons (zv 8) za_nil)))) (z_op op_add l_I0 (z_E (z_bi (call_max2 rfl) (l_max) T.max (by decide +kernel) (za_cons zint (za_cons (zv 8) za_nil)))) (zv 3)) T.range) (zg_name 10 sc.nd) (zs_one (zs_if (z_not (z_val (z_E (z_call G_law_is_behind (hr.mono (by decide)) (by rfl) (za_cons (z_E (z_call G_law_at (hr.mono (by decide)) (by rfl) (za_cons (z_ix (zv 2) (zv 7)) (za_cons (zv 10) za_nil)))) (za_cons (z_E (z_call G_law_at (hr.mono (by decide)) (by rfl) (za_cons (z_ix (zv 2) (zv 6)) (za_cons (z_op op_sub l_I0 (zv 10) (zv 8)) za_nil)))) (za_cons (zv 9) za_nil))))))) (zs_one (zs_ret zbl)) zs_nil)))))) (zs_one (zs_ret zbl))))), fun ds wd Q h => ?_⟩
  obtain ⟨n, ls, th, u, rfl, N, ⟨ht, hq⟩, hu, hb, q⟩ := h
  have n5 := N.n5
  have bad : plOf n th = none → Q (.dat (.bl false)) wd := fun e => q false ⟨fun h => absurd h (by decide), fun ⟨ps, h, _⟩ => by rw [e] at h; cases h⟩
  cases th <;> first | exact (ht rfl).elim | skip
  all_goals first | exact ⟨_, false, rfl, rfl, bad rfl⟩ | skip
  all_goals
    rename_i xs
    have tp : ∀ u ∈ xs, tkp u := fun u hu => hq xs rfl u hu
    refine ⟨_, true, rfl, rfl, ?_⟩
    refine ite2 (fun c => absurd (show false = true from c) (by decide)) fun _ => ?_
    refine ite2 (fun c => ?_) fun c => ?_
    · refine bad ?_
      show (if xs.length = n ∧ _ then _ else none) = none
      refine if_neg fun h => ?_
      have c : (true != ((xs.length : Int) == (n : Int))) = true := c
      rw [h.1, bnt] at c
      simp at c
    have hl : xs.length = n := by
      have c : ¬ (true != ((xs.length : Int) == (n : Int))) = true := c
      rw [bnt] at c
      have c : (xs.length : Int) = n := by simpa using c
      omega
    refine fun hl1 => ⟨fun i z => ∃ x4, z = ⟨[some (.dat (linksD ls)), some (.dat (.int n)), some (.dat _), some (.dat (.int u)), x4, none, none, none, none, none, none], wd⟩ ∧ ∀ v ∈ xs.take i, (pairOf v).isSome = true,
      ⟨_, rfl, fun v h => absurd h (by simp)⟩, fun i d z hd ⟨x4, hz, hall⟩ => ?_, fun z ⟨x4, hz, hall⟩ => ?_⟩
    · subst hz
      have hdm := List.mem_of_getElem? hd
      obtain ⟨td, tparts⟩ := tp d hdm
      have nope : (pairOf d).isSome = false → Q (.dat (.bl false)) wd := fun h => bad (pl_none rfl hdm h)
      have yes : (pairOf d).isSome = true → ∀ v ∈ xs.take (i + 1), (pairOf v).isSome = true := fun h v hv => by
        rw [tk1 hd] at hv
        rcases List.mem_append.mp hv with hv | hv
        · exact hall v hv
        · rw [List.mem_singleton.mp hv]; exact h
      cases d <;> first | exact (td rfl).elim | skip
      all_goals first | exact ⟨_, false, rfl, rfl, nope rfl⟩ | skip
      all_goals
        rename_i ys
        refine ⟨_, true, rfl, rfl, ?_⟩
        refine ite2 (fun c => absurd (show false = true from c) (by decide)) fun _ => ?_
        refine ite2 (fun c2 => ?_) fun c2 => ?_
        · refine nope ?_
          rw [pair_len rfl (fun e => by
            have c2 : (true != ((ys.length : Int) == 2)) = true := c2
            rw [e, bnt] at c2
            exact absurd c2 (by decide))]
          rfl
        · have c2 : ¬ (true != ((ys.length : Int) == 2)) = true := c2
          rw [bnt] at c2
          have c2 : (ys.length : Int) = 2 := by simpa using c2
          refine fun hl2 => ⟨hl2, rfl, fun j acc w' => acc = (ys.take j).map (fun u => D.bl (fracN u).isSome) ∧ wd = w', ⟨rfl, rfl⟩, fun j v acc w' hv ⟨ha, hw⟩ => ?_, fun acc w' ⟨ha, hw⟩ => ?_⟩
          · exact ⟨rfl, rfl, v, rfl, tparts _ rfl v (List.mem_of_getElem? hv), rfl, by rw [ha]; exact tkm (f := fun u => D.bl (fracN u).isSome) hv, hw⟩
          · rw [List.take_length] at ha
            subst ha hw
            refine ⟨ys.map fun u => (fracN u).isSome, by rw [List.map_map]; rfl, ?_⟩
            rcases cp2 ys with h | ⟨x, y, rfl⟩
            · exact (h (by omega)).elim
            rw [fracN_all rfl]
            refine ite2 (fun c3 => ?_) fun c3 => ?_
            · refine nope ((pair_two (x := x) (y := y) rfl).trans ?_)
              have c3 : (!((fracN x).isSome && (fracN y).isSome)) = true := c3
              cases h : ((fracN x).isSome && (fracN y).isSome) with
              | false => rfl
              | true => rw [h] at c3; exact absurd c3 (by decide)
            · refine ⟨_, rfl, yes ((pair_two (x := x) (y := y) rfl).trans ?_)⟩
              have c3 : ¬ (!((fracN x).isSome && (fracN y).isSome)) = true := c3
              cases h : ((fracN x).isSome && (fracN y).isSome) with
              | true => rfl
              | false => rw [h] at c3; exact absurd rfl c3
    · subst hz
      rw [List.take_length] at hall
      have hall' : (xs.all fun u => (pairOf u).isSome) = true := List.all_eq_true.mpr hall
      have hpl : ∀ th, els th = some xs → plOf n th = some (xs.map fun x => (pairOf x).getD pr0) := fun th e => by
        unfold plOf
        simp only [e]
        exact if_pos ⟨hl, hall'⟩
      generalize hps : (xs.map fun x => (pairOf x).getD pr0) = ps at hpl
      have hbs := hb ps (hpl _ rfl)
      have get : ∀ e : Int, 0 ≤ e → e < n → ∃ u, atI xs e = some u ∧ pairOf u = some (gp ps e) ∧ gp ps e ∈ ps := fun e h0 h1 => by
        have lt : e.toNat < xs.length := by omega
        have hu := List.getElem?_eq_getElem lt
        have hs := hall _ (List.getElem_mem lt)
        cases hp : pairOf xs[e.toNat] with
        | none => rw [hp] at hs; cases hs
        | some p =>
          have hg : ps[e.toNat]? = some p := by rw [← hps, List.getElem?_map, hu, Option.map_some, hp]; rfl
          have : gp ps e = p := by unfold gp; rw [List.getD_eq_getElem?_getD, hg]; rfl
          exact ⟨_, atI_nat h0 hu, by rw [this]; exact hp, by rw [this]; exact List.mem_of_getElem? hg⟩
      refine fun hl2 => ⟨fun i z => ∃ x6 x7 x8 x9 x10, z = ⟨[some (.dat (linksD ls)), some (.dat (.int n)), some (.dat _), some (.dat (.int u)), x4, none, x6, x7, x8, x9, x10], wd⟩ ∧ ∀ l ∈ ls.take i, okL ps l u,
        ⟨_, _, _, _, _, rfl, fun l h => absurd h (by simp)⟩, fun i d z hd ⟨x6, x7, x8, x9, x10, hz, hno⟩ => ?_, fun z ⟨x6, x7, x8, x9, x10, hz, hno⟩ => ?_⟩
      · subst hz
        obtain ⟨l, hli, rfl⟩ := gmap hd
        have hlm : l ∈ ls := List.mem_of_getElem? hli
        obtain ⟨a0, a1, b0, b1⟩ := N.inn l hlm
        have tb := N.tb l hlm
        have db := N.db l hlm
        obtain ⟨ua, hua, pa, ma⟩ := get l.a a0 a1
        obtain ⟨ub, hub, pb, mb⟩ := get l.b b0 b1
        have ba := hbs _ ma
        have bb := hbs _ mb
        obtain ⟨xa, ya, ia, fa1, fa2, da1, da2, na1, na2⟩ := pair_is pa
        obtain ⟨xb, yb, ib, fb1, fb2, db1, db2, nb1, nb2⟩ := pair_is pb
        have da : 0 < (gp ps l.a).1.2 * (gp ps l.a).2.2 := Int.mul_pos da1 da2
        have dbp : 0 < (gp ps l.b).1.2 * (gp ps l.b).2.2 := Int.mul_pos db1 db2
        have ga : (gp ps l.a).2.2 ≤ (gp ps l.a).1.2 * (gp ps l.a).2.2 := by
          have : 1 * (gp ps l.a).2.2 ≤ (gp ps l.a).1.2 * (gp ps l.a).2.2 := Int.mul_le_mul_of_nonneg_right (by omega) (by omega)
          omega
        have gb : (gp ps l.b).2.2 ≤ (gp ps l.b).1.2 * (gp ps l.b).2.2 := by
          have : 1 * (gp ps l.b).2.2 ≤ (gp ps l.b).1.2 * (gp ps l.b).2.2 := Int.mul_le_mul_of_nonneg_right (by omega) (by omega)
          omega
        have ga1 : (gp ps l.a).1.2 ≤ (gp ps l.a).1.2 * (gp ps l.a).2.2 := by
          have : (gp ps l.a).1.2 * 1 ≤ (gp ps l.a).1.2 * (gp ps l.a).2.2 := Int.mul_le_mul_of_nonneg_left (by omega) (by omega)
          omega
        have gb1 : (gp ps l.b).1.2 ≤ (gp ps l.b).1.2 * (gp ps l.b).2.2 := by
          have : (gp ps l.b).1.2 * 1 ≤ (gp ps l.b).1.2 * (gp ps l.b).2.2 := Int.mul_le_mul_of_nonneg_left (by omega) (by omega)
          omega
        have m1 : sm (gp ps l.b).2.2 := ⟨by omega, by omega⟩
        have m2 : sm (gp ps l.a).2.2 := ⟨by omega, by omega⟩
        have m3 : sm (gp ps l.b).1.2 := ⟨by omega, by omega⟩
        have m4 : sm (gp ps l.a).1.2 := ⟨by omega, by omega⟩
        have m5 : sm ((gp ps l.b).1.2 * (gp ps l.b).2.2) := ⟨by omega, by omega⟩
        have m6 : sm ((gp ps l.a).1.2 * (gp ps l.a).2.2) := ⟨by omega, by omega⟩
        have no : ¬ okL ps l u → Q (.dat (.bl false)) wd := fun h => q false ⟨fun h2 => absurd h2 (by decide), fun ⟨ps', e', h'⟩ => by
          have e2 := Option.some.inj ((hpl _ rfl).symm.trans e')
          subst e2
          exact (h (h' l hlm)).elim⟩
        refine ⟨rfl, rfl, ?_⟩
        rcases ib with rfl | rfl <;> rcases ia with rfl | rfl
        all_goals
          refine ⟨_, hub, yb, rfl, _, hua, ya, rfl, yb, ya, (gp ps l.b).2, (gp ps l.a).2, rfl, fb2, fa2, m1, m2, ?_⟩
          refine ite2 (fun c => ?_) fun c => ?_
          · refine no fun h => ?_
            rw [h.1] at c
            exact Bool.false_ne_true c
          · have c : below (gp ps l.b).2 (gp ps l.a).2 = false := Bool.eq_false_iff.mpr c
            refine ⟨⟨by omega, by omega, by omega, by omega⟩, ?_⟩
            rw [show (max 0 l.t + (u : Int) - max 0 l.t).toNat = u from by omega]
            refine ⟨fun j z => ∃ x10, z = ⟨[some (.dat (linksD ls)), some (.dat (.int n)), some (.dat _), some (.dat (.int u)), x4, none, some (.dat (.int l.a)), some (.dat (.int l.b)), some (.dat (.int l.t)), some (.dat (.int l.d)), x10], wd⟩ ∧ ∀ m : Nat, m < j → behind (atR (gp ps l.b) (max 0 l.t + m)) (atR (gp ps l.a) (max 0 l.t + m - l.t)) l.d = true,
              ⟨_, rfl, fun m h => absurd h (by omega)⟩, fun j d z hd ⟨x10, hz, hbe⟩ => ?_, fun z ⟨x10, hz, hbe⟩ => ?_⟩
            · subst hz
              have lt := (List.getElem?_eq_some_iff.mp hd).1
              rw [rangeD_length] at lt
              rw [rangeD_get _ lt] at hd
              cases hd
              refine ⟨_, hub, _, xb, yb, (gp ps l.b).1, (gp ps l.b).2, max 0 l.t + (j : Int), rfl, by first | exact .inl rfl | exact .inr rfl, fb1, fb2, m3, m1, ⟨by omega, by omega⟩, ?_⟩
              refine ⟨_, hua, _, xa, ya, (gp ps l.a).1, (gp ps l.a).2, max 0 l.t + (j : Int) - l.t, rfl, by first | exact .inl rfl | exact .inr rfl, fa1, fa2, m4, m2, ⟨by omega, by omega⟩, ?_⟩
              refine ⟨atR (gp ps l.b) (max 0 l.t + (j : Int)), atR (gp ps l.a) (max 0 l.t + (j : Int) - l.t), l.d, rfl, m5, m6, ⟨by omega, by omega⟩, ?_⟩
              refine ite2 (fun c2 => ?_) fun c2 => ?_
              · refine no fun h => ?_
                have c2 : (!behind (atR (gp ps l.b) (max 0 l.t + (j : Int))) (atR (gp ps l.a) (max 0 l.t + (j : Int) - l.t)) l.d) = true := c2
                rw [h.2 j lt] at c2
                exact absurd c2 (by decide)
              · have c2 : ¬ (!behind (atR (gp ps l.b) (max 0 l.t + (j : Int))) (atR (gp ps l.a) (max 0 l.t + (j : Int) - l.t)) l.d) = true := c2
                refine ⟨_, rfl, fun m hm => ?_⟩
                by_cases e : m = j
                · subst e
                  cases h : behind (atR (gp ps l.b) (max 0 l.t + (m : Int))) (atR (gp ps l.a) (max 0 l.t + (m : Int) - l.t)) l.d with
                  | true => rfl
                  | false => rw [h] at c2; exact absurd rfl c2
                · exact hbe m (by omega)
            · subst hz
              rw [rangeD_length] at hbe
              refine ⟨_, _, _, _, _, rfl, fun y hy => ?_⟩
              rw [tk1 hli] at hy
              rcases List.mem_append.mp hy with hy | hy
              · exact hno y hy
              · rw [List.mem_singleton.mp hy]
                exact ⟨c, hbe⟩
      · subst hz
        rw [List.length_map, List.take_length] at hno
        exact q true ⟨fun _ => ⟨ps, hpl _ rfl, hno⟩, fun _ => rfl⟩
end
end Kz

set_option Elab.async false
set_option linter.all false
set_option maxRecDepth 100000
set_option maxHeartbeats 4000000
set_option autoImplicit false
/-! Whether two things are the same. -/
namespace Kz
open PySem PySem.Spec PyProof.Rows L2
def sameD : Nat → D → Prop
  | 0, _ => False
  | _ + 1, .non => True
  | _ + 1, .bl _ => True
  | _ + 1, .int _ => True
  | n + 1, .lst xs => xs.length ≤ 1000 ∧ ∀ x ∈ xs, sameD n x
  | n + 1, .tup xs => xs.length ≤ 1000 ∧ ∀ x ∈ xs, sameD n x
  | _ + 1, _ => False
theorem zs_falls {X : Cx} {B : RB} {st : List Stmt} : DSs X B st zNever := ⟨fun pins s σ H T I ⟨_, _, _, _, _, h, _⟩ => h.elim⟩
section
variable {P : Program} {w : World} {K : PySem.W.Frag} {mg : Str → Option Value} {base : Heap} {B : RB}
def F_law_same (n : Nat) : ZF := fun ds wd Q => ∃ d, ds = [d, d] ∧ sameD n d ∧ Q (.dat (.bl true)) wd
theorem len_law_same {n : Nat} : ∀ ds wd Q, F_law_same n ds wd Q → ds.length = 2 := fun ds wd Q ⟨a, e, _⟩ => by rw [e]; rfl
theorem sc_law_same : FnScope ["_law_found", "_law_due", "_law_x", "_law_y"] ["_law_found", "_law_due"] (defScope Kp.s_law_same) := ⟨rfl, rfl, rfl, by decide +kernel, rfl, by decide +kernel, by decide +kernel⟩
theorem ok_law_same_step (T : Top K mg B) (hK : B.K = K) (A : AllDefs K mg) (n : Nat) (G_law_same : ZDef P w K mg base B "_law_same" (n + 1) (F_law_same n)) : ZDef P w K mg base B "_law_same" (n + 1 + 1) (F_law_same (n + 1)) := by
  subst hK
  obtain ⟨f, fd, FD, hm⟩ := A 37 Kp.d_law_same rfl rfl
  have sc := sc_law_same
  refine zdef (k := (n + 1)) FD hm sc (fun _ _ _ _ _ _ us hl => match us, hl with | [_, _], _ => rfl) len_law_same fun cdv A0 outer s H E hr => ⟨_, (zs_cons (zs_if (z_val (z_isi2 (id := "list") (id2 := "tuple") (zv 1) T.isinstance T.list T.tuple (by decide +kernel) (by decide +kernel))) (zs_cons (zs_if (PW.pt (z_or (z_cmpT op_ne l_ne (z_isi (id := "list") (zv 0) T.isinstance T.list (by decide +kernel)) (z_isi (id := "list") (zv 1) T.isinstance T.list (by decide +kernel)) (nomark _)) (z_or1 (z_cmpT op_ne l_ne (z_isi (id := "tuple") (zv 0) T.isinstance T.tuple (by decide +kernel)) (z_isi (id := "tuple") (zv 1) T.isinstance T.tuple (by decide +kernel)) (nomark _))))) (zs_one (zs_ret zbl)) zs_nil) (zs_one (zs_ret (z_andV (z_cmp op_eq l_eq (z_E (z_bi call_len (l_len rfl) T.len PySem.boot_len (za_cons (zv 0) za_nil))) (z_E (z_bi call_len (l_len rfl) T.len PySem.boot_len (za_cons (zv 1) za_nil))) (nomark _)) (z_one (z_E (z_bi (cr_all rfl) (l_all rfl) T.all (by decide +kernel) (za_cons (z_E (z_comp (own := [("_law_x", 2), ("_law_y", 3)]) (zi_zip (zv 0) (zv 1) T.zip) (blkOk_by (by rfl)) (fun _ _ _ _ _ => (zg_tup (n := 2) (zg_cons (zg_name 2 sc.nd) (zg_cons (zg_name 3 sc.nd) zg_nil)))) (fun _ _ _ _ _ => zts_nil) (fun _ _ _ _ _ => (z_E (z_call G_law_same hr (by rfl) (za_cons (zv 2) (za_cons (zv 3) za_nil))))) sc.nd)) za_nil)))))))) zs_nil) (zs_cons (zs_if (z_val (z_isi (id := "dict") (zv 1) T.isinstance T.dict (by decide +kernel))) (zs_one zs_never) zs_nil) (zs_cons (zs_if (z_val (z_isi (id := "int") (zv 1) T.isinstance T.int (by decide +kernel))) (zs_one (zs_ret (z_andV (z_isi (id := "int") (zv 0) T.isinstance T.int (by decide +kernel)) (z_andV (z_cmp op_eq l_eq (z_isi (id := "bool") (zv 0) T.isinstance T.bool (by decide +kernel)) (z_isi (id := "bool") (zv 1) T.isinstance T.bool (by decide +kernel)) (nomark _)) (z_one (z_eqD hr.units (zv 0) (zv 1))))))) zs_nil) (zs_one (zs_ret (z_andV (z_notV (z_isi4 (id := "int") (id2 := "list") (id3 := "tuple") (id4 := "dict") (zv 0) T.isinstance T.int T.list T.tuple T.dict (by decide +kernel) (by decide +kernel) (by decide +kernel) (by decide +kernel))) (z_one (z_eqD hr.units (zv 0) (zv 1))))))))), fun ds wd Q h => ?_⟩
  obtain ⟨d, rfl, hd, q⟩ := h
  cases d with
  | non => exact ⟨_, false, rfl, rfl, _, false, rfl, rfl, _, false, rfl, rfl, _, false, rfl, rfl, rfl, rfl, rfl, rfl, q⟩
  | bl b =>
    refine ⟨_, false, rfl, rfl, _, false, rfl, rfl, _, true, rfl, rfl, _, true, rfl, rfl, _, true, rfl, rfl, _, true, rfl, rfl, rfl, rfl, rfl, rfl, ?_⟩
    have e : PyData.eqv (toP (.bl b)) (toP (.bl b)) = true := SeqAt.eqv_refl _ rfl
    rw [e]; exact q
  | int i =>
    refine ⟨_, false, rfl, rfl, _, false, rfl, rfl, _, true, rfl, rfl, _, true, rfl, rfl, _, false, rfl, rfl, _, false, rfl, rfl, rfl, rfl, rfl, rfl, ?_⟩
    have e : PyData.eqv (toP (.int i)) (toP (.int i)) = true := SeqAt.eqv_refl _ rfl
    rw [e]; exact q
  | lst xs =>
    obtain ⟨hl, hx⟩ := hd
    refine ⟨_, true, rfl, rfl, ?_⟩
    refine ⟨_, true, rfl, rfl, _, true, rfl, rfl, ?_⟩
    refine ⟨_, false, rfl, rfl, _, false, rfl, rfl, ?_⟩
    refine ite2 (fun _ => ?_) fun c => absurd (show (false != ((xs.length : Int) == xs.length)) = true by simp) c
    refine ⟨by rw [List.length_zipWith, sizeLine_eq]; omega, rfl, fun i acc w' => acc = List.replicate i (D.bl true) ∧ wd = w', ⟨rfl, rfl⟩, fun i u acc w' hu ⟨ha, hw⟩ => ?_, fun acc w' ⟨ha, hw⟩ => ?_⟩
    · rw [List.getElem?_zipWith] at hu
      cases hy : xs[i]? with
      | none => rw [hy] at hu; cases hu
      | some y =>
        rw [hy] at hu
        cases hu
        exact ⟨rfl, rfl, rfl, rfl, y, rfl, hx y (List.mem_of_getElem? hy), rfl, by rw [ha, ← rep_set]; rfl, hw⟩
    · subst ha hw
      refine ⟨List.replicate (List.zipWith (fun x y => D.tup [x, y]) xs xs).length true, by rw [List.map_replicate], ?_⟩
      have e : ∀ n, (List.replicate n true).all id = true := fun n => by rw [List.all_eq_true]; intro b hb; exact List.eq_of_mem_replicate hb
      rw [e]
      exact q
  | tup xs =>
    obtain ⟨hl, hx⟩ := hd
    refine ⟨_, true, rfl, rfl, ?_⟩
    refine ⟨_, false, rfl, rfl, _, false, rfl, rfl, ?_⟩
    refine ⟨_, true, rfl, rfl, _, true, rfl, rfl, ?_⟩
    refine ite2 (fun _ => ?_) fun c => absurd (show (false != ((xs.length : Int) == xs.length)) = true by simp) c
    refine ⟨by rw [List.length_zipWith, sizeLine_eq]; omega, rfl, fun i acc w' => acc = List.replicate i (D.bl true) ∧ wd = w', ⟨rfl, rfl⟩, fun i u acc w' hu ⟨ha, hw⟩ => ?_, fun acc w' ⟨ha, hw⟩ => ?_⟩
    · rw [List.getElem?_zipWith] at hu
      cases hy : xs[i]? with
      | none => rw [hy] at hu; cases hu
      | some y =>
        rw [hy] at hu
        cases hu
        exact ⟨rfl, rfl, rfl, rfl, y, rfl, hx y (List.mem_of_getElem? hy), rfl, by rw [ha, ← rep_set]; rfl, hw⟩
    · subst ha hw
      refine ⟨List.replicate (List.zipWith (fun x y => D.tup [x, y]) xs xs).length true, by rw [List.map_replicate], ?_⟩
      have e : ∀ n, (List.replicate n true).all id = true := fun n => by rw [List.all_eq_true]; intro b hb; exact List.eq_of_mem_replicate hb
      rw [e]
      exact q
  | _ => exact hd.elim
theorem ok_law_same (T : Top K mg B) (hK : B.K = K) (A : AllDefs K mg) : ∀ n, ZDef P w K mg base B "_law_same" (n + 1) (F_law_same n)
  | 0 => by
    obtain ⟨f, fd, FD, hm⟩ := A 37 Kp.d_law_same rfl rfl
    exact zdef (k := 0) FD hm sc_law_same (fun _ _ _ _ _ _ us hl => match us, hl with | [_, _], _ => rfl) len_law_same fun cdv A0 outer s H E hr => ⟨zNever, zs_falls, fun ds wd Q ⟨d, _, hd, _⟩ => hd.elim⟩
  | n + 1 => ok_law_same_step T hK A n (ok_law_same T hK A n)
end
end Kz

set_option Elab.async false
set_option linter.all false
set_option maxRecDepth 100000
set_option maxHeartbeats 4000000
set_option autoImplicit false
/-! The draws. -/
namespace Kz
open PySem PySem.Spec PyProof.Rows L2
structure WOk (w : Wd) (a : Addr) (m : Nat) : Prop where
  sa : w.sa = some a
  gr : ∀ g ∈ w.great, 0 < g
  cell : 0 ≤ w.cell
  mix0 : 0 ≤ w.mix
  mix1 : w.mix < 2147483648
  cnt0 : 0 ≤ w.cnt
  cnt1 : w.cnt ≤ m
theorem WOk.mono {w : Wd} {a : Addr} {m k : Nat} (h : WOk w a m) (l : m ≤ k) : WOk w a k := ⟨h.sa, h.gr, h.cell, h.mix0, h.mix1, h.cnt0, by have := h.cnt1; omega⟩
abbrev capW : Nat := 1000000000
theorem fmod_bd {i k : Int} (h : 0 < k) : 0 ≤ i.fmod k ∧ i.fmod k < k := by
  rw [Int.fmod_eq_emod_of_nonneg _ (by omega)]
  exact ⟨Int.emod_nonneg _ (by omega), Int.emod_lt_of_pos _ h⟩
theorem fdiv_nn {i k : Int} (h : 0 < k) (h0 : 0 ≤ i) : 0 ≤ i.fdiv k := by
  rw [Int.fdiv_eq_ediv_of_nonneg _ (by omega)]
  exact Int.ediv_nonneg h0 (by omega)
section
variable {P : Program} {w : World} {K : PySem.W.Frag} {mg : Str → Option Value} {base : Heap} {B : RB}
def F_law_start : ZF := fun ds wd Q => ∃ ns : List Int, ds = [.scr ns] ∧ ns.length ≤ 63 ∧ ∀ (g : List Int) (mix : Int), (∀ x ∈ g, 0 < x) → 0 ≤ mix → mix < 2147483648 → Q (.own (.lst [.lst (g.map D.int), .int mix, .int 0, .int 0])) wd
theorem len_law_start : ∀ ds wd Q, F_law_start ds wd Q → ds.length = 1 := fun ds wd Q ⟨a, e, _⟩ => by rw [e]; rfl
theorem sc_law_start : FnScope ["_law_script", "_law_mix", "_law_cell"] ["_law_script"] (defScope Kp.s_law_start) := ⟨rfl, rfl, rfl, by decide +kernel, rfl, by decide +kernel, by decide +kernel⟩
theorem ok_law_start (T : Top K mg B) (hK : B.K = K) (A : AllDefs K mg) : ZDef P w K mg base B "_law_start" 1 F_law_start := by
  subst hK
  obtain ⟨f, fd, FD, hm⟩ := A 33 Kp.d_law_start rfl rfl
  have sc := sc_law_start
  refine zdef (k := 0) FD hm sc (fun _ _ _ _ _ _ us hl => match us, hl with | [_], _ => rfl) len_law_start fun cdv A0 outer s H E hr => ⟨_, (zs_cons (zs_set (i := 1) (z_M zint) sc.nd) (zs_cons (zs_for (zi_scr (zv 0)) (zg_name 2 sc.nd) (zs_one (zs_set (i := 1) (z_M (z_op op_modN l_I (z_E (z_ty call_int1 (l_int) T.int (by decide +kernel) (za_cons (z_op op_add l_I0 (z_op op_add l_I0 (z_op op_mul l_I (zv 1) zint) (zv 2)) zint) za_nil))) zint)) sc.nd))) (zs_one (zs_retM (z_lst (za_cons (z_E (z_comp (own := [("_law_cell", 2)]) (zi_scr (zv 0)) (blkOk_by (by rfl)) (fun _ _ _ _ _ => (zg_name 2 sc.nd)) (fun _ _ _ _ _ => (zts_one (z_cmpT op_ge l_B0 (zv 2) (z_op op_pow l_I zint zint) (nomark _)))) (fun _ _ _ _ _ => (zv 2)) sc.nd)) (za_cons (zv 1) (za_cons zint (za_cons zint za_nil))))))))), fun ds wd Q h => ?_⟩
  obtain ⟨ns, rfl, hl, q⟩ := h
  refine fun hl1 => ⟨fun i z => ∃ x1 x2, z = ⟨[some (.dat (.scr ns)), some (.dat (.int x1)), x2], wd⟩ ∧ (x2 = none ∨ ∃ d, x2 = some (.dat d)) ∧ 0 ≤ x1 ∧ x1 < 2147483648, ⟨17, _, rfl, .inl rfl, by decide, by decide⟩, fun i d z hd ⟨x1, x2, hz, _, h1, h2⟩ => ?_, fun z ⟨x1, x2, hz, hx2, h1, h2⟩ => ?_⟩
  · subst hz
    obtain ⟨n, hn, rfl⟩ := gmap hd
    have b := fmod_bd (i := x1 * 31 + n + 7) (k := 2147483629) (by decide)
    exact ⟨.inl ⟨by omega, by omega⟩, (show (2147483629 : Int) ≠ 0 by decide), _, _, rfl, .inr ⟨_, rfl⟩, b.1, by omega⟩
  · subst hz
    have no : noOwn [some (.dat (.scr ns)), some (.dat (.int x1)), x2] [2] = true := by rcases hx2 with rfl | ⟨d, rfl⟩ <;> rfl
    refine fun hl2 => ⟨by rw [List.length_map]; exact hl2, no, fun i acc w' => (∃ g : List Int, acc = g.map D.int ∧ ∀ x ∈ g, 0 < x) ∧ wd = w', ⟨⟨[], rfl, fun x h => absurd h (by simp)⟩, rfl⟩, fun i d acc w' hd ⟨ha, hw⟩ => ?_, fun acc w' ⟨ha, hw⟩ => ?_⟩
    · obtain ⟨n, hn, rfl⟩ := gmap hd
      obtain ⟨g, rfl, hg⟩ := ha
      refine ⟨rfl, ⟨by decide, by decide, by decide⟩, rfl, ?_⟩
      refine ite2 (fun c => ?_) fun c => ?_
      · have c : decide ((10 : Int) ^ 18 ≤ n) = true := c
        have c := of_decide_eq_true c
        exact ⟨rfl, ⟨g ++ [n], by rw [List.map_append]; rfl, fun x hx => by
          rcases List.mem_append.mp hx with h | h
          · exact hg x h
          · rw [List.mem_singleton.mp h]; have : (0 : Int) < 10 ^ 18 := by decide
            omega⟩, hw⟩
      · exact ⟨⟨g, rfl, hg⟩, hw⟩
    · obtain ⟨g, rfl, hg⟩ := ha
      subst hw
      exact ⟨Nat.le_trans (by decide : 4 ≤ 64) (by rw [sizeLine_eq]; omega), q g x1 hg h1 h2⟩
def F_law_draw : ZF := fun ds wd Q => ∃ (a : Addr) (m : Nat) (k : Int), ds = [.adr a, .int k] ∧ WOk wd a m ∧ m ≤ capW ∧ 0 < k ∧ k ≤ 1000000 ∧ ∀ r w', 0 ≤ r → r < k → WOk w' a (m + 1) → Q (.dat (.int r)) w'
theorem len_law_draw : ∀ ds wd Q, F_law_draw ds wd Q → ds.length = 2 := fun ds wd Q ⟨a, _, _, e, _⟩ => by rw [e]; rfl
theorem sc_law_draw : FnScope ["_law_stream", "_law_many", "_law_digit", "_law_mixed_here"] ["_law_stream", "_law_many"] (defScope Kp.s_law_draw) := ⟨rfl, rfl, rfl, by decide +kernel, rfl, by decide +kernel, by decide +kernel⟩
theorem ok_law_draw (T : Top K mg B) (hK : B.K = K) (A : AllDefs K mg) : ZDef P w K mg base B "_law_draw" 1 F_law_draw := by
  subst hK
  obtain ⟨f, fd, FD, hm⟩ := A 34 Kp.d_law_draw rfl rfl
  have sc := sc_law_draw
  refine zdef (k := 0) FD hm sc (fun _ _ _ _ _ _ us hl => match us, hl with | [_, _], _ => rfl) len_law_draw fun cdv A0 outer s H E hr => ⟨_, (zs_cons (zs_sput 0 2 (z_op op_add l_I0 (z_sget 0 2) zint)) (zs_cons (zs_if (PW.pt (z_and (z_cmpT op_eq l_eq (z_sget 0 3) zint (nomark _)) (z_and1 (z_sne 0 hr.units)))) (zs_one (zs_sput 0 3 (z_spop 0))) zs_nil) (zs_cons (zs_if (z_cmpT op_gt l_B0 (z_sget 0 3) zint (nomark _)) (zs_cons (zs_set (i := 2) (z_M (z_op op_modN l_I (z_E (z_ty call_int1 (l_int) T.int (by decide +kernel) (za_cons (z_sget 0 3) za_nil))) (zv 1))) sc.nd) (zs_cons (zs_sput 0 3 (z_op op_fdivN l_I (z_sget 0 3) (zv 1))) (zs_one (zs_ret (zv 2))))) zs_nil) (zs_cons (zs_set (i := 3) (z_M (z_op op_modN l_I (z_op op_pow l_I (z_E (z_ty call_int1 (l_int) T.int (by decide +kernel) (za_cons (z_op op_add l_I0 (z_op op_add l_I0 (z_sget 0 1) (z_op op_mul l_I zint (z_sget 0 2))) zint) za_nil))) zint) zint)) sc.nd) (zs_one (zs_ret (z_op op_modN l_I (z_op op_fdivN l_I (z_op op_modN l_I (z_op op_pow l_I (z_E (z_ty call_int1 (l_int) T.int (by decide +kernel) (za_cons (z_op op_add l_I0 (z_op op_add l_I0 (z_op op_mul l_I (zv 3) zint) (z_op op_mul l_I zint (z_sget 0 2))) zint) za_nil))) zint) zint) zint) (zv 1)))))))), fun ds wd Q h => ?_⟩
  obtain ⟨a, m, k, rfl, W, hm, k0, k1, q⟩ := h
  obtain ⟨g, mix, cnt, cell, sa⟩ := wd
  obtain ⟨e, hg, hc, hm0, hm1, hc0, hc1⟩ := W
  have e : sa = some a := e
  subst e
  have hc : 0 ≤ cell := hc
  have hm0 : 0 ≤ mix := hm0
  have hm1 : mix < 2147483648 := hm1
  have hc0 : 0 ≤ cnt := hc0
  have hc1 : cnt ≤ m := hc1
  have hm : m ≤ 1000000000 := hm
  have tail : ∀ (g : List Int) (cell : Int) x2 x3, (∀ x ∈ g, 0 < x) → 0 ≤ cell → zSeq (zIfS (zB (zBin (zI0 fun i j => .bl (decide (j < i))) (zSGet 0 3) (zC (.int 0)))) (zSeq (zSet 2 (zMd (zBin (zI (fun _ j => j ≠ 0) fun i j => .int (i.fmod j)) (zAd (zBi zIntOf (zCons (zSGet 0 3) zNil))) (zVar 1)))) (zSeq (zSPut 0 3 (zBin (zI CDivN fun i j => .int (i.fdiv j)) (zSGet 0 3) (zVar 1))) (zRet (zVar 2)))) zNext)
      (zSeq (zSet 3 (zMd (zBin (zI (fun _ j => j ≠ 0) fun i j => .int (i.fmod j)) (zBin (zI CPow fun i j => .int (i ^ j.toNat)) (zAd (zBi zIntOf (zCons (zBin (zI0 fun i j => .int (i + j)) (zBin (zI0 fun i j => .int (i + j)) (zSGet 0 1) (zBin (zI CMul fun i j => .int (i * j)) (zC (.int 7919)) (zSGet 0 2))) (zC (.int 104729))) zNil))) (zC (.int 5))) (zC (.int 2147483647)))))
        (zRet (zBin (zI (fun _ j => j ≠ 0) fun i j => .int (i.fmod j)) (zBin (zI CDivN fun i j => .int (i.fdiv j)) (zBin (zI (fun _ j => j ≠ 0) fun i j => .int (i.fmod j)) (zBin (zI CPow fun i j => .int (i ^ j.toNat)) (zAd (zBi zIntOf (zCons (zBin (zI0 fun i j => .int (i + j)) (zBin (zI0 fun i j => .int (i + j)) (zBin (zI CMul fun i j => .int (i * j)) (zVar 3) (zC (.int 48271))) (zBin (zI CMul fun i j => .int (i * j)) (zC (.int 30011)) (zSGet 0 2))) (zC (.int 29))) zNil))) (zC (.int 3))) (zC (.int 1000000007))) (zC (.int 2))) (zVar 1)))) (fin Q)
      ⟨[some (.dat (.adr a)), some (.dat (.int k)), x2, x3], ⟨g, mix, cnt + 1, cell, some a⟩⟩ := fun g cell x2 x3 hg hc => by
    refine ⟨rfl, ?_⟩
    refine ite2 (fun c => ?_) fun c => ?_
    · have b := fmod_bd (i := cell) k0
      refine ⟨rfl, by show k ≠ 0; omega, rfl, ⟨by omega, by omega⟩, rfl, q _ _ b.1 b.2 ⟨rfl, hg, fdiv_nn k0 hc, hm0, hm1, by show 0 ≤ cnt + 1; omega, by show cnt + 1 ≤ ((m + 1 : Nat) : Int); omega⟩⟩
    · have b := fmod_bd (i := (mix + 7919 * (cnt + 1) + 104729) ^ 5) (k := 2147483647) (by decide)
      have b2 := fmod_bd (i := (((mix + 7919 * (cnt + 1) + 104729) ^ 5).fmod 2147483647 * 48271 + 30011 * (cnt + 1) + 29) ^ 3) (k := 1000000007) (by decide)
      refine ⟨rfl, rfl, .inl ⟨by decide, by decide⟩, ⟨by decide, by decide, ?_⟩, (show (2147483647 : Int) ≠ 0 by decide), ?_⟩
      · show (mix + 7919 * (cnt + 1) + 104729).natAbs < 2 ^ 64
        omega
      have sm1 : sm (((mix + 7919 * (cnt + 1) + 104729) ^ 5).fmod 2147483647) := ⟨by omega, by omega⟩
      refine ⟨mulL sm1, rfl, .inl ⟨by decide, by decide⟩, ⟨by decide, by decide, ?_⟩, (show (1000000007 : Int) ≠ 0 by decide), ⟨(show (2 : Int) ≠ 0 by decide), (show (2 : Int).natAbs < 1073741824 by decide)⟩, by show k ≠ 0; omega, ?_⟩
      · show (((mix + 7919 * (cnt + 1) + 104729) ^ 5).fmod 2147483647 * 48271 + 30011 * (cnt + 1) + 29).natAbs < 2 ^ 64
        omega
      exact q _ _ (fmod_bd k0).1 (fmod_bd k0).2 ⟨rfl, hg, hc, hm0, hm1, by show 0 ≤ cnt + 1; omega, by show cnt + 1 ≤ ((m + 1 : Nat) : Int); omega⟩
  refine ⟨rfl, rfl, ?_⟩
  refine ⟨rfl, ?_⟩
  refine ite2 (fun c => ?_) fun c => ?_
  · refine ⟨rfl, ?_⟩
    refine ite2 (fun c2 => ?_) fun c2 => ?_
    · cases g with
      | nil => exact absurd (show false = true from c2) (by decide)
      | cons x g =>
        refine ⟨rfl, x, g, rfl, rfl, ?_⟩
        exact tail g x _ _ (fun y hy => hg y (List.mem_cons_of_mem _ hy)) (by have := hg x List.mem_cons_self; omega)
    · exact tail g cell _ _ hg hc
  · refine ite2 (fun z => absurd z (by decide)) fun _ => ?_
    exact tail g cell _ _ hg hc
end
end Kz

set_option Elab.async false
set_option linter.all false
set_option maxRecDepth 100000
set_option maxHeartbeats 4000000
set_option autoImplicit false
/-! What is picked, mixed, loosened. -/
namespace Kz
open PySem PySem.Spec PyProof.Rows L2
theorem erase_perm {α : Type} : ∀ {l : List α} {i : Nat} (h : i < l.length), (l[i] :: l.eraseIdx i).Perm l
  | x :: l, 0, _ => .refl _
  | x :: l, i + 1, h => (List.Perm.swap x (l[i]'(by simpa using h)) (l.eraseIdx i)).trans (.cons x (erase_perm (by simpa using h)))
mutual
/-- the same with lists for tuples, or tuples for lists -/
def Loose : D → D → Prop
  | .lst xs, d' => ∃ ys, (d' = .lst ys ∨ d' = .tup ys) ∧ LooseA xs ys
  | .tup xs, d' => ∃ ys, (d' = .lst ys ∨ d' = .tup ys) ∧ LooseA xs ys
  | d, d' => d' = d
def LooseA : List D → List D → Prop
  | [], ys => ys = []
  | x :: xs, ys => ∃ y r, ys = y :: r ∧ Loose x y ∧ LooseA xs r
end
theorem LooseA.snoc : ∀ {xs ys : List D} {x y : D}, LooseA xs ys → Loose x y → LooseA (xs ++ [x]) (ys ++ [y])
  | [], ys, x, y, h, h2 => by
    unfold LooseA at h
    subst h
    show LooseA [x] [y]
    unfold LooseA
    exact ⟨y, [], rfl, h2, by unfold LooseA; rfl⟩
  | z :: xs, ys, x, y, h, h2 => by
    unfold LooseA at h
    obtain ⟨u, r, rfl, h3, h4⟩ := h
    show LooseA (z :: (xs ++ [x])) (u :: (r ++ [y]))
    unfold LooseA
    exact ⟨u, r ++ [y], rfl, h3, LooseA.snoc h4 h2⟩
/-- what may be loosened: lists and tuples of up to five, so deep, of ints -/
def looseD : Nat → D → Prop
  | 0, _ => False
  | _ + 1, .int _ => True
  | n + 1, .lst xs => xs.length ≤ 5 ∧ ∀ x ∈ xs, looseD n x
  | n + 1, .tup xs => xs.length ≤ 5 ∧ ∀ x ∈ xs, looseD n x
  | _ + 1, _ => False
def cstL : Nat → Nat
  | 0 => 0
  | n + 1 => 1 + 5 * cstL n
section
variable {P : Program} {w : World} {K : PySem.W.Frag} {mg : Str → Option Value} {base : Heap} {B : RB}
def F_law_pick : ZF := fun ds wd Q => ∃ (a : Addr) (m : Nat) (xs : List D), ds = [.adr a, .lst xs] ∧ WOk wd a m ∧ m ≤ capW ∧ xs ≠ [] ∧ xs.length ≤ 1000 ∧ ∀ x ∈ xs, ∀ w', WOk w' a (m + 1) → Q (.dat x) w'
theorem len_law_pick : ∀ ds wd Q, F_law_pick ds wd Q → ds.length = 2 := fun ds wd Q ⟨a, _, _, e, _⟩ => by rw [e]; rfl
theorem sc_law_pick : FnScope ["_law_stream", "_law_things"] ["_law_stream", "_law_things"] (defScope Kp.s_law_pick) := ⟨rfl, rfl, rfl, by decide +kernel, rfl, by decide +kernel, by decide +kernel⟩
theorem ok_law_pick (T : Top K mg B) (hK : B.K = K) (A : AllDefs K mg) (G_law_draw : ZDef P w K mg base B "_law_draw" 1 F_law_draw) : ZDef P w K mg base B "_law_pick" 2 F_law_pick := by
  subst hK
  obtain ⟨f, fd, FD, hm⟩ := A 35 Kp.d_law_pick rfl rfl
  have sc := sc_law_pick
  refine zdef (k := 1) FD hm sc (fun _ _ _ _ _ _ us hl => match us, hl with | [_, _], _ => rfl) len_law_pick fun cdv A0 outer s H E hr => ⟨_, (zs_one (zs_ret (z_ix (zv 1) (z_E (z_call G_law_draw (hr.mono (by decide)) (by rfl) (za_cons (zv 0) (za_cons (z_E (z_bi call_len (l_len rfl) T.len PySem.boot_len (za_cons (zv 1) za_nil))) za_nil))))))), fun ds wd Q h => ?_⟩
  obtain ⟨a, m, xs, rfl, W, hm, h0, h1, q⟩ := h
  have hp : 0 < xs.length := List.length_pos_iff.mpr h0
  refine ⟨a, m, xs.length, rfl, W, hm, by omega, by omega, fun r w' r0 r1 W' => ?_⟩
  have lt : r.toNat < xs.length := by omega
  exact ⟨xs[r.toNat], atI_nat r0 (List.getElem?_eq_getElem lt), q _ (List.getElem_mem lt) w' W'⟩
def F_law_mixed : ZF := fun ds wd Q => ∃ (a : Addr) (m : Nat) (xs : List D), ds = [.adr a, .lst xs] ∧ WOk wd a m ∧ m + 1000 ≤ capW ∧ xs.length ≤ 1000 ∧ ∀ ys w', ys.Perm xs → WOk w' a (m + xs.length) → Q (.own (.lst ys)) w'
theorem len_law_mixed : ∀ ds wd Q, F_law_mixed ds wd Q → ds.length = 2 := fun ds wd Q ⟨a, _, _, e, _⟩ => by rw [e]; rfl
theorem sc_law_mixed : FnScope ["_law_stream", "_law_things", "_law_left", "_law_found", "_law_k"] ["_law_stream", "_law_things"] (defScope Kp.s_law_mixed) := ⟨rfl, rfl, rfl, by decide +kernel, rfl, by decide +kernel, by decide +kernel⟩
theorem ok_law_mixed (T : Top K mg B) (hK : B.K = K) (A : AllDefs K mg) (G_law_draw : ZDef P w K mg base B "_law_draw" 1 F_law_draw) : ZDef P w K mg base B "_law_mixed" 2 F_law_mixed := by
  subst hK
  obtain ⟨f, fd, FD, hm⟩ := A 36 Kp.d_law_mixed rfl rfl
  have sc := sc_law_mixed
  refine zdef (k := 1) FD hm sc (fun _ _ _ _ _ _ us hl => match us, hl with | [_, _], _ => rfl) len_law_mixed fun cdv A0 outer s H E hr => ⟨_, (zs_cons (zs_par (i := 2) (j := 3) (z_ty call_list_of (l_list rfl) T.list (by decide +kernel) (za_cons (zv 1) za_nil)) (z_lst za_nil) sc.nd) (zs_cons (zs_for (zi_rng1 (z_lenN 2 T.len) T.range) (zg_name 4 sc.nd) (zs_one (zs_expr (z_app 3 (z_popAt 2 (z_E (z_call G_law_draw (hr.mono (by decide)) (by rfl) (za_cons (zv 0) (za_cons (z_lenN 2 T.len) za_nil))))))))) (zs_one (zs_retO 3)))), fun ds wd Q h => ?_⟩
  obtain ⟨a, m, xs, rfl, W, hm, h1, q⟩ := h
  have hm : m + 1000 ≤ 1000000000 := hm
  refine ⟨Nat.zero_le _, by omega, by omega, fun i z => ∃ L F x4 w', z = ⟨[some (.dat (.adr a)), some (.dat (.lst xs)), some (.own (.lst L)), some (.own (.lst F)), x4], w'⟩ ∧ (F ++ L).Perm xs ∧ L.length + i = xs.length ∧ WOk w' a (m + i),
    ⟨xs, [], _, _, rfl, .refl _, rfl, W⟩, fun i d z hd ⟨L, F, x4, w', hz, pm, hl, W'⟩ => ?_, fun z ⟨L, F, x4, w', hz, pm, hl, W'⟩ => ?_⟩
  · subst hz
    have lt := (List.getElem?_eq_some_iff.mp hd).1
    rw [rangeD_length, Int.toNat_natCast] at lt
    refine ⟨a, m + i, L.length, rfl, W', by show m + i ≤ 1000000000; omega, by omega, by omega, fun r w2 r0 r1 W2 => ?_⟩
    have lt2 : r.toNat < L.length := by omega
    have hF : F.length ≤ xs.length := by
      have := pm.length_eq
      rw [List.length_append] at this
      omega
    refine ⟨r.toNat, L[r.toNat], by omega, by omega, List.getElem?_eq_getElem lt2, by rw [sizeLine_eq]; omega, L.eraseIdx r.toNat, F ++ [L[r.toNat]], _, w2, rfl, ?_, ?_, W2⟩
    · have h := erase_perm lt2
      rw [List.append_assoc]
      exact (List.Perm.append_left F h).trans pm
    · rw [List.length_eraseIdx_of_lt lt2]; omega
  · subst hz
    rw [rangeD_length, Int.toNat_natCast] at hl W'
    have : L = [] := List.length_eq_zero_iff.mp (by omega)
    subst this
    rw [List.append_nil] at pm
    exact q F w' pm W'
def F_law_loose (n : Nat) : ZF := fun ds wd Q => ∃ (a : Addr) (m : Nat) (d : D), ds = [.adr a, d] ∧ WOk wd a m ∧ m + cstL n ≤ capW ∧ looseD n d ∧ ∀ d' w', Loose d d' → WOk w' a (m + cstL n) → Q (.dat d') w'
theorem len_law_loose {n : Nat} : ∀ ds wd Q, F_law_loose n ds wd Q → ds.length = 2 := fun ds wd Q ⟨a, _, _, e, _⟩ => by rw [e]; rfl
theorem sc_law_loose : FnScope ["_law_stream", "_law_thing", "_law_some", "_law_one"] ["_law_stream", "_law_thing"] (defScope Kp.s_law_loose) := ⟨rfl, rfl, rfl, by decide +kernel, rfl, by decide +kernel, by decide +kernel⟩
theorem ok_law_loose_step (T : Top K mg B) (hK : B.K = K) (A : AllDefs K mg) (n : Nat) (G_law_draw : ZDef P w K mg base B "_law_draw" 1 F_law_draw) (G_law_loose : ZDef P w K mg base B "_law_loose" (n + 2) (F_law_loose n)) : ZDef P w K mg base B "_law_loose" (n + 2 + 1) (F_law_loose (n + 1)) := by
  subst hK
  obtain ⟨f, fd, FD, hm⟩ := A 38 Kp.d_law_loose rfl rfl
  have sc := sc_law_loose
  refine zdef (k := (n + 2)) FD hm sc (fun _ _ _ _ _ _ us hl => match us, hl with | [_, _], _ => rfl) len_law_loose fun cdv A0 outer s H E hr => ⟨_, (zs_cons (zs_if (z_val (z_isi2 (id := "list") (id2 := "tuple") (zv 1) T.isinstance T.list T.tuple (by decide +kernel) (by decide +kernel))) (zs_cons (zs_setLc (i := 2) (own := [("_law_one", 3)]) (zi_seq (zv 1)) (blkOk_by (by rfl)) (fun _ _ _ _ _ => (zg_name 3 sc.nd)) (fun _ _ _ _ _ => zts_nil) (fun _ _ _ _ _ => (z_E (z_call G_law_loose hr (by rfl) (za_cons (zv 0) (za_cons (zv 3) za_nil))))) sc.nd) (zs_one (zs_ret (z_if (z_cmpT op_eq l_eq (z_E (z_call G_law_draw (hr.mono (by omega)) (by rfl) (za_cons (zv 0) (za_cons zint za_nil)))) zint (nomark _)) (zv 2) (z_E (z_ty call_tuple_of (l_tup rfl) T.tuple (by decide +kernel) (za_cons (zv 2) za_nil))))))) zs_nil) (zs_one (zs_ret (zv 1)))), fun ds wd Q h => ?_⟩
  obtain ⟨a, m, d, rfl, W, hm, hd, q⟩ := h
  have hm : m + (1 + 5 * cstL n) ≤ 1000000000 := hm
  have q : ∀ d' w', Loose d d' → WOk w' a (m + (1 + 5 * cstL n)) → Q (.dat d') w' := q
  cases d with
  | int i => exact ⟨_, false, rfl, rfl, q _ _ (by unfold Loose; rfl) (W.mono (by omega))⟩
  | lst xs =>
    obtain ⟨hl, hx⟩ := hd
    refine ⟨_, true, rfl, rfl, ?_⟩
    refine fun hl1 => ⟨hl1, rfl, fun i acc w' => LooseA (xs.take i) acc ∧ WOk w' a (m + i * cstL n), ⟨by unfold LooseA; rfl, by rw [Nat.zero_mul]; exact W⟩, fun i x acc w' hxi ⟨ha, hw⟩ => ?_, fun acc w' ⟨ha, hw⟩ => ?_⟩
    · have lt := (List.getElem?_eq_some_iff.mp hxi).1
      have hmul : i * cstL n ≤ 4 * cstL n := Nat.mul_le_mul_right _ (by omega)
      refine ⟨rfl, rfl, a, m + i * cstL n, x, rfl, hw, by show m + i * cstL n + cstL n ≤ 1000000000; omega, hx x (List.mem_of_getElem? hxi), fun y w2 hy W2 => ⟨rfl, ?_, ?_⟩⟩
      · rw [tk1 hxi]; exact ha.snoc hy
      · rw [Nat.succ_mul, ← Nat.add_assoc]; exact W2
    · rw [List.take_length] at ha
      have hmul : xs.length * cstL n ≤ 5 * cstL n := Nat.mul_le_mul_right _ hl
      refine ⟨a, m + xs.length * cstL n, 2, rfl, hw, by show m + xs.length * cstL n ≤ 1000000000; omega, by decide, by decide, fun r w2 r0 r1 W2 => ?_⟩
      refine ite2 (fun c => ?_) fun c => ?_
      · exact q _ _ (by unfold Loose; exact ⟨acc, .inl rfl, ha⟩) (W2.mono (by omega))
      · exact q _ _ (by unfold Loose; exact ⟨acc, .inr rfl, ha⟩) (W2.mono (by omega))
  | tup xs =>
    obtain ⟨hl, hx⟩ := hd
    refine ⟨_, true, rfl, rfl, ?_⟩
    refine fun hl1 => ⟨hl1, rfl, fun i acc w' => LooseA (xs.take i) acc ∧ WOk w' a (m + i * cstL n), ⟨by unfold LooseA; rfl, by rw [Nat.zero_mul]; exact W⟩, fun i x acc w' hxi ⟨ha, hw⟩ => ?_, fun acc w' ⟨ha, hw⟩ => ?_⟩
    · have lt := (List.getElem?_eq_some_iff.mp hxi).1
      have hmul : i * cstL n ≤ 4 * cstL n := Nat.mul_le_mul_right _ (by omega)
      refine ⟨rfl, rfl, a, m + i * cstL n, x, rfl, hw, by show m + i * cstL n + cstL n ≤ 1000000000; omega, hx x (List.mem_of_getElem? hxi), fun y w2 hy W2 => ⟨rfl, ?_, ?_⟩⟩
      · rw [tk1 hxi]; exact ha.snoc hy
      · rw [Nat.succ_mul, ← Nat.add_assoc]; exact W2
    · rw [List.take_length] at ha
      have hmul : xs.length * cstL n ≤ 5 * cstL n := Nat.mul_le_mul_right _ hl
      refine ⟨a, m + xs.length * cstL n, 2, rfl, hw, by show m + xs.length * cstL n ≤ 1000000000; omega, by decide, by decide, fun r w2 r0 r1 W2 => ?_⟩
      refine ite2 (fun c => ?_) fun c => ?_
      · exact q _ _ (by unfold Loose; exact ⟨acc, .inl rfl, ha⟩) (W2.mono (by omega))
      · exact q _ _ (by unfold Loose; exact ⟨acc, .inr rfl, ha⟩) (W2.mono (by omega))
  | _ => exact hd.elim
theorem ok_law_loose (T : Top K mg B) (hK : B.K = K) (A : AllDefs K mg) (G_law_draw : ZDef P w K mg base B "_law_draw" 1 F_law_draw) : ∀ n, ZDef P w K mg base B "_law_loose" (n + 2) (F_law_loose n)
  | 0 => by
    obtain ⟨f, fd, FD, hm⟩ := A 38 Kp.d_law_loose rfl rfl
    exact zdef (k := 1) FD hm sc_law_loose (fun _ _ _ _ _ _ us hl => match us, hl with | [_, _], _ => rfl) len_law_loose fun cdv A0 outer s H E hr => ⟨zNever, zs_falls, fun ds wd Q ⟨_, _, _, _, _, _, hd, _⟩ => hd.elim⟩
  | n + 1 => ok_law_loose_step T hK A n G_law_draw (ok_law_loose T hK A G_law_draw n)
def F_law_n_distances : ZF := fun ds wd Q => ∃ (a : Addr) (m n : Nat) (arcs : List Lk), ds = [.adr a, netD n arcs] ∧ WOk wd a m ∧ m + 100 ≤ capW ∧ 0 < n ∧ n ≤ 5 ∧ ∀ (dl : List Lk) w', dl.length ≤ 4 → (∀ l ∈ dl, okK n l ∧ l.t ≤ 2 ∧ l.d ≤ 20) → WOk w' a (m + 100) → Q (.own (.lst (dl.map lkD))) w'
theorem len_law_n_distances : ∀ ds wd Q, F_law_n_distances ds wd Q → ds.length = 2 := fun ds wd Q ⟨a, _, _, _, e, _⟩ => by rw [e]; rfl
theorem sc_law_n_distances : FnScope ["_law_stream", "_law_net", "_law_found", "_law_k", "_law_tokens", "_law_most"] ["_law_stream", "_law_net"] (defScope Kp.s_law_n_distances) := ⟨rfl, rfl, rfl, by decide +kernel, rfl, by decide +kernel, by decide +kernel⟩
theorem ok_law_n_distances (T : Top K mg B) (hK : B.K = K) (A : AllDefs K mg) (G_law_draw : ZDef P w K mg base B "_law_draw" 1 F_law_draw) (G_law_pick : ZDef P w K mg base B "_law_pick" 2 F_law_pick) : ZDef P w K mg base B "_law_n_distances" 3 F_law_n_distances := by
  subst hK
  obtain ⟨f, fd, FD, hm⟩ := A 41 Kp.d_law_n_distances rfl rfl
  have sc := sc_law_n_distances
  refine zdef (k := 2) FD hm sc (fun _ _ _ _ _ _ us hl => match us, hl with | [_, _], _ => rfl) len_law_n_distances fun cdv A0 outer s H E hr => ⟨_, (zs_cons (zs_set (i := 2) (z_lst za_nil) sc.nd) (zs_cons (zs_for (zi_rng1 (z_E (z_call G_law_draw (hr.mono (by decide)) (by rfl) (za_cons (zv 0) (za_cons zint za_nil)))) T.range) (zg_name 3 sc.nd) (zs_cons (zs_par (i := 4) (j := 5) (z_M (z_E (z_call G_law_pick (hr.mono (by decide)) (by rfl) (za_cons (zv 0) (za_cons (z_E (z_lst (za_cons zint (za_cons zint (za_cons zint (za_cons zint (za_cons zint za_nil))))))) za_nil))))) (z_M (z_E (z_call G_law_pick (hr.mono (by decide)) (by rfl) (za_cons (zv 0) (za_cons (z_E (z_lst (za_cons zint (za_cons zint (za_cons zint (za_cons zint (za_cons zint (za_cons zint (za_cons zint (za_cons zint za_nil)))))))))) za_nil))))) sc.nd) (zs_one (zs_expr (z_app 2 (z_tup (za_cons (z_E (z_call G_law_draw (hr.mono (by decide)) (by rfl) (za_cons (zv 0) (za_cons (z_ix (zv 1) zint) za_nil)))) (za_cons (z_E (z_call G_law_draw (hr.mono (by decide)) (by rfl) (za_cons (zv 0) (za_cons (z_ix (zv 1) zint) za_nil)))) (za_cons (zv 4) (za_cons (zv 5) za_nil)))))))))) (zs_one (zs_retO 2)))), fun ds wd Q h => ?_⟩
  obtain ⟨a, m, n, arcs, rfl, W, hm, n0, n5, q⟩ := h
  have hm : m + 100 ≤ 1000000000 := hm
  refine ⟨Nat.zero_le _, a, m, 5, rfl, W, by show m ≤ 1000000000; omega, by decide, by decide, fun c w1 c0 c1 W1 => ?_⟩
  refine ⟨by omega, by omega, fun i z => ∃ (dl : List Lk) (x3 x4 x5 : Option SV) (w' : Wd), z = ⟨[some (.dat (.adr a)), some (.dat (netD n arcs)), some (.own (.lst (dl.map lkD))), x3, x4, x5], w'⟩ ∧ dl.length = i ∧ (∀ l ∈ dl, okK n l ∧ l.t ≤ 2 ∧ l.d ≤ 20) ∧ WOk w' a (m + 1 + 4 * i),
    ⟨[], _, _, _, _, rfl, rfl, fun l h => absurd h (by simp), W1⟩, fun i d z hd ⟨dl, x3, x4, x5, w', hz, hl, hk, W'⟩ => ?_, fun z ⟨dl, x3, x4, x5, w', hz, hl, hk, W'⟩ => ?_⟩
  · subst hz
    have lt := (List.getElem?_eq_some_iff.mp hd).1
    rw [rangeD_length] at lt
    refine ⟨Nat.le_trans (by decide : 5 ≤ 64) (by rw [sizeLine_eq]; omega), a, m + 1 + 4 * i, _, rfl, W', by show _ ≤ 1000000000; omega, by simp, by simp, fun t ht w2 W2 => ?_⟩
    have ht : ∃ t' : Int, t = .int t' ∧ 0 ≤ t' ∧ t' ≤ 2 := by
      simp at ht
      rcases ht with rfl | rfl | rfl <;> exact ⟨_, rfl, by decide, by decide⟩
    obtain ⟨t, rfl, t0, t1⟩ := ht
    refine ⟨Nat.le_trans (by decide : 8 ≤ 64) (by rw [sizeLine_eq]; omega), a, m + 1 + 4 * i + 1, _, rfl, W2, by show _ ≤ 1000000000; omega, by simp, by simp, fun y hy w3 W3 => ?_⟩
    have hy : ∃ y' : Int, y = .int y' ∧ 0 ≤ y' ∧ y' ≤ 20 := by
      simp at hy
      rcases hy with rfl | rfl | rfl | rfl | rfl | rfl | rfl | rfl <;> exact ⟨_, rfl, by decide, by decide⟩
    obtain ⟨y, rfl, y0, y1⟩ := hy
    refine ⟨.int n, rfl, a, m + 1 + 4 * i + 1 + 1, n, rfl, W3, by show _ ≤ 1000000000; omega, by omega, by omega, fun p w4 p0 p1 W4 => ?_⟩
    refine ⟨.int n, rfl, a, m + 1 + 4 * i + 1 + 1 + 1, n, rfl, W4, by show _ ≤ 1000000000; omega, by omega, by omega, fun p2 w5 p20 p21 W5 => ?_⟩
    refine ⟨Nat.le_trans (by decide : 4 ≤ 64) (by rw [sizeLine_eq]; omega), by rw [List.length_map, sizeLine_eq]; omega, dl ++ [⟨p, p2, t, y⟩], _, _, _, w5, by rw [List.map_append]; rfl, by rw [List.length_append, hl]; rfl, fun l hlm => ?_, W5.mono (by omega)⟩
    rcases List.mem_append.mp hlm with h | h
    · exact hk l h
    · rw [List.mem_singleton.mp h]; exact ⟨⟨p0, p1, p20, p21, t0, y0⟩, t1, y1⟩
  · subst hz
    rw [rangeD_length] at hl W'
    exact q dl w' (by omega) hk (W'.mono (by omega))
end
end Kz

set_option Elab.async false
set_option linter.all false
set_option maxRecDepth 100000
set_option maxHeartbeats 4000000
set_option autoImplicit false
/-! The drawn net. -/
namespace Kz
open PySem PySem.Spec PyProof.Rows L2
/-- a drawn net: no ring is without tokens -/
structure Drawn (n : Nat) (arcs : List Lk) : Prop where
  n0 : 0 < n
  n5 : n ≤ 5
  l6 : arcs.length ≤ 6
  ok : ∀ l ∈ arcs, okK n l
  t2 : ∀ l ∈ arcs, l.t ≤ 2
  d9 : ∀ l ∈ arcs, l.d ≤ 9
  rank : ∃ f : Int → Nat, ∀ l ∈ arcs, l.t = 0 → f l.a < f l.b
theorem perm_ints {is : List Int} {ys : List D} (h : ys.Perm (is.map D.int)) : ∃ js : List Int, js.Perm is ∧ ys = js.map D.int := perm_map h
theorem idx_ok {e : Int} : ∀ {js : List Int}, e ∈ js → js[js.idxOf e]? = some e ∧ ∀ m, m < js.idxOf e → js[m]? ≠ some e
  | [], h => absurd h (by simp)
  | j :: js, h => by
    rw [List.idxOf_cons]
    by_cases c : j = e
    · subst c
      rw [show (j == j) = true from by simp, cond_true]
      exact ⟨rfl, fun m hm => absurd hm (by omega)⟩
    · rw [show (j == e) = false from by simpa using c, cond_false]
      obtain ⟨h1, h2⟩ := idx_ok (js := js) ((List.mem_cons.mp h).resolve_left fun q => c q.symm)
      refine ⟨by simpa using h1, fun m hm => ?_⟩
      cases m with
      | zero => intro q; exact c (by simpa using q)
      | succ m => intro q; exact h2 m (by omega) (by simpa using q)
section
variable {P : Program} {w : World} {K : PySem.W.Frag} {mg : Str → Option Value} {base : Heap} {B : RB}
def F_law_n_net : ZF := fun ds wd Q => ∃ (a : Addr) (m : Nat), ds = [.adr a, .int 6] ∧ WOk wd a m ∧ m + 1100 ≤ capW ∧ ∀ (n : Nat) (arcs : List Lk) w', Drawn n arcs → WOk w' a (m + 100) → Q (.dat (netD n arcs)) w'
theorem len_law_n_net : ∀ ds wd Q, F_law_n_net ds wd Q → ds.length = 2 := fun ds wd Q ⟨a, _, e, _⟩ => by rw [e]; rfl
theorem sc_law_n_net : FnScope ["_law_stream", "_law_most", "_law_many", "_law_arcs", "_law_order", "_law_k", "_law_one", "_law_other", "_law_tokens"] ["_law_stream", "_law_most"] (defScope Kp.s_law_n_net) := ⟨rfl, rfl, rfl, by decide +kernel, rfl, by decide +kernel, by decide +kernel⟩
theorem ok_law_n_net (T : Top K mg B) (hK : B.K = K) (A : AllDefs K mg) (G_law_draw : ZDef P w K mg base B "_law_draw" 1 F_law_draw) (G_law_mixed : ZDef P w K mg base B "_law_mixed" 2 F_law_mixed) (G_law_pick : ZDef P w K mg base B "_law_pick" 2 F_law_pick) : ZDef P w K mg base B "_law_n_net" 3 F_law_n_net := by
  subst hK
  obtain ⟨f, fd, FD, hm⟩ := A 39 Kp.d_law_n_net rfl rfl
  have sc := sc_law_n_net
  refine zdef (k := 2) FD hm sc (fun _ _ _ _ _ _ us hl => match us, hl with | [_, _], _ => rfl) len_law_n_net fun cdv A0 outer s H E hr => ⟨_, (zs_cons (zs_par (i := 2) (j := 3) (z_M (z_op op_add l_I0 zint (z_E (z_call G_law_draw (hr.mono (by decide)) (by rfl) (za_cons (zv 0) (za_cons zint za_nil)))))) (z_lst za_nil) sc.nd) (zs_cons (zs_set (i := 4) (z_M (z_E (z_call G_law_mixed (hr.mono (by decide)) (by rfl) (za_cons (zv 0) (za_cons (z_E (z_listRg (zv 2) T.list T.range)) za_nil))))) sc.nd) (zs_cons (zs_for (zi_rng1 (z_E (z_call G_law_draw (hr.mono (by decide)) (by rfl) (za_cons (zv 0) (za_cons (z_op op_add l_I0 (zv 1) zint) za_nil)))) T.range) (zg_name 5 sc.nd) (zs_cons (zs_par (i := 6) (j := 7) (z_M (z_E (z_call G_law_draw (hr.mono (by decide)) (by rfl) (za_cons (zv 0) (za_cons (zv 2) za_nil))))) (z_M (z_E (z_call G_law_draw (hr.mono (by decide)) (by rfl) (za_cons (zv 0) (za_cons (zv 2) za_nil))))) sc.nd) (zs_cons (zs_set (i := 8) (z_M (z_E (z_call G_law_pick (hr.mono (by decide)) (by rfl) (za_cons (zv 0) (za_cons (z_E (z_lst (za_cons zint (za_cons zint (za_cons zint (za_cons zint (za_cons zint za_nil))))))) za_nil))))) sc.nd) (zs_cons (zs_if (PW.pt (z_and (z_cmpT op_eq l_eq (zv 8) zint (nomark _)) (z_and1 (z_cmpT op_ge l_B0 (z_index (zv 4) (zv 6)) (z_index (zv 4) (zv 7)) (nomark _))))) (zs_one (zs_set (i := 8) (z_M (z_op op_add l_I0 zint (z_E (z_call G_law_draw (hr.mono (by decide)) (by rfl) (za_cons (zv 0) (za_cons zint za_nil)))))) sc.nd)) zs_nil) (zs_one (zs_expr (z_app 3 (z_tup (za_cons (zv 6) (za_cons (zv 7) (za_cons (zv 8) (za_cons (z_E (z_call G_law_pick (hr.mono (by decide)) (by rfl) (za_cons (zv 0) (za_cons (z_E (z_lst (za_cons zint (za_cons zint (za_cons zint (za_cons zint (za_cons zint (za_cons zint za_nil)))))))) za_nil)))) za_nil)))))))))))) (zs_one (zs_ret (z_tup (za_cons (zv 2) (za_cons (zv 3) za_nil)))))))), fun ds wd Q h => ?_⟩
  obtain ⟨a, m, rfl, W, hm, q⟩ := h
  have hm : m + 1100 ≤ 1000000000 := hm
  refine ⟨a, m, 5, rfl, W, by show m ≤ 1000000000; omega, by decide, by decide, fun c w1 c0 c1 W1 => ?_⟩
  refine ⟨Nat.zero_le _, by omega, by omega, ?_⟩
  refine ⟨a, m + 1, _, rfl, W1, by show m + 1 + 1000 ≤ 1000000000; omega, by rw [rangeD_length]; omega, fun ys w2 pm W2 => ?_⟩
  rw [rangeD_length] at W2
  rw [rangeD_eq] at pm
  obtain ⟨js, pj, rfl⟩ := perm_ints pm
  have hmem : ∀ e : Int, 0 ≤ e → e < 1 + c → e ∈ js := fun e h0 h1 => pj.mem_iff.mpr (List.mem_map.mpr ⟨e.toNat, List.mem_range.mpr (by omega), by omega⟩)
  refine ⟨a, m + 1 + (1 + c).toNat, 7, rfl, W2, by show _ ≤ 1000000000; omega, by decide, by decide, fun k w3 k0 k1 W3 => ?_⟩
  refine ⟨by omega, by omega, fun i z => ∃ (arcs : List Lk) (x5 x6 x7 x8 : Option SV) (w' : Wd), z = ⟨[some (.dat (.adr a)), some (.dat (.int 6)), some (.dat (.int (1 + c))), some (.own (.lst (arcs.map lkD))), some (.dat (.lst (js.map D.int))), x5, x6, x7, x8], w'⟩ ∧ arcs.length = i ∧ (∀ l ∈ arcs, okK (1 + c) l ∧ l.t ≤ 2 ∧ l.d ≤ 9 ∧ (l.t = 0 → js.idxOf l.a < js.idxOf l.b)) ∧ WOk w' a (m + 10 + 5 * i),
    ⟨[], _, _, _, _, _, rfl, rfl, fun l h => absurd h (by simp), W3.mono (by omega)⟩, fun i d z hd ⟨arcs, x5, x6, x7, x8, w', hz, hl, hk, W'⟩ => ?_, fun z ⟨arcs, x5, x6, x7, x8, w', hz, hl, hk, W'⟩ => ?_⟩
  · subst hz
    have lt := (List.getElem?_eq_some_iff.mp hd).1
    rw [rangeD_length] at lt
    refine ⟨a, m + 10 + 5 * i, 1 + c, rfl, W', by show _ ≤ 1000000000; omega, by omega, by omega, fun p w4 p0 p1 W4 => ?_⟩
    refine ⟨a, m + 10 + 5 * i + 1, 1 + c, rfl, W4, by show _ ≤ 1000000000; omega, by omega, by omega, fun p2 w5 p20 p21 W5 => ?_⟩
    refine ⟨Nat.le_trans (by decide : 5 ≤ 64) (by rw [sizeLine_eq]; omega), a, m + 10 + 5 * i + 1 + 1, _, rfl, W5, by show _ ≤ 1000000000; omega, by simp, by simp, fun t ht w6 W6 => ?_⟩
    have ht : ∃ t' : Int, t = .int t' ∧ 0 ≤ t' ∧ t' ≤ 2 := by
      simp at ht
      rcases ht with rfl | rfl | rfl <;> exact ⟨_, rfl, by decide, by decide⟩
    obtain ⟨t, rfl, t0, t1⟩ := ht
    obtain ⟨i1, i2⟩ := idx_ok (hmem p p0 p1)
    obtain ⟨i3, i4⟩ := idx_ok (hmem p2 p20 p21)
    refine ite2 (fun c2 => ?_) fun c2 => ?_
    · have c2 : (false != (t == 0)) = true := c2
      have c2 : t = 0 := by simpa using c2
      subst c2
      refine ⟨js, rfl, p, js.idxOf p, rfl, i1, i2, js, rfl, p2, js.idxOf p2, rfl, i3, i4, ?_⟩
      refine ite2 (fun c3 => ?_) fun c3 => ?_
      · refine ⟨a, m + 10 + 5 * i + 1 + 1 + 1, 2, rfl, W6, by show _ ≤ 1000000000; omega, by decide, by decide, fun r w7 r0 r1 W7 => ?_⟩
        refine ⟨Nat.le_trans (by decide : 6 ≤ 64) (by rw [sizeLine_eq]; omega), a, m + 10 + 5 * i + 1 + 1 + 1 + 1, _, rfl, W7, by show _ ≤ 1000000000; omega, by simp, by simp, fun y hy w8 W8 => ?_⟩
        have hy : ∃ y' : Int, y = .int y' ∧ 0 ≤ y' ∧ y' ≤ 9 := by
          simp at hy
          rcases hy with rfl | rfl | rfl | rfl | rfl | rfl <;> exact ⟨_, rfl, by decide, by decide⟩
        obtain ⟨y, rfl, y0, y1⟩ := hy
        refine ⟨Nat.le_trans (by decide : 4 ≤ 64) (by rw [sizeLine_eq]; omega), by rw [List.length_map, sizeLine_eq]; omega, arcs ++ [⟨p, p2, 1 + r, y⟩], some (.dat (.int (0 + (i : Int)))), some (.dat (.int p)), some (.dat (.int p2)), some (.dat (.int (1 + r))), w8, ?_, by rw [List.length_append, hl]; rfl, fun l hlm => ?_, W8.mono (by omega)⟩
        · rw [List.map_append, ← (rangeD_get 0 lt).symm.trans hd |> Option.some.inj]; rfl
        · rcases List.mem_append.mp hlm with h | h
          · exact hk l h
          · rw [List.mem_singleton.mp h]
            exact ⟨⟨p0, p1, p20, p21, by show 0 ≤ 1 + r; omega, y0⟩, by show 1 + r ≤ 2; omega, y1, fun h0 => by have h0 : 1 + r = 0 := h0; omega⟩
      · have c3 : ¬ decide ((js.idxOf p2 : Int) ≤ (js.idxOf p : Int)) = true := c3
        have c3 : ¬ (js.idxOf p2 : Int) ≤ (js.idxOf p : Int) := by simpa using c3
        refine ⟨Nat.le_trans (by decide : 6 ≤ 64) (by rw [sizeLine_eq]; omega), a, m + 10 + 5 * i + 1 + 1 + 1, _, rfl, W6, by show _ ≤ 1000000000; omega, by simp, by simp, fun y hy w8 W8 => ?_⟩
        have hy : ∃ y' : Int, y = .int y' ∧ 0 ≤ y' ∧ y' ≤ 9 := by
          simp at hy
          rcases hy with rfl | rfl | rfl | rfl | rfl | rfl <;> exact ⟨_, rfl, by decide, by decide⟩
        obtain ⟨y, rfl, y0, y1⟩ := hy
        refine ⟨Nat.le_trans (by decide : 4 ≤ 64) (by rw [sizeLine_eq]; omega), by rw [List.length_map, sizeLine_eq]; omega, arcs ++ [⟨p, p2, 0, y⟩], some (.dat (.int (0 + (i : Int)))), some (.dat (.int p)), some (.dat (.int p2)), some (.dat (.int 0)), w8, ?_, by rw [List.length_append, hl]; rfl, fun l hlm => ?_, W8.mono (by omega)⟩
        · rw [List.map_append, ← (rangeD_get 0 lt).symm.trans hd |> Option.some.inj]; rfl
        · rcases List.mem_append.mp hlm with h | h
          · exact hk l h
          · rw [List.mem_singleton.mp h]
            exact ⟨⟨p0, p1, p20, p21, Int.le_refl _, y0⟩, (show (0 : Int) ≤ 2 by decide), y1, fun _ => by show js.idxOf p < js.idxOf p2; omega⟩
    · have c2 : ¬ (false != (t == 0)) = true := c2
      have c2 : t ≠ 0 := by simpa using c2
      refine ⟨Nat.le_trans (by decide : 6 ≤ 64) (by rw [sizeLine_eq]; omega), a, m + 10 + 5 * i + 1 + 1 + 1, _, rfl, W6, by show _ ≤ 1000000000; omega, by simp, by simp, fun y hy w8 W8 => ?_⟩
      have hy : ∃ y' : Int, y = .int y' ∧ 0 ≤ y' ∧ y' ≤ 9 := by
        simp at hy
        rcases hy with rfl | rfl | rfl | rfl | rfl | rfl <;> exact ⟨_, rfl, by decide, by decide⟩
      obtain ⟨y, rfl, y0, y1⟩ := hy
      refine ⟨Nat.le_trans (by decide : 4 ≤ 64) (by rw [sizeLine_eq]; omega), by rw [List.length_map, sizeLine_eq]; omega, arcs ++ [⟨p, p2, t, y⟩], some (.dat (.int (0 + (i : Int)))), some (.dat (.int p)), some (.dat (.int p2)), some (.dat (.int t)), w8, ?_, by rw [List.length_append, hl]; rfl, fun l hlm => ?_, W8.mono (by omega)⟩
      · rw [List.map_append, ← (rangeD_get 0 lt).symm.trans hd |> Option.some.inj]; rfl
      · rcases List.mem_append.mp hlm with h | h
        · exact hk l h
        · rw [List.mem_singleton.mp h]
          exact ⟨⟨p0, p1, p20, p21, t0, y0⟩, t1, y1, fun h0 => (c2 h0).elim⟩
  · subst hz
    rw [rangeD_length] at hl W'
    have e1 : (1 + c) = ((1 + c).toNat : Int) := by omega
    refine ⟨size2, ?_⟩
    have := q (1 + c).toNat arcs w' ⟨by omega, by omega, by omega, fun l hl => by rw [← e1]; exact (hk l hl).1, fun l hl => (hk l hl).2.1, fun l hl => (hk l hl).2.2.1, js.idxOf, fun l hl => (hk l hl).2.2.2⟩ (W'.mono (by omega))
    unfold netD at this
    rw [← e1] at this
    exact this
end
end Kz

set_option Elab.async false
set_option linter.all false
set_option maxRecDepth 100000
set_option maxHeartbeats 4000000
set_option autoImplicit false
/-! a, b, c = e1, e2, e3 by a tuple (names that blocks capture). -/
namespace Kz
open PySem PySem.Spec PyProof.Rows L2
section
variable {X : Cx} {B : RB}
theorem zs_parT3 {i j l : Nat} {x y y3 : Str} {a b c : Expr} {t u w : ZM} {px py pz pt : Pos} {kt k2 : Nat} {pt2 pos : Pos} (ha : DM X B a t) (hb : DM X B b u) (hd : DM X B c w) (hN : X.N.Nodup) (hc : X.calm = true := by rfl) (hi : X.N[i]? = some x := by rfl) (hj : X.N[j]? = some y := by rfl) (hl : X.N[l]? = some y3 := by rfl)
    (hx : Loc X.env.scope x := by first | exact Or.inl rfl | exact Or.inr rfl) (hy : Loc X.env.scope y := by first | exact Or.inl rfl | exact Or.inr rfl) (hz : Loc X.env.scope y3 := by first | exact Or.inl rfl | exact Or.inr rfl)
    (fx : X.fn x = true ∨ X.env.scope.names.lookup x = some .local := by first | exact .inl rfl | exact .inr rfl | assumption) (fy : X.fn y = true ∨ X.env.scope.names.lookup y = some .local := by first | exact .inl rfl | exact .inr rfl | assumption) (fz : X.fn y3 = true ∨ X.env.scope.names.lookup y3 = some .local := by first | exact .inl rfl | exact .inr rfl | assumption)
    (hw : swappedStores [.Tuple [.Name x px, .Name y py, .Name y3 pz] kt pt] (.Tuple [a, b, c] k2 pt2) X.env = pure none := by rfl)
    (hs : swapsWithSole [.Tuple [.Name x px, .Name y py, .Name y3 pz] kt pt] (.Tuple [a, b, c] k2 pt2) pos.line X.env = pure false := by rfl)
    (h1 : (assignEach [.Tuple [.Name x px, .Name y py, .Name y3 pz] kt pt] X.env).map (·.2) = [assign (.Tuple [.Name x px, .Name y py, .Name y3 pz] kt pt) X.env] := by rfl)
    (n1 : (assignEach [.Name x px, .Name y py, .Name y3 pz] X.env).map (·.2) = assign (.Name x px) X.env :: (assignEach [.Name y py, .Name y3 pz] X.env).map (·.2) := by rfl) (n2 : (assignEach [.Name y py, .Name y3 pz] X.env).map (·.2) = assign (.Name y py) X.env :: (assignEach [.Name y3 pz] X.env).map (·.2) := by rfl)
    (n3 : (assignEach [.Name y3 pz] X.env).map (·.2) = assign (.Name y3 pz) X.env :: (assignEach [] X.env).map (·.2) := by rfl)
    (hn : (assignEach [.Name x px, .Name y py, .Name y3 pz] X.env).length = 3 := by rfl) (hst : (assignEach [.Name x px, .Name y py, .Name y3 pz] X.env).findIdx? (·.1) = none := by rfl)
    (s1 : starEach (a :: [b, c]) X.env = (false, eval a X.env) :: starEach [b, c] X.env := by rfl) (s2 : starEach (b :: [c]) X.env = (false, eval b X.env) :: starEach [c] X.env := by rfl) (s3 : starEach (c :: []) X.env = (false, eval c X.env) :: starEach [] X.env := by rfl) :
    DS X B (.Assign [.Tuple [.Name x px, .Name y py, .Name y3 pz] kt pt] (.Tuple [a, b, c] k2 pt2) pos) (zPar3 i j l t u w) :=
  ps_weak (ps_asg (pe_tup (pa_cons ha (pa_cons hb (pa_cons hd pa_nil s3) s2) s1)) (pg_tup hc (pgs_cons (pg_name (i := i) hN hi hx fx) (pgs_cons (pg_name (i := j) hN hj hy fy) (pgs_cons (pg_name (i := l) hN hl hz fz) pgs_nil n3) n2) n1) hn hst) hs hw h1) fun T σ H ⟨Y, D, z, E, R, h, k⟩ =>
    ⟨Y, D, z, _, R, h, fun sv1 z1 h1 v1 H1 D1 S1 r1 => ⟨Y, D1, z1, _, S1.rel, h1, fun sv2 z2 h2 v2 H2 D2 S2 r2 => ⟨Y, D2, z2, _, S2.rel, h2, fun sv3 z3 h3 v3 H3 D3 S3 r3 => ⟨by show 3 ≤ sizeLine; rw [sizeLine_eq]; omega, fun p hp => by
      have S4 := Step.aside (o := .tup [v1, v2, v3]) S3.rel hp
      have q1 := ((r1.step S2).step S3).step S4
      have q2 := (r2.step S3).step S4
      have q3 := r3.step S4
      refine ⟨p, [v1, v2, v3], rfl, SqT.of upd_same, rfl, v1, [v2, v3], rfl, v2, [v3], rfl, v3, [], rfl, rfl, ?_⟩
      refine k.nx _ h3 _ _ D3 ⟨?_, S1.same.trans (S2.same.trans (S3.same.trans S4.same)), fun p h => S1.grow p (S2.grow p (S3.grow p (S4.grow p h)))⟩
      have A := S4.rel.setVR (i := i) q1
      have n12 : ∀ o o2 p, sv2 = .own o → sv1 = .own o2 → v1 = .ref p → v2 ≠ .ref p := fun o2 o1 p e0 e1 e2 e => by
        subst e0 e1 e2 e
        obtain ⟨p1, u1, q1, hp1, _⟩ := r1
        cases q1
        obtain ⟨p2, u2, q2, hp2, hn2, _⟩ := r2
        cases q2
        rw [hp1] at hn2; cases hn2
      have n13 : ∀ o o2 p, sv3 = .own o → sv1 = .own o2 → v1 = .ref p → v3 ≠ .ref p := fun o2 o1 p e0 e1 e2 e => by
        subst e0 e1 e2 e
        obtain ⟨p1, u1, q1, hp1, _⟩ := r1.step S2
        cases q1
        obtain ⟨p2, u2, q2, hp2, hn2, _⟩ := r3
        cases q2
        rw [hp1] at hn2; cases hn2
      have n23 : ∀ o o2 p, sv3 = .own o → sv2 = .own o2 → v2 = .ref p → v3 ≠ .ref p := fun o2 o1 p e0 e1 e2 e => by
        subst e0 e1 e2 e
        obtain ⟨p1, u1, q1, hp1, _⟩ := r2
        cases q1
        obtain ⟨p2, u2, q2, hp2, hn2, _⟩ := r3
        cases q2
        rw [hp1] at hn2; cases hn2
      have A2 := A.setVR (i := j) (q2.set (i := i) (s2 := sv1) (v2 := v1) n12)
      exact A2.setVR (i := l) ((q3.set (i := i) (s2 := sv1) (v2 := v1) n13).set (i := j) (s2 := sv2) (v2 := v2) n23)⟩⟩⟩⟩
end
end Kz

set_option Elab.async false
set_option linter.all false
set_option maxRecDepth 100000
set_option maxHeartbeats 4000000
set_option autoImplicit false
/-! An order of the events. -/
namespace Kz
open PySem PySem.Spec PyProof.Rows L2
theorem mem_dput {ks : List Int} {j k : Int} : k ∈ dputK ks j ↔ k ∈ ks ∨ k = j := by
  unfold dputK
  split
  · rename_i h
    constructor
    · exact .inl
    · rintro (h1 | rfl)
      · exact h1
      · simpa using h
  · rw [List.mem_append, List.mem_singleton]
theorem least_rank (f : Int → Nat) : ∀ {L : List Int}, L ≠ [] → ∃ e ∈ L, ∀ x ∈ L, f e ≤ f x
  | [x], _ => ⟨x, by simp, fun y hy => by rw [List.mem_singleton.mp hy]; exact Nat.le_refl _⟩
  | x :: y :: L, _ => by
    obtain ⟨e, he, hl⟩ := least_rank f (L := y :: L) (by simp)
    by_cases c : f x ≤ f e
    · exact ⟨x, by simp, fun z hz => by
        rcases List.mem_cons.mp hz with rfl | hz
        · exact Nat.le_refl _
        · exact Nat.le_trans c (hl z hz)⟩
    · exact ⟨e, List.mem_cons_of_mem _ he, fun z hz => by
        rcases List.mem_cons.mp hz with rfl | hz
        · omega
        · exact hl z hz⟩
section
variable {P : Program} {w : World} {K : PySem.W.Frag} {mg : Str → Option Value} {base : Heap} {B : RB}
def F_order_of : ZF := fun ds wd Q => ∃ (n : Nat) (arcs : List Lk) (f : Int → Nat), ds = [.int n, linksD arcs] ∧ n ≤ 100 ∧ arcs.length ≤ 100 ∧ (∀ l ∈ arcs, l.t = 0 → f l.a < f l.b) ∧ ∀ is : List Int, Q (.own (.lst (is.map D.int))) wd
theorem len_order_of : ∀ ds wd Q, F_order_of ds wd Q → ds.length = 2 := fun ds wd Q ⟨a, _, _, e, _⟩ => by rw [e]; rfl
theorem sc_order_of : FnScope ["many", "arcs", "links", "left", "found", "arc", "held", "one", "other", "tokens", "ticks", "free", "event"] ["many", "arcs"] (defScope Kp.s_order_of) := ⟨rfl, rfl, rfl, by decide +kernel, rfl, by decide +kernel, by decide +kernel⟩
theorem ok_order_of (T : Top K mg B) (hK : B.K = K) (A : AllDefs K mg) : ZDef P w K mg base B "order_of" 1 F_order_of := by
  subst hK
  obtain ⟨f, fd, FD, hm⟩ := A 14 Kp.d_order_of rfl rfl
  have sc := sc_order_of
  refine zdef (k := 0) FD hm sc (fun _ _ _ _ _ _ us hl => match us, hl with | [_, _], _ => rfl) len_order_of fun cdv A0 outer s H E hr => ⟨_, (zs_cons (zs_parT3 (i := 2) (j := 3) (l := 4) (z_comp (own := [("arc", 5)]) (zi_seq (zv 1)) (blkOk_by (by rfl)) (fun _ _ _ _ _ => (zg_name 5 sc.nd)) (fun _ _ _ _ _ => (zts_one (z_cmpT op_eq l_eq (z_ix (zv 5) zint) zint (nomark _)))) (fun _ _ _ _ _ => (zv 5)) sc.nd) (z_listRg (zv 0) T.list T.range) (z_lst za_nil) sc.nd) (zs_frz 2 (zs_cons (zs_while (z_cmpT op_gt l_B0 (z_E (z_bi call_len (l_len rfl) T.len PySem.boot_len (za_cons (zv 3) za_nil))) zint (nomark _)) (zs_cons (zs_set (i := 6) (z_dcomp (own := [("one", 7), ("other", 8), ("tokens", 9), ("ticks", 10)]) (zi_seq (zv 2)) (blkOk_by (by rfl)) (fun _ _ _ _ _ => (zg_tup (n := 4) (zg_cons (zg_name 7 sc.nd) (zg_cons (zg_name 8 sc.nd) (zg_cons (zg_name 9 sc.nd) (zg_cons (zg_name 10 sc.nd) zg_nil)))))) (fun _ _ _ _ _ => (zts_one (z_in (zv 7) (zv 3)))) (fun _ _ _ _ _ => (zv 8)) (fun _ _ _ _ _ => zbl) sc.nd) sc.nd) (zs_cons (zs_set (i := 11) (z_comp (own := [("event", 12)]) (zi_seq (zv 3)) (blkOk_by (by rfl)) (fun _ _ _ _ _ => (zg_name 12 sc.nd)) (fun _ _ _ _ _ => (zts_one (z_notInD 6 (zv 12) (hu_of hr)))) (fun _ _ _ _ _ => (zv 12)) sc.nd) sc.nd) (zs_cons (zs_if (z_cmpT op_eq l_eq (z_E (z_bi call_len (l_len rfl) T.len PySem.boot_len (za_cons (zv 11) za_nil))) zint (nomark _)) (zs_one (zs_ret znon)) zs_nil) (zs_cons (zs_expr (z_ext 4 (zv 11))) (zs_one (zs_set (i := 3) (z_comp (own := [("event", 12)]) (zi_seq (zv 3)) (blkOk_by (by rfl)) (fun _ _ _ _ _ => (zg_name 12 sc.nd)) (fun _ _ _ _ _ => (zts_one (z_notIn (zv 12) (zv 11)))) (fun _ _ _ _ _ => (zv 12)) sc.nd) sc.nd))))))) (zs_one (zs_retO 4))))), fun ds wd Q h => ?_⟩
  obtain ⟨n, arcs, f, rfl, hn, ha, hf, q⟩ := h
  refine fun hl1 => ⟨hl1, rfl, fun i acc w' => acc = ((arcs.take i).filter fun l => decide (l.t = 0)).map lkD ∧ wd = w', ⟨rfl, rfl⟩, fun i d acc w' hd ⟨ha, hw⟩ => ?_, fun acc w' ⟨ha, hw⟩ => ?_⟩
  · obtain ⟨l, hx, rfl⟩ := gmap hd
    refine ⟨rfl, .int l.t, rfl, rfl, ite2 (fun c => ?_) fun c => ?_⟩
    · have c : (false != (l.t == 0)) = true := c
      have c : l.t = 0 := by simpa using c
      exact ⟨rfl, by rw [ha]; exact tkf_yes (p := fun l => decide (l.t = 0)) hx (decide_eq_true c), hw⟩
    · have c : ¬ (false != (l.t == 0)) = true := c
      have c : ¬ l.t = 0 := by simpa using c
      exact ⟨by rw [ha]; exact tkf_no (p := fun l => decide (l.t = 0)) hx (decide_eq_false c), hw⟩
  rw [List.length_map, List.take_length] at ha
  subst ha hw
  refine ⟨by omega, by omega, Nat.zero_le _, ?_⟩
  generalize hks : arcs.filter (fun l => decide (l.t = 0)) = kz
  have hkf : ∀ l ∈ kz, f l.a < f l.b := fun l hl => by
    rw [← hks] at hl
    obtain ⟨h1, h2⟩ := List.mem_filter.mp hl
    exact hf l h1 (of_decide_eq_true h2)
  rw [rangeD_eq]
  refine ⟨fun z => ∃ (L F : List Int) (x3 : SV) (x6 x11 : Option SV), z = ⟨[some (.dat (.int n)), some (.dat (linksD arcs)), some (.dat (.lst (kz.map lkD))), some x3, some (.own (.lst (F.map D.int))), none, x6, none, none, none, none, x11, none], wd⟩ ∧ (x3 = .own (.lst (L.map D.int)) ∨ x3 = .dat (.lst (L.map D.int))) ∧ L.length ≤ 100 ∧ F.length + 100 * L.length ≤ 10000,
    fun z => match look z.e 3 with | some (.own (.lst ds)) => ds.length | some (.dat (.lst ds)) => ds.length | _ => 0, ⟨_, [], _, _, _, rfl, .inl rfl, by simp; omega, by simp; omega⟩, fun z ⟨L, F, x3, x6, x11, hz, h3, hL, hF⟩ => ?_⟩
  subst hz
  rcases h3 with rfl | rfl
  all_goals
    refine ite2 (fun c => ?_) fun c => ?_
    · have hLn : L ≠ [] := fun e => by subst e; exact absurd c (by decide)
      refine fun hl2 => ⟨hl2, rfl, fun i ks ac => ∀ k, k ∈ ks ↔ ∃ l ∈ kz.take i, l.a ∈ L ∧ l.b = k, fun k => by simp, fun i d ks ac hd hk => ?_, fun ks ac hk => ?_⟩
      · obtain ⟨l, hx, rfl⟩ := gmap hd
        refine ⟨rfl, rfl, rfl, L, rfl, rfl, ite2 (fun c2 => ?_) fun c2 => ?_⟩
        · have c2 : (false != L.contains l.a) = true := c2
          rw [bnf] at c2
          have c2 : l.a ∈ L := by simpa using c2
          refine ⟨rfl, rfl, l.b, rfl, fun k => ?_⟩
          rw [mem_dput, hk k, tk1 hx]
          constructor
          · rintro (⟨m, h1, h2⟩ | rfl)
            · exact ⟨m, List.mem_append_left _ h1, h2⟩
            · exact ⟨l, by simp, c2, rfl⟩
          · rintro ⟨m, h1, h2, h3⟩
            rcases List.mem_append.mp h1 with h1 | h1
            · exact .inl ⟨m, h1, h2, h3⟩
            · rw [List.mem_singleton.mp h1] at h3; exact .inr h3.symm
        · have c2 : ¬ (false != L.contains l.a) = true := c2
          rw [bnf] at c2
          have c2 : l.a ∉ L := by simpa using c2
          refine ⟨rfl, fun k => ?_⟩
          rw [hk k, tk1 hx]
          constructor
          · rintro ⟨m, h1, h2⟩
            exact ⟨m, List.mem_append_left _ h1, h2⟩
          · rintro ⟨m, h1, h2, h3⟩
            rcases List.mem_append.mp h1 with h1 | h1
            · exact ⟨m, h1, h2, h3⟩
            · rw [List.mem_singleton.mp h1] at h2; exact (c2 h2).elim
      rw [List.length_map, List.take_length] at hk
      refine fun hl3 => ⟨hl3, rfl, fun i acc w' => acc = ((L.take i).filter fun e => decide (e ∉ ks)).map D.int ∧ wd = w', ⟨rfl, rfl⟩, fun i d acc w' hd ⟨ha, hw⟩ => ?_, fun acc w' ⟨ha, hw⟩ => ?_⟩
      · obtain ⟨e, hx, rfl⟩ := gmap hd
        refine ⟨rfl, rfl, ite2 (fun c2 => ?_) fun c2 => ?_⟩
        · have c2 : (true != decide (e ∈ ks)) = true := c2
          rw [bnt] at c2
          have c2 : e ∉ ks := by simpa using c2
          exact ⟨rfl, by rw [ha]; exact tkf_yes (p := fun e => decide (e ∉ ks)) hx (decide_eq_true c2), hw⟩
        · have c2 : ¬ (true != decide (e ∈ ks)) = true := c2
          rw [bnt] at c2
          have c2 : ¬ e ∉ ks := by simpa using c2
          exact ⟨by rw [ha]; exact tkf_no (p := fun e => decide (e ∉ ks)) hx (decide_eq_false c2), hw⟩
      rw [List.length_map, List.take_length] at ha
      subst ha hw
      obtain ⟨e0, he0, hmin⟩ := least_rank f hLn
      have hfree : e0 ∈ L.filter fun e => decide (e ∉ ks) := List.mem_filter.mpr ⟨he0, decide_eq_true fun h => by
        obtain ⟨l, h1, h2, h3⟩ := (hk e0).mp h
        have := hkf l h1
        have := hmin _ h2
        rw [h3] at *
        omega⟩
      generalize hfr : L.filter (fun e => decide (e ∉ ks)) = fr at hfree
      have hfl : fr.length ≤ L.length := by rw [← hfr]; exact List.length_filter_le _ _
      refine ite2 (fun c2 => ?_) fun _ => ?_
      · have c2 : (false != (((fr.map D.int).length : Int) == 0)) = true := c2
        have : 0 < fr.length := List.length_pos_of_mem hfree
        rw [List.length_map] at c2
        have c2 : (fr.length : Int) = 0 := by simpa using c2
        omega
      refine ⟨by rw [List.length_map, List.length_map, sizeLine_eq]; omega, ?_⟩
      refine fun hl4 => ⟨hl4, rfl, fun i acc w' => acc = ((L.take i).filter fun e => decide (e ∉ fr)).map D.int ∧ wd = w', ⟨rfl, rfl⟩, fun i d acc w' hd ⟨ha, hw⟩ => ?_, fun acc w' ⟨ha, hw⟩ => ?_⟩
      · obtain ⟨e, hx, rfl⟩ := gmap hd
        refine ⟨rfl, fr, rfl, rfl, ite2 (fun c2 => ?_) fun c2 => ?_⟩
        · have c2 : (true != fr.contains e) = true := c2
          rw [bnt] at c2
          have c2 : e ∉ fr := by simpa using c2
          exact ⟨rfl, by rw [ha]; exact tkf_yes (p := fun e => decide (e ∉ fr)) hx (decide_eq_true c2), hw⟩
        · have c2 : ¬ (true != fr.contains e) = true := c2
          rw [bnt] at c2
          have c2 : ¬ e ∉ fr := by simpa using c2
          exact ⟨by rw [ha]; exact tkf_no (p := fun e => decide (e ∉ fr)) hx (decide_eq_false c2), hw⟩
      rw [List.length_map, List.take_length] at ha
      subst ha hw
      have hlt : (L.filter fun e => decide (e ∉ fr)).length < L.length := List.length_filter_lt_length_iff_exists.mpr ⟨e0, he0, by simpa using hfree⟩
      refine ⟨⟨L.filter fun e => decide (e ∉ fr), F ++ fr, _, some (.own (.dct ks ac)), some (.dat (.lst (fr.map D.int))), ?_, .inl rfl, by omega, by rw [List.length_append]; omega⟩, ?_⟩
      · rw [List.map_append]; rfl
      · show ((L.filter fun e => decide (e ∉ fr)).map D.int).length < (L.map D.int).length
        rw [List.length_map, List.length_map]; exact hlt
    · exact q F
end
end Kz

set_option Elab.async false
set_option linter.all false
set_option maxRecDepth 100000
set_option maxHeartbeats 4000000
set_option autoImplicit false
/-! A net is made. -/
namespace Kz
open PySem PySem.Spec PyProof.Rows L2
section
variable {P : Program} {w : World} {K : PySem.W.Frag} {mg : Str → Option Value} {base : Heap} {B : RB}
def F_init : ZFI := fun ds wd Q => ∃ (n : Nat) (arcs : List Lk), ds = [.int n, linksD arcs] ∧ Drawn n arcs ∧ ∀ (nl : List Lk) (ns : List Str) (ds' : List D), nl.Perm (arcs ++ selfs n) → netOf ((ns.zip ds').lookup ("many" : Str)) ((ns.zip ds').lookup ("links" : Str)) = .net n (linksD nl) → Q ns ds' wd
theorem len_init : ∀ ds wd Q, F_init ds wd Q → ds.length + 1 = (["self", "many", "arcs"] : List Str).length := fun ds wd Q ⟨a, _, e, _⟩ => by rw [e]; rfl
theorem sc_init : FnScope ["self", "many", "arcs", "arc", "event"] ["self", "many", "arcs"] (defScope Kp.s_init) := ⟨rfl, rfl, rfl, by decide +kernel, rfl, by decide +kernel, by decide +kernel⟩
theorem ok_init (T : Top K mg B) (hK : B.K = K) (G_is_positive : ZDef P w K mg base B "is_positive" 2 F_is_positive) (G_checked_arcs : ZDef P w K mg base B "checked_arcs" 5 F_checked_arcs) (G_order_of : ZDef P w K mg base B "order_of" 1 F_order_of) : ZIni P w K mg base B "Net" 6 F_init := by
  subst hK
  obtain ⟨f, fd, FD, M⟩ := T.ini
  have sc := sc_init
  refine zini (k := 5) FD M T.net sc ⟨_, rfl⟩ (fun _ _ _ _ _ _ us hl => match us, hl with | [_, _, _], _ => rfl) len_init fun cdv A0 outer s H E hr => ⟨_, (zs_cons (zs_if (z_not (z_val (z_E (z_call G_is_positive (hr.mono (by decide)) (by rfl) (za_cons (zv 1) za_nil))))) (zs_one zs_never) zs_nil) (zs_cons (zs_fldP 0 "many" (zv 1) T.cls T.many) (zs_cons (zs_fldP 0 "own_arcs" (z_E (z_call G_checked_arcs (hr.mono (by decide)) (by rfl) (za_cons (zv 1) (za_cons (zv 2) za_nil)))) T.cls T.own_arcs) (zs_cons (zs_fldP 0 "order" (z_E (z_call G_order_of (hr.mono (by decide)) (by rfl) (za_cons (zv 1) (za_cons (z_fldO 0 "own_arcs" T.cls T.own_arcs) za_nil)))) T.cls T.order) (zs_cons (zs_if (z_isNT (z_fldO 0 "order" T.cls T.order)) (zs_one zs_never) zs_nil) (zs_cons (zs_fldP 0 "links" (z_E (z_bi (cr_sortedQ (d := 3)) (l_sorted rfl) T.sorted (by decide +kernel) (za_cons (z_E (z_lst (za_star (z_fldO 0 "own_arcs" T.cls T.own_arcs) (za_star (z_E (z_comp (own := [("event", 4)]) (zi_rng1 (zv 1) T.range) (blkOk_by (by rfl)) (fun _ _ _ _ _ => (zg_name 4 sc.nd)) (fun _ _ _ _ _ => zts_nil) (fun _ _ _ _ _ => (z_tup (za_cons (zv 4) (za_cons (zv 4) (za_cons zint (za_cons zint za_nil)))))) sc.nd)) za_nil)))) za_nil))) T.cls T.links) (zs_one (zs_fldP 0 "kept" (z_E z_emp) T.cls T.kept)))))))), fun ds wd Q dx h => ?_⟩
  obtain ⟨n, arcs, rfl, Dr, q⟩ := h
  have n5 := Dr.n5
  have n0 := Dr.n0
  have l6 := Dr.l6
  obtain ⟨rk, hrk⟩ := Dr.rank
  refine ⟨.int n, rfl, tyn rfl, ?_⟩
  refine ite2 (fun c => ?_) fun _ => ?_
  · have c : (!decide ((1 : Int) ≤ n)) = true := c
    rw [decide_eq_true (by omega)] at c
    exact absurd c (by decide)
  refine ⟨by simp, by decide, ?_⟩
  refine ⟨n, arcs, rfl, by omega, Dr.ok, ?_⟩
  refine ⟨by decide +kernel, by decide, ?_⟩
  refine ⟨linksD arcs, rfl, n, arcs, rk, rfl, by omega, by omega, hrk, fun is => ?_⟩
  refine ⟨by decide +kernel, by decide, ?_⟩
  refine ⟨.lst (is.map D.int), rfl, ?_⟩
  refine ⟨linksD arcs, rfl, by omega, by omega, ?_⟩
  refine ⟨by rw [rangeD_length, sizeLine_eq]; omega, rfl, fun i acc w' => acc = (selfs i).map lkD ∧ wd = w', ⟨rfl, rfl⟩, fun i d acc w' hd ⟨ha, hw⟩ => ?_, fun acc w' ⟨ha, hw⟩ => ?_⟩
  · have lt := (List.getElem?_eq_some_iff.mp hd).1
    rw [rangeD_length] at lt
    rw [rangeD_get 0 lt] at hd
    cases hd
    refine ⟨rfl, rfl, Nat.le_trans (by decide : 4 ≤ 64) (by rw [sizeLine_eq]; omega), rfl, ?_, hw⟩
    rw [ha]
    unfold selfs
    rw [List.range_succ, List.map_append, List.map_append, Int.zero_add]
    rfl
  rw [rangeD_length, Int.toNat_natCast] at ha
  subst ha hw
  have sl : (selfs n).length = n := by unfold selfs; rw [List.length_map, List.length_range]
  refine ⟨?_, (arcs ++ selfs n).map quad, ?_, fun ns hns => ?_, fun mss hm => ?_⟩
  · show (arcs.map lkD ++ ((selfs n).map lkD ++ [])).length ≤ sizeLine
    rw [List.append_nil, List.length_append, List.length_map, List.length_map, sl, sizeLine_eq]; omega
  · show arcs.map lkD ++ ((selfs n).map lkD ++ []) = _
    rw [List.append_nil, ← List.map_append, List.map_map]
    rfl
  · obtain ⟨l, _, rfl⟩ := List.mem_map.mp hns
    rfl
  · obtain ⟨ls, pl, rfl⟩ := perm_map hm
    refine ⟨by decide +kernel, by decide, ?_⟩
    refine ⟨by decide +kernel, by decide, ?_⟩
    refine ⟨_, _, rfl, q ls _ _ pl ?_⟩
    have e : (ls.map quad).map tupI = ls.map lkD := by rw [List.map_map]; rfl
    rw [e]
    rfl
end
end Kz

set_option Elab.async false
set_option linter.all false
set_option maxRecDepth 100000
set_option maxHeartbeats 4000000
set_option autoImplicit false
/-! Plans that are bent. -/
namespace Kz
open PySem PySem.Spec PyProof.Rows L2
def prD (p : Pr) : D := .tup [frD p.1, frD p.2]
def okTh (th : D) : Prop := tkQ th ∧ ∀ n ps, plOf n th = some ps → ∀ p ∈ ps, p.1.2 * p.2.2 < 1073741824
def okY (y : D) : Prop := tkp y ∧ ∀ p, pairOf y = some p → p.1.2 * p.2.2 < 1073741824
theorem okTh_flat {th : D} (h : tk th) (e : els th = none) : okTh th := by
  refine ⟨⟨h, fun xs h2 => ?_⟩, fun n ps h2 => ?_⟩
  · rw [e] at h2; cases h2
  · unfold plOf at h2
    rw [e] at h2
    cases h2
theorem okTh_seq {th : D} {ys : List D} (h : tk th) (e : els th = some ys) (hy : ∀ y ∈ ys, okY y) : okTh th := by
  refine ⟨⟨h, fun xs h2 y hx => ?_⟩, fun n ps h2 p hp => ?_⟩
  · rw [e] at h2
    cases h2
    exact (hy y hx).1
  · unfold plOf at h2
    simp only [e] at h2
    split at h2
    · rename_i c
      cases h2
      obtain ⟨y, hy1, rfl⟩ := List.mem_map.mp hp
      have := List.all_eq_true.mp c.2 y hy1
      cases hpo : pairOf y with
      | none => rw [hpo] at this; cases this
      | some p => exact (hy y hy1).2 p hpo
    · cases h2
theorem tki {i : Int} : tk (.int i) := fun h => by cases h
theorem tkl {xs : List D} : tk (.lst xs) := fun h => by cases h
theorem tkt {xs : List D} : tk (.tup xs) := fun h => by cases h
theorem tks_fr (f : Int × Int) : tks (frD f) := ⟨tkt, fun x hx => by
  rcases List.mem_cons.mp hx with rfl | hx
  · exact tki
  · rw [List.mem_singleton.mp hx]; exact tki⟩
theorem okY_pr {f g : Int × Int} (h : 0 < f.2 → 0 < g.2 → f.2 * g.2 < 1073741824) : okY (.tup [frD f, frD g]) := by
  refine ⟨⟨tkt, fun xs e x hx => ?_⟩, fun p hp => ?_⟩
  · cases e
    rcases List.mem_cons.mp hx with rfl | hx
    · exact tks_fr f
    · rw [List.mem_singleton.mp hx]; exact tks_fr g
  · have fr : ∀ {f h : Int × Int}, fracN (frD f) = some h → h = f ∧ 0 < f.2 := fun {f h} e => by
      unfold fracN at e
      cases q : frac (frD f) with
      | none => rw [q] at e; cases e
      | some k =>
        rw [q] at e
        have e : (if 0 ≤ k.1 then some k else none) = some h := e
        split at e
        · cases e
          have q : (if 1 ≤ f.2 then some (f.1, f.2) else none) = some h := q
          split at q
          · cases q; exact ⟨rfl, by omega⟩
          · cases q
        · cases e
    have hp : (match fracN (frD f), fracN (frD g) with | some f, some g => some (f, g) | _, _ => none) = some p := hp
    split at hp
    · rename_i a b e1 e2
      cases hp
      obtain ⟨rfl, h1⟩ := fr e1
      obtain ⟨rfl, h2⟩ := fr e2
      exact h h1 h2
    · cases hp
theorem cut_len (ds : List D) (lo hi : Option Int) : (cutD ds lo hi).length ≤ ds.length := by
  unfold cutD
  exact Nat.le_trans (List.length_take_le' _ _) (by rw [List.length_drop]; omega)
section
variable {P : Program} {w : World} {K : PySem.W.Frag} {mg : Str → Option Value} {base : Heap} {B : RB}
def F_law_bent : ZF := fun ds wd Q => ∃ (a : Addr) (m : Nat) (ps : List Pr), ds = [.adr a, .lst (ps.map prD)] ∧ WOk wd a m ∧ m + 10 ≤ capW ∧ 0 < ps.length ∧ ps.length ≤ 5 ∧ (∀ p ∈ ps, 0 < p.1.2 ∧ 0 < p.2.2 ∧ p.1.2 ≤ 10000 ∧ p.2.2 ≤ 10000) ∧ ∀ th w', okTh th → WOk w' a (m + 3) → Q (.dat th) w'
theorem len_law_bent : ∀ ds wd Q, F_law_bent ds wd Q → ds.length = 2 := fun ds wd Q ⟨a, _, _, e, _⟩ => by rw [e]; rfl
theorem sc_law_bent : FnScope ["_law_stream", "_law_plan", "_law_at_here", "_law_way", "_law_top", "_law_bottom", "_law_rate", "_law_odd"] ["_law_stream", "_law_plan"] (defScope Kp.s_law_bent) := ⟨rfl, rfl, rfl, by decide +kernel, rfl, by decide +kernel, by decide +kernel⟩
theorem ok_law_bent (T : Top K mg B) (hK : B.K = K) (A : AllDefs K mg) (G_law_draw : ZDef P w K mg base B "_law_draw" 1 F_law_draw) (G_law_pick : ZDef P w K mg base B "_law_pick" 2 F_law_pick) : ZDef P w K mg base B "_law_bent" 3 F_law_bent := by
  subst hK
  obtain ⟨f, fd, FD, hm⟩ := A 55 Kp.d_law_bent rfl rfl
  have sc := sc_law_bent
  refine zdef (k := 2) FD hm sc (fun _ _ _ _ _ _ us hl => match us, hl with | [_, _], _ => rfl) len_law_bent fun cdv A0 outer s H E hr => ⟨_, (zs_cons (zs_par (i := 2) (j := 3) (z_M (z_E (z_call G_law_draw (hr.mono (by decide)) (by rfl) (za_cons (zv 0) (za_cons (z_E (z_bi call_len (l_len rfl) T.len PySem.boot_len (za_cons (zv 1) za_nil))) za_nil))))) (z_M (z_E (z_call G_law_draw (hr.mono (by decide)) (by rfl) (za_cons (zv 0) (za_cons zint za_nil))))) sc.nd) (zs_cons (zs_if (z_cmpT op_eq l_eq (zv 3) zint (nomark _)) (zs_one (zs_ret (z_E (z_call G_law_pick (hr.mono (by decide)) (by rfl) (za_cons (zv 0) (za_cons (z_E (z_lst (za_cons znon (za_cons zint (za_cons zstr (za_cons (z_E z_emp) (za_cons (z_E (z_lst za_nil)) (za_cons (z_E (z_cat (zv 1) (z_E (z_cut (zv 1) zo_none (zo_some zint))))) (za_cons (z_E (z_cut (zv 1) zo_none (zo_some (z_neg zint)))) (za_cons (zglob (by rfl) T.lawat.choose_spec.1 T.lawat.choose_spec.2) za_nil)))))))))) za_nil)))))) zs_nil) (zs_cons (zs_asg (z_ix (zv 1) (zv 2)) (zg_tup (n := 2) (zg_cons (zg_tup (n := 2) (zg_cons (zg_name 4 sc.nd) (zg_cons (zg_name 5 sc.nd) zg_nil))) (zg_cons (zg_name 6 sc.nd) zg_nil)))) (zs_cons (zs_set (i := 7) (z_lst (za_cons (z_tup (za_cons (z_tup (za_cons (z_op op_add l_I0 (zv 4) (zv 5)) (za_cons (zv 5) za_nil))) (za_cons (zv 6) za_nil))) (za_cons (z_tup (za_cons (z_tup (za_cons (z_E (z_bi (call_max2 rfl) (l_max) T.max (by decide +kernel) (za_cons zint (za_cons (z_op op_sub l_I0 (zv 4) zint) za_nil)))) (za_cons (zv 5) za_nil))) (za_cons (zv 6) za_nil))) (za_cons (z_tup (za_cons (z_tup (za_cons (zv 4) (za_cons (zv 5) za_nil))) (za_cons (z_tup (za_cons (z_op op_add l_I0 (z_ix (zv 6) zint) zint) (za_cons (z_ix (zv 6) zint) za_nil))) za_nil))) za_nil)))) sc.nd) (zs_cons (zs_expr (z_ext 7 (z_E (z_lst (za_cons (z_tup (za_cons (z_tup (za_cons (zv 4) (za_cons (zv 5) za_nil))) (za_cons (z_tup (za_cons (z_E (z_bi (call_max2 rfl) (l_max) T.max (by decide +kernel) (za_cons zint (za_cons (z_op op_sub l_I0 (z_ix (zv 6) zint) zint) za_nil)))) (za_cons (z_ix (zv 6) zint) za_nil))) za_nil))) (za_cons (z_tup (za_cons (z_tup (za_cons (zv 4) (za_cons zint za_nil))) (za_cons (zv 6) za_nil))) (za_cons (z_tup (za_cons (z_tup (za_cons zbl (za_cons zint za_nil))) (za_cons (zv 6) za_nil))) (za_cons znon (za_cons (z_tup (za_cons (zv 6) za_nil)) za_nil))))))))) (zs_cons (zs_expr (z_app 7 (z_tup (za_cons (z_tup (za_cons (z_op op_mul l_I zint (zv 4)) (za_cons (z_op op_mul l_I zint (zv 5)) za_nil))) (za_cons (zv 6) za_nil))))) (zs_one (zs_ret (z_E (z_cat (z_E (z_cat (z_E (z_cut (zv 1) zo_none (zo_some (zv 2)))) (z_E (z_lst (za_cons (z_E (z_call G_law_pick (hr.mono (by decide)) (by rfl) (za_cons (zv 0) (za_cons (zv 7) za_nil)))) za_nil))))) (z_E (z_cut (zv 1) (zo_some (z_op op_add l_I0 (zv 2) zint)) zo_none)))))))))))), fun ds wd Q h => ?_⟩
  obtain ⟨a, m, ps, rfl, W, hm, l0, l5, hb, q⟩ := h
  have hm : m + 10 ≤ 1000000000 := hm
  have okp : ∀ p ∈ ps, okY (prD p) := fun p hp => okY_pr fun h1 h2 => by
    obtain ⟨b1, b2, b3, b4⟩ := hb p hp
    have : p.1.2 * p.2.2 ≤ 10000 * 10000 := Int.mul_le_mul b3 b4 (by omega) (by omega)
    omega
  have okc : ∀ lo hi, ∀ y ∈ cutD (ps.map prD) lo hi, okY y := fun lo hi y hy => by
    obtain ⟨p, hp, rfl⟩ := List.mem_map.mp (List.mem_of_mem_drop (List.mem_of_mem_take hy))
    exact okp p hp
  refine ⟨a, m, (ps.map prD).length, rfl, W, by show m ≤ 1000000000; omega, by rw [List.length_map]; omega, by rw [List.length_map]; omega, fun r w1 r0 r1 W1 => ?_⟩
  refine ⟨a, m + 1, 5, rfl, W1, by show m + 1 ≤ 1000000000; omega, by decide, by decide, fun r2 w2 r20 r21 W2 => ?_⟩
  rw [List.length_map] at r1
  have lt : r.toNat < ps.length := by omega
  obtain ⟨p, hp⟩ : ∃ p, ps[r.toNat]? = some p := ⟨ps[r.toNat], List.getElem?_eq_getElem lt⟩
  have hpm := List.mem_of_getElem? hp
  obtain ⟨b1, b2, b3, b4⟩ := hb p hpm
  have hat : atI (ps.map prD) r = some (prD p) := atI_nat r0 (by rw [List.getElem?_map, hp]; rfl)
  refine ite2 (fun c => ?_) fun c => ?_
  · have lc : ∀ lo hi, (cutD (ps.map prD) lo hi).length ≤ 5 := fun lo hi => by
      have := cut_len (ps.map prD) lo hi
      rw [List.length_map] at this
      omega
    have e8 : 8 ≤ sizeLine := Nat.le_trans (by decide : 8 ≤ 64) (by rw [sizeLine_eq]; omega)
    refine ⟨Nat.zero_le _, ?_, e8, a, m + 2, _, rfl, W2, by show m + 2 ≤ 1000000000; omega, by simp, by simp, fun x hx w3 W3 => q x w3 ?_ (W3.mono (by omega))⟩
    · have := lc none (some 1)
      rw [List.length_map, sizeLine_eq]; omega
    · simp only [List.mem_cons, List.not_mem_nil, or_false] at hx
      have okl : ∀ y ∈ ps.map prD, okY y := fun y hy => by
        obtain ⟨p, hp, rfl⟩ := List.mem_map.mp hy
        exact okp p hp
      rcases hx with rfl | rfl | rfl | rfl | rfl | rfl | rfl | rfl
      · exact okTh_flat (fun h => by cases h) rfl
      · exact okTh_flat tki rfl
      · exact okTh_flat (fun h => by cases h) rfl
      · exact okTh_flat (fun h => by cases h) rfl
      · exact okTh_seq tkl rfl fun y hy => absurd hy (by simp)
      · refine okTh_seq tkl rfl fun y hy => ?_
        rcases List.mem_append.mp hy with h | h
        · exact okl y h
        · exact okc _ _ y h
      · exact okTh_seq tkl rfl fun y hy => okc _ _ y hy
      · exact okTh_flat (fun h => by cases h) rfl
  · refine ⟨prD p, hat, rfl, rfl, rfl, ?_⟩
    have e3 : 3 ≤ sizeLine := Nat.le_trans (by decide : 3 ≤ 64) (by rw [sizeLine_eq]; omega)
    have e5 : 5 ≤ sizeLine := Nat.le_trans (by decide : 5 ≤ 64) (by rw [sizeLine_eq]; omega)
    have e1 : 1 ≤ sizeLine := Nat.le_trans (by decide : 1 ≤ 64) (by rw [sizeLine_eq]; omega)
    have e8 : 8 ≤ sizeLine := Nat.le_trans (by decide : 8 ≤ 64) (by rw [sizeLine_eq]; omega)
    have e9 : 8 < sizeLine := by rw [sizeLine_eq]; omega
    refine ⟨rfl, ?_⟩
    refine ⟨size2, size2, size2, size2, size2, _, rfl, _, rfl, size2, size2, e3, ?_⟩
    refine ⟨size2, _, rfl, _, rfl, size2, size2, size2, size2, size2, size2, e1, e5, e8, ?_⟩
    refine ⟨.inl ⟨by decide, by decide⟩, .inl ⟨by decide, by decide⟩, size2, size2, e9, ?_⟩
    refine ⟨a, m + 2, _, rfl, W2, by show m + 2 ≤ 1000000000; omega, by simp, by simp, fun x hx w3 W3 => ⟨e1, ?_, ?_, q _ w3 ?_ (W3.mono (by omega))⟩⟩
    · have := cut_len (ps.map prD) none (some r)
      rw [List.length_map] at this
      rw [sizeLine_eq]; show (cutD (ps.map prD) none (some r)).length + 1 ≤ _; omega
    · have := cut_len (ps.map prD) none (some r)
      have h2 := cut_len (ps.map prD) (some (r + 1)) none
      rw [List.length_map] at this h2
      rw [sizeLine_eq]; show (cutD (ps.map prD) none (some r) ++ [x]).length + (cutD (ps.map prD) (some (r + 1)) none).length ≤ _
      rw [List.length_append, List.length_singleton]; omega
    · refine okTh_seq tkl rfl fun y hy => ?_
      have hy : y ∈ (cutD (ps.map prD) none (some r) ++ [x]) ++ cutD (ps.map prD) (some (r + 1)) none := hy
      rcases List.mem_append.mp hy with h | h
      · rcases List.mem_append.mp h with h | h
        · exact okc _ _ y h
        · rw [List.mem_singleton.mp h]
          have pr : p.1.2 * p.2.2 ≤ 10000 * 10000 := Int.mul_le_mul b3 b4 (by omega) (by omega)
          simp only [List.mem_append, List.mem_cons, List.not_mem_nil, or_false] at hx
          rcases hx with (((rfl | rfl | rfl) | (rfl | rfl | rfl | rfl | rfl)) | rfl)
          · exact okY_pr (f := (p.1.1 + p.1.2, p.1.2)) (g := p.2) fun _ _ => by show p.1.2 * p.2.2 < _; omega
          · exact okY_pr (f := (max 0 (p.1.1 - 1), p.1.2)) (g := p.2) fun _ _ => by show p.1.2 * p.2.2 < _; omega
          · exact okY_pr (f := (p.1.1, p.1.2)) (g := (p.2.1 + 1, p.2.2)) fun _ _ => by show p.1.2 * p.2.2 < _; omega
          · exact okY_pr (f := (p.1.1, p.1.2)) (g := (max 0 (p.2.1 - 1), p.2.2)) fun _ _ => by show p.1.2 * p.2.2 < _; omega
          · exact okY_pr (f := (p.1.1, 0)) (g := p.2) fun h _ => (Int.lt_irrefl 0 h).elim
          · refine ⟨⟨tkt, fun xs e y hy => ?_⟩, fun p' hp' => ?_⟩
            · cases e
              rcases List.mem_cons.mp hy with rfl | hy
              · exact ⟨tkt, fun z hz => by
                  rcases List.mem_cons.mp hz with rfl | hz
                  · exact fun h => by cases h
                  · rw [List.mem_singleton.mp hz]; exact tki⟩
              · rw [List.mem_singleton.mp hy]; exact tks_fr p.2
            · cases hp'
          · exact ⟨⟨fun h => (by cases h), fun xs e => (by cases e)⟩, fun p' hp' => (by cases hp')⟩
          · refine ⟨⟨tkt, fun xs e y hy => ?_⟩, fun p' hp' => ?_⟩
            · cases e
              rw [List.mem_singleton.mp hy]; exact tks_fr p.2
            · cases hp'
          · refine okY_pr (f := (2 * p.1.1, 2 * p.1.2)) (g := p.2) fun _ _ => ?_
            show 2 * p.1.2 * p.2.2 < _
            rw [Int.mul_assoc]; omega
      · exact okc _ _ y h
end
end Kz

set_option Elab.async false
set_option linter.all false
set_option autoImplicit false
/-! Plain law: fractions compared, plans kept, the greatest key. -/
namespace Kz
theorem mlt {c x y : Int} (h : 0 < c) : c * x < c * y ↔ x < y := ⟨fun k => Int.lt_of_mul_lt_mul_left k (Int.le_of_lt h), fun k => Int.mul_lt_mul_of_pos_left k h⟩
theorem mle {c x y : Int} (h : 0 < c) : c * x ≤ c * y ↔ x ≤ y := ⟨fun k => Int.le_of_mul_le_mul_left k h, fun k => Int.mul_le_mul_of_nonneg_left k (Int.le_of_lt h)⟩
theorem cmp_low {Na Ma Nb Mb d A B C D E F : Int} (ha : 0 < Ma) (hb : 0 < Mb) (hB : 0 < B) (e1 : A * Mb = Nb * B) (hD : 0 < D) (e2 : C * Ma = Na * D) (hF : 0 < F) (e3 : E * D = (C + d * D) * F) :
    A * F < E * B ↔ ¬ (Na * Mb + d * Mb * Ma ≤ Nb * Ma) := by
  have k1 : 0 < D * Ma * Mb := Int.mul_pos (Int.mul_pos hD ha) hb
  have k2 : 0 < D * F * B := Int.mul_pos (Int.mul_pos hD hF) hB
  rw [← mlt k1, ← mle k2]
  have h1 : D * Ma * Mb * (A * F) = D * F * B * (Nb * Ma) := by grind
  have h2 : D * Ma * Mb * (E * B) = D * F * B * (Na * Mb + d * Mb * Ma) := by
    have : D * Ma * Mb * (E * B) = (E * D) * (B * Ma * Mb) := by grind
    rw [this, e3]
    have : (C + d * D) * F * (B * Ma * Mb) = (C * Ma) * (F * B * Mb) + d * D * F * B * Ma * Mb := by grind
    rw [this, e2]
    grind
  rw [h1, h2]
  omega
theorem beh_of {xa ya pa qa xb yb pb qb B ba bb Ta Tb ka kb d : Int} (hB : 0 < B) (hya : 0 < ya) (hqa : 0 < qa) (hyb : 0 < yb) (hqb : 0 < qb) (e1 : xa * B = ba * ya) (e2 : pa * B = Ta * qa) (e3 : xb * B = bb * yb) (e4 : pb * B = Tb * qb)
    (h : ba + Ta * ka + d * B ≤ bb + Tb * kb) : (xa * qa + pa * ka * ya) * (yb * qb) + d * (yb * qb) * (ya * qa) ≤ (xb * qb + pb * kb * yb) * (ya * qa) := by
  rw [← mle hB]
  have h1 : B * ((xa * qa + pa * ka * ya) * (yb * qb) + d * (yb * qb) * (ya * qa)) = (ya * qa * (yb * qb)) * (ba + Ta * ka + d * B) := by
    have : B * ((xa * qa + pa * ka * ya) * (yb * qb) + d * (yb * qb) * (ya * qa)) = (xa * B) * qa * (yb * qb) + (pa * B) * ka * ya * (yb * qb) + d * B * (yb * qb) * (ya * qa) := by grind
    rw [this, e1, e2]
    grind
  have h2 : B * ((xb * qb + pb * kb * yb) * (ya * qa)) = (ya * qa * (yb * qb)) * (bb + Tb * kb) := by
    have : B * ((xb * qb + pb * kb * yb) * (ya * qa)) = (xb * B) * qb * (ya * qa) + (pb * B) * kb * yb * (ya * qa) := by grind
    rw [this, e3, e4]
    grind
  rw [h1, h2, mle (Int.mul_pos (Int.mul_pos hya hqa) (Int.mul_pos hyb hqb))]
  exact h
theorem pot_step {n : Nat} {ls : List Lk} {w : Lk → Int} {bs : List Int} (P : PotOf n ls w bs) (inn : ∀ l ∈ ls, inN n l) {l : Lk} (hl : l ∈ ls) : gi bs l.a + w l ≤ gi bs l.b := by
  obtain ⟨a0, a1, b0, b1⟩ := inn l hl
  have ga := at_gi (f := bs) a0 (by rw [P.len]; omega)
  have gb := at_gi (f := bs) b0 (by rw [P.len]; omega)
  obtain ⟨p, wp, ep⟩ := P.is _ _ ga
  rw [show ((l.a.toNat : Nat) : Int) = l.a from by omega] at wp
  have := P.most _ _ gb (p ++ [l]) (by rw [show ((l.b.toNat : Nat) : Int) = l.b from by omega]; exact walk_snoc wp hl)
  rw [val_app, val_cons] at this
  have e : val w [] = 0 := rfl
  omega
theorem pot_nn {n : Nat} {ls : List Lk} {w : Lk → Int} {bs : List Int} (P : PotOf n ls w bs) {e : Nat} {x : Int} (h : bs[e]? = some x) : 0 ≤ x := by
  have := P.most _ _ h [] ⟨fun l h => absurd h (by simp), trivial, .inl rfl⟩
  exact this
/-- the key by which the greatest T is chosen -/
def keyF (f : Int × Int) : Int := (f.1 * 5040).fdiv f.2
theorem key_lt {f g : Int × Int} (hf : 0 < f.2) (hf2 : f.2 ≤ 10) (hg : 0 < g.2) (hg2 : g.2 ≤ 10) (h : f.1 * g.2 < g.1 * f.2) : keyF f < keyF g := by
  unfold keyF
  rw [Int.fdiv_eq_ediv_of_nonneg _ (by omega), Int.fdiv_eq_ediv_of_nonneg _ (by omega)]
  have k := Int.ediv_mul_le (f.1 * 5040) (b := f.2) (by omega)
  generalize hk : f.1 * 5040 / f.2 = K at k ⊢
  rw [show K < g.1 * 5040 / g.2 ↔ K + 1 ≤ g.1 * 5040 / g.2 from Int.lt_iff_add_one_le, Int.le_ediv_iff_mul_le hg, ← mle hf]
  have h1 : f.2 * ((K + 1) * g.2) = (K * f.2) * g.2 + f.2 * g.2 := by grind
  have h2 : (K * f.2) * g.2 ≤ (f.1 * 5040) * g.2 := Int.mul_le_mul_of_nonneg_right k (by omega)
  have h3 : (f.1 * 5040) * g.2 = 5040 * (f.1 * g.2) := by grind
  have h4 : f.2 * (g.1 * 5040) = 5040 * (g.1 * f.2) := by grind
  have h5 : f.2 * g.2 ≤ 10 * 10 := Int.mul_le_mul hf2 hg2 (by omega) (by omega)
  rw [h1, h4]
  omega
/-- rings that ask the least, or the greatest: they are there -/
theorem min_ring {S : List Lk → Prop} (v : List Lk → Int) (c : Int) (hv : ∀ r, S r → c ≤ v r) : ∀ (k : Nat) (r : List Lk), S r → (v r - c).toNat ≤ k → ∃ m, S m ∧ ∀ r', S r' → v m ≤ v r'
  | 0, r, hr, hk => ⟨r, hr, fun r' h' => by have := hv r hr; have := hv r' h'; omega⟩
  | k + 1, r, hr, hk => by
    by_cases h : ∃ r', S r' ∧ v r' < v r
    · obtain ⟨r', h', lt⟩ := h
      have := hv r' h'
      exact min_ring v c hv k r' h' (by omega)
    · refine ⟨r, hr, fun r' h' => ?_⟩
      have : ¬ v r' < v r := fun q => h ⟨r', h', q⟩
      omega
end Kz

set_option Elab.async false
set_option linter.all false
set_option autoImplicit false
/-! Plain law: what joins the parts of the law's own run. -/
namespace Kz
open PySem PySem.Spec PyProof.Rows L2
/-! ### nets and distances -/
theorem selfs_in {n : Nat} {l : Lk} (h : l ∈ selfs n) : ∃ e : Nat, e < n ∧ l = ⟨(e : Int), (e : Int), 1, 0⟩ := by
  obtain ⟨e, he, rfl⟩ := List.mem_map.mp h
  exact ⟨e, List.mem_range.mp he, rfl⟩
theorem self_mem {n : Nat} {e : Int} (h0 : 0 ≤ e) (h1 : e < n) : (⟨e, e, 1, 0⟩ : Lk) ∈ selfs n :=
  List.mem_map.mpr ⟨e.toNat, List.mem_range.mpr (by omega), by rw [show ((e.toNat : Nat) : Int) = e from by omega]⟩
theorem netok_of {n : Nat} {arcs dl ls : List Lk} (A : Drawn n arcs) (hl : dl.length ≤ 4) (hd : ∀ l ∈ dl, okK n l ∧ l.t ≤ 2 ∧ l.d ≤ 20)
    (pm : ls.Perm (arcs ++ selfs n ++ dl.map rev)) : NetOk n ls := by
  have n5 := A.n5
  have l6 := A.l6
  have all : ∀ l ∈ ls, inN n l ∧ (-2 ≤ l.t ∧ l.t ≤ 2) ∧ (-20 ≤ l.d ∧ l.d ≤ 20) := fun l h => by
    rcases List.mem_append.mp (pm.mem_iff.mp h) with h | h
    · rcases List.mem_append.mp h with h | h
      · obtain ⟨h0, h1, h2, h3, h4, h5⟩ := A.ok l h
        have := A.t2 l h
        have := A.d9 l h
        exact ⟨⟨h0, h1, h2, h3⟩, ⟨by omega, by omega⟩, ⟨by omega, by omega⟩⟩
      · obtain ⟨e, he, rfl⟩ := selfs_in h
        exact ⟨⟨by show (0 : Int) ≤ (e : Int); omega, by show (e : Int) < (n : Int); omega, by show (0 : Int) ≤ (e : Int); omega, by show (e : Int) < (n : Int); omega⟩, ⟨by show (-2 : Int) ≤ 1; decide, by show (1 : Int) ≤ 2; decide⟩, ⟨by show (-20 : Int) ≤ 0; decide, by show (0 : Int) ≤ 20; decide⟩⟩
    · obtain ⟨m, hm, rfl⟩ := List.mem_map.mp h
      obtain ⟨⟨h0, h1, h2, h3, h4, h5⟩, h6, h7⟩ := hd m hm
      exact ⟨⟨h2, h3, h0, h1⟩, ⟨by show -2 ≤ 0 - m.t; omega, by show 0 - m.t ≤ 2; omega⟩, ⟨by show -20 ≤ 0 - m.d; omega, by show 0 - m.d ≤ 20; omega⟩⟩
  refine ⟨A.n0, n5, ?_, fun l h => (all l h).1, fun l h => (all l h).2.1, fun l h => (all l h).2.2, fun e h0 h1 => pm.mem_iff.mpr (List.mem_append_left _ (List.mem_append_right _ (self_mem h0 h1)))⟩
  rw [pm.length_eq, List.length_append, List.length_append, List.length_map]
  have : (selfs n).length = n := by unfold selfs; rw [List.length_map, List.length_range]
  omega
theorem told_of {n : Nat} {arcs dl nl : List Lk} (A : Drawn n arcs) (pm : nl.Perm (arcs ++ selfs n)) (hl : dl.length ≤ 4) (hd : ∀ l ∈ dl, okK n l ∧ l.t ≤ 2 ∧ l.d ≤ 20) : Told n nl dl :=
  ⟨netok_of A hl hd (pm.append_right _), fun l h => (hd l h).1⟩
theorem mem_all {n : Nat} {arcs dl nl : List Lk} (pm : nl.Perm (arcs ++ selfs n)) (l : Lk) : l ∈ arcs ++ selfs n ++ dl.map rev ↔ l ∈ allL nl dl := (pm.append_right (dl.map rev)).mem_iff.symm
/-! ### pairs and plans -/
theorem gp_pos {n : Nat} {th : D} {ps : List Pr} (h : plOf n th = some ps) : ∀ p ∈ ps, 0 < p.1.2 ∧ 0 < p.2.2 := fun p hp => by
  unfold plOf at h
  split at h
  · split at h
    · rename_i c
      cases h
      obtain ⟨y, hy1, rfl⟩ := List.mem_map.mp hp
      have := List.all_eq_true.mp c.2 y hy1
      cases hpo : pairOf y with
      | none => rw [hpo] at this; cases this
      | some p =>
        obtain ⟨_, _, _, _, _, h1, h2, _⟩ := pair_is hpo
        exact ⟨h1, h2⟩
    · cases h
  · cases h
theorem gp_in {ps : List Pr} {e : Int} : gp ps e ∈ ps ∨ gp ps e = pr0 := by
  unfold gp
  rw [List.getD_eq_getElem?_getD]
  cases h : ps[e.toNat]? with
  | none => exact .inr rfl
  | some p => exact .inl (List.mem_of_getElem? h)
theorem gp_pos' {n : Nat} {th : D} {ps : List Pr} (h : plOf n th = some ps) (e : Int) : 0 < (gp ps e).1.2 ∧ 0 < (gp ps e).2.2 := by
  rcases gp_in (ps := ps) (e := e) with q | q
  · exact gp_pos h _ q
  · rw [q]; exact ⟨by decide, by decide⟩
theorem lowest_one {C D d : Int} {f : Int × Int} (L : Lowest (C * 1 + d * D) (D * 1) f) : f.1 * D = (C + d * D) * f.2 := by
  have := L.eq
  rw [Int.mul_one, Int.mul_one] at this
  exact this
theorem ok_bad {ps : List Pr} {l : Lk} (ha : 0 < (gp ps l.a).1.2 ∧ 0 < (gp ps l.a).2.2) (hb : 0 < (gp ps l.b).1.2 ∧ 0 < (gp ps l.b).2.2) : badL ps l = false ↔ okL ps l 1 := by
  obtain ⟨a1, a2⟩ := ha
  obtain ⟨b1, b2⟩ := hb
  have Ma : 0 < (gp ps l.a).1.2 * (gp ps l.a).2.2 := Int.mul_pos a1 a2
  have Mb : 0 < (gp ps l.b).1.2 * (gp ps l.b).2.2 := Int.mul_pos b1 b2
  unfold badL okL
  rw [Bool.or_eq_false_iff]
  refine and_congr Iff.rfl ?_
  have LB := low_lowest (a := (gp ps l.b).1.1 * (gp ps l.b).2.2 + (gp ps l.b).2.1 * max 0 l.t * (gp ps l.b).1.2) (b := (gp ps l.b).1.2 * (gp ps l.b).2.2) (by omega)
  have LA := low_lowest (a := (gp ps l.a).1.1 * (gp ps l.a).2.2 + (gp ps l.a).2.1 * (max 0 l.t - l.t) * (gp ps l.a).1.2) (b := (gp ps l.a).1.2 * (gp ps l.a).2.2) (by omega)
  have LC := low_lowest (a := (startI (gp ps l.a) (max 0 l.t - l.t)).1 * 1 + l.d * (startI (gp ps l.a) (max 0 l.t - l.t)).2) (b := (startI (gp ps l.a) (max 0 l.t - l.t)).2 * 1) (by have h : 0 < (startI (gp ps l.a) (max 0 l.t - l.t)).2 := LA.pos; omega)
  have key := cmp_low (d := l.d) Ma Mb LB.pos LB.eq LA.pos LA.eq LC.pos (lowest_one LC)
  have e0 : ∀ j : Nat, j < 1 → max 0 l.t + (j : Int) = max 0 l.t := fun j hj => by omega
  constructor
  · intro h j hj
    rw [e0 j hj]
    have h := of_decide_eq_false h
    refine decide_eq_true ?_
    have := Classical.not_not.mp fun c => h (key.mpr c)
    exact this
  · intro h
    have h := h 0 (by decide)
    rw [e0 0 (by decide)] at h
    have h := of_decide_eq_true h
    exact decide_eq_false fun c => key.mp c h
theorem same_bool {n : Nat} {th : D} {ls ms : List Lk} (hm : ∀ l, l ∈ ls ↔ l ∈ ms) : (∃ ps, plOf n th = some ps ∧ ∀ l ∈ ls, badL ps l = false) ↔ ∃ ps, plOf n th = some ps ∧ ∀ l ∈ ms, okL ps l 1 :=
  ⟨fun ⟨ps, h, k⟩ => ⟨ps, h, fun l hl => (ok_bad (gp_pos' h _) (gp_pos' h _)).mp (k l ((hm l).mpr hl))⟩, fun ⟨ps, h, k⟩ => ⟨ps, h, fun l hl => (ok_bad (gp_pos' h _) (gp_pos' h _)).mpr (k l ((hm l).mp hl))⟩⟩
theorem pairOf_pr {p : Pr} (h : 0 < p.1.2 ∧ 0 < p.2.2 ∧ 0 ≤ p.1.1 ∧ 0 ≤ p.2.1) : pairOf (prD p) = some p := by
  obtain ⟨⟨a, b⟩, ⟨c, d⟩⟩ := p
  obtain ⟨h1, h2, h3, h4⟩ := h
  have fr : ∀ {x y : Int}, 0 ≤ x → 0 < y → fracN (frD (x, y)) = some (x, y) := fun {x y} hx hy => by
    have e : frac (frD (x, y)) = some (x, y) := by
      show (if 1 ≤ y then some (x, y) else none) = _
      rw [if_pos (by omega)]
    unfold fracN
    rw [e]
    show (if 0 ≤ x then some (x, y) else none) = _
    rw [if_pos hx]
  show (match fracN (frD (a, b)), fracN (frD (c, d)) with | some f, some g => some (f, g) | _, _ => none) = _
  rw [fr h3 h1, fr h4 h2]
theorem plOf_pr {n : Nat} {ps : List Pr} (hn : ps.length = n) (h : ∀ p ∈ ps, 0 < p.1.2 ∧ 0 < p.2.2 ∧ 0 ≤ p.1.1 ∧ 0 ≤ p.2.1) : plOf n (.lst (ps.map prD)) = some ps := by
  show (if (ps.map prD).length = n ∧ (ps.map prD).all (fun x => (pairOf x).isSome) = true then some ((ps.map prD).map fun x => (pairOf x).getD pr0) else none) = some ps
  rw [if_pos ⟨by rw [List.length_map]; exact hn, List.all_eq_true.mpr fun x hx => by
    obtain ⟨p, hp, rfl⟩ := List.mem_map.mp hx
    rw [pairOf_pr (h p hp)]; rfl⟩, List.map_map]
  refine congrArg some ?_
  rw [List.map_congr_left (g := id) fun p hp => by show (pairOf (prD p)).getD pr0 = p; rw [pairOf_pr (h p hp)]; rfl, List.map_id]
theorem keep_l {ps : List Pr} {l : Lk} {B ba bb Ta Tb : Int} (hB : 0 < B) (ha : 0 < (gp ps l.a).1.2 ∧ 0 < (gp ps l.a).2.2) (hb : 0 < (gp ps l.b).1.2 ∧ 0 < (gp ps l.b).2.2)
    (e1 : (gp ps l.a).1.1 * B = ba * (gp ps l.a).1.2) (e2 : (gp ps l.a).2.1 * B = Ta * (gp ps l.a).2.2)
    (e3 : (gp ps l.b).1.1 * B = bb * (gp ps l.b).1.2) (e4 : (gp ps l.b).2.1 * B = Tb * (gp ps l.b).2.2)
    (ht : Ta ≤ Tb) (h : ba + (l.d * B + Ta * (max 0 l.t - l.t) - Tb * max 0 l.t) ≤ bb) (u : Nat) : okL ps l u := by
  refine ⟨decide_eq_false fun c => ?_, fun j hj => decide_eq_true ?_⟩
  · have c2 := Int.mul_lt_mul_of_pos_right c hB
    have h1 : (gp ps l.b).2.1 * (gp ps l.a).2.2 * B = Tb * ((gp ps l.b).2.2 * (gp ps l.a).2.2) := by
      have : (gp ps l.b).2.1 * (gp ps l.a).2.2 * B = ((gp ps l.b).2.1 * B) * (gp ps l.a).2.2 := by grind
      rw [this, e4]; grind
    have h2 : (gp ps l.a).2.1 * (gp ps l.b).2.2 * B = Ta * ((gp ps l.b).2.2 * (gp ps l.a).2.2) := by
      have : (gp ps l.a).2.1 * (gp ps l.b).2.2 * B = ((gp ps l.a).2.1 * B) * (gp ps l.b).2.2 := by grind
      rw [this, e2]; grind
    rw [h1, h2] at c2
    have := Int.mul_le_mul_of_nonneg_right ht (Int.le_of_lt (Int.mul_pos hb.2 ha.2))
    omega
  · refine beh_of hB ha.1 ha.2 hb.1 hb.2 e1 e2 e3 e4 (d := l.d) ?_
    have hj2 : Ta * (j : Int) ≤ Tb * (j : Int) := Int.mul_le_mul_of_nonneg_right ht (by omega)
    have x1 : Ta * (max 0 l.t + (j : Int) - l.t) = Ta * (max 0 l.t - l.t) + Ta * (j : Int) := by grind
    have x2 : Tb * (max 0 l.t + (j : Int)) = Tb * max 0 l.t + Tb * (j : Int) := by grind
    rw [x1, x2]
    omega
def planPs (B : Int) (fs : List (Int × Int)) (bs : List Int) : List Pr := List.zipWith (fun b f => (low b B, f)) bs fs
theorem planD_eq (fs : List (Int × Int)) (bs : List Int) : planD fs bs = (planPs (botN fs) fs bs).map prD := by
  unfold planD planPs
  rw [List.map_zipWith]; rfl
theorem planPs_at {B : Int} {fs : List (Int × Int)} {bs : List Int} {e : Int} (h0 : 0 ≤ e) (h1 : e < fs.length) (h2 : e < bs.length) : gp (planPs B fs bs) e = (low (gi bs e) B, gf fs e) := by
  unfold gp planPs
  rw [List.getD_eq_getElem?_getD, List.getElem?_zipWith, at_gi h0 h2, gf_at h0 h1]
  rfl
theorem planPs_mem {B : Int} {fs : List (Int × Int)} {bs : List Int} {p : Pr} (h : p ∈ planPs B fs bs) : ∃ b f, b ∈ bs ∧ f ∈ fs ∧ p = (low b B, f) := by
  obtain ⟨i, hi⟩ := List.getElem?_of_mem h
  unfold planPs at hi
  rw [List.getElem?_zipWith] at hi
  cases h1 : bs[i]? with
  | none => rw [h1] at hi; simp at hi
  | some b =>
    cases h2 : fs[i]? with
    | none => rw [h1, h2] at hi; simp at hi
    | some f =>
      rw [h1, h2] at hi
      cases hi
      exact ⟨b, f, List.mem_of_getElem? h1, List.mem_of_getElem? h2, rfl⟩
theorem low_nn {b B : Int} (hb : 0 ≤ b) (hB : 0 < B) : 0 ≤ (low b B).1 := by
  have L := low_lowest (a := b) (b := B) (by omega)
  have := L.eq
  have h2 : 0 ≤ b * (low b B).2 := Int.mul_nonneg hb (Int.le_of_lt L.pos)
  rw [← L.eq] at h2
  exact Int.nonneg_of_mul_nonneg_left h2 hB
end Kz

set_option Elab.async false
set_option linter.all false
set_option autoImplicit false
/-! Plain law: where there are periods, no ring is above; the greatest T. -/
namespace Kz
theorem low_idem {a b : Int} {f : Int × Int} (L : Lowest a b f) : low f.1 f.2 = f := by
  have M := low_lowest (a := f.1) (b := f.2) (by have := L.pos; omega)
  exact lowest_unique M.pos L.pos M.cop L.cop M.eq
/-- a number that stands for what a ring asks -/
def askN (r : List Lk) : Int := (asks r).1 * (2520 / (asks r).2)
theorem askN_mul {n : Nat} {ls r : List Lk} (N : NetOk n ls) (h : Ring ls r) (ht : tokS r ≠ 0) : askN r * (asks r).2 = (asks r).1 * 2520 := by
  obtain ⟨h1, h2, _⟩ := N.asks h ht
  unfold askN
  have d : (asks r).2 ∣ 2520 := by
    have := dvd2520 (d := (asks r).2.toNat) (by omega) (by omega)
    have h3 : ((asks r).2.toNat : Int) = (asks r).2 := by omega
    rw [← h3]
    exact Int.ofNat_dvd.mpr this
  rw [Int.mul_assoc, Int.ediv_mul_cancel d]
theorem askN_lt {n : Nat} {ls r q : List Lk} (N : NetOk n ls) (h : Ring ls r) (ht : tokS r ≠ 0) (k : Ring ls q) (kt : tokS q ≠ 0) : below (asks r) (asks q) = true → askN r < askN q := fun c => by
  have c := of_decide_eq_true c
  have r2 := (N.asks h ht).1
  have q2 := (N.asks k kt).1
  have e1 := askN_mul N h ht
  have e2 := askN_mul N k kt
  have : 0 < (asks r).2 * (asks q).2 := Int.mul_pos r2 q2
  rw [← mlt this]
  have x1 : (asks r).2 * (asks q).2 * askN r = (askN r * (asks r).2) * (asks q).2 := by grind
  have x2 : (asks r).2 * (asks q).2 * askN q = (askN q * (asks q).2) * (asks r).2 := by grind
  rw [x1, x2, e1, e2]
  have y1 : (asks r).1 * 2520 * (asks q).2 = 2520 * ((asks r).1 * (asks q).2) := by grind
  have y2 : (asks q).1 * 2520 * (asks r).2 = 2520 * ((asks q).1 * (asks r).2) := by grind
  rw [y1, y2]
  omega
theorem askN_bd {n : Nat} {ls r : List Lk} (N : NetOk n ls) (h : Ring ls r) (ht : tokS r ≠ 0) : -300000 ≤ askN r ∧ askN r ≤ 300000 := by
  obtain ⟨h1, h2, h3, h4⟩ := N.asks h ht
  have q0 : 0 ≤ 2520 / (asks r).2 := Int.ediv_nonneg (by decide) (by omega)
  have q1 : 2520 / (asks r).2 ≤ 2520 := Int.ediv_le_self _ (by decide)
  unfold askN
  have a1 := Int.mul_le_mul_of_nonneg_right h4 q0
  have a2 := Int.mul_le_mul_of_nonneg_right h3 q0
  omega
theorem top_is {n : Nat} {ls : List Lk} (N : NetOk n ls) : ∃ lo, BstP (TopS ls) (some lo) := by
  obtain ⟨m, hm, h⟩ := min_ring (S := TopS ls) (fun r => 0 - askN r) (-300000) (fun r ⟨h, t⟩ => by have := askN_bd N h (by omega); omega) _ [⟨0, 0, 1, 0⟩] ⟨self_ring (N.self 0 (by omega) (by have := N.n0; omega)), by decide⟩ (Nat.le_refl _)
  refine ⟨m, hm, fun r' h' => ?_⟩
  cases c : below (asks m) (asks r') with
  | false => rfl
  | true =>
    have := askN_lt N hm.1 (by have := hm.2; omega) h'.1 (by have := h'.2; omega) c
    have h2 := h r' h'
    omega
theorem bot_is {n : Nat} {ls r : List Lk} (N : NetOk n ls) (hr : BotS ls r) : ∃ up, MinP (BotS ls) (some up) := by
  obtain ⟨m, hm, h⟩ := min_ring (S := BotS ls) askN (-300000) (fun r ⟨h, t⟩ => (askN_bd N h (by omega)).1) _ r hr (Nat.le_refl _)
  refine ⟨m, hm, fun r' h' => ?_⟩
  cases c : below (asks r') (asks m) with
  | false => rfl
  | true =>
    have := askN_lt N h'.1 (by have := h'.2; omega) hm.1 (by have := hm.2; omega) c
    have h2 := h r' h'
    omega
section
variable {n : Nat} {ls lo : List Lk}
theorem per_bot (N : NetOk n ls) (E : ¬ PerEmpty ls) (L : BstP (TopS ls) (some lo)) {r : List Lk} (hr : Ring ls r) (ht : tokS r < 0) : below (asks r) (asks lo) = false := by
  obtain ⟨up, hu⟩ := bot_is N ⟨hr, ht⟩
  have h1 : below (asks up) (asks lo) = false := by
    cases c : below (asks up) (asks lo) with
    | false => rfl
    | true => exact (E (.inr ⟨lo, up, L, hu, c⟩)).elim
  have h2 := hu.2 r ⟨hr, ht⟩
  exact below_trans (asks_pos (by have := L.1.2; omega)) (asks_pos (by have := hu.1.2; omega)) (asks_pos (by omega)) h1 h2
theorem per_clash (N : NetOk n ls) (E : ¬ PerEmpty ls) : ¬ Clash ls := fun C => by
  obtain ⟨lo, L⟩ := top_is N
  rcases C with h | ⟨r, q, hr, ht, hq, c⟩
  · exact E (.inl h)
  · have h1 := per_bot N E L hr ht
    have h2 := L.2 q ⟨hq.1.1, hq.1.2.1⟩
    have := below_trans (asks_pos (by have := hq.1.2.1; omega)) (asks_pos (by have := L.1.2; omega)) (asks_pos (by omega)) h2 h1
    rw [c] at this
    cases this
theorem lo_bd (N : NetOk n ls) (L : BstP (TopS ls) (some lo)) : 0 ≤ (asks lo).1 ∧ (asks lo).1 ≤ 100 ∧ 0 < (asks lo).2 ∧ (asks lo).2 ≤ 10 ∧ low (asks lo).1 (asks lo).2 = asks lo := by
  have t := L.1.2
  obtain ⟨h1, h2, h3, h4⟩ := N.asks L.1.1 (by omega)
  refine ⟨?_, h4, h1, h2, low_idem (low_lowest (by omega))⟩
  have h := L.2 [⟨0, 0, 1, 0⟩] ⟨self_ring (N.self 0 (by omega) (by have := N.n0; omega)), by decide⟩
  have h := of_decide_eq_false h
  have e : asks [⟨0, 0, 1, 0⟩] = (0, 1) := by decide
  rw [e] at h
  simp only at h
  omega
theorem per_val (N : NetOk n ls) (E : ¬ PerEmpty ls) (L : BstP (TopS ls) (some lo)) {r : List Lk} (hr : Ring ls r) : tikS r * (asks lo).2 - tokS r * (asks lo).1 ≤ 0 := by
  obtain ⟨f0, f1, f2, f3, _⟩ := lo_bd N L
  rcases Int.lt_trichotomy (tokS r) 0 with ht | ht | ht
  · have hp := asks_pos (r := r) (by omega)
    have c := of_decide_eq_false (per_bot N E L hr ht)
    have e : (asks r).1 * tokS r = tikS r * (asks r).2 := (low_lowest (by omega)).eq
    have c2 : (asks lo).1 * (asks r).2 ≤ (asks r).1 * (asks lo).2 := by omega
    have c3 := Int.mul_le_mul_of_nonpos_right c2 (Int.le_of_lt ht)
    have x1 : (asks r).1 * (asks lo).2 * tokS r = ((asks r).1 * tokS r) * (asks lo).2 := by grind
    rw [x1, e] at c3
    have x2 : (asks r).2 * (tikS r * (asks lo).2) ≤ (asks r).2 * (tokS r * (asks lo).1) := by grind
    rw [mle hp] at x2
    omega
  · rw [ht]
    have : tikS r ≤ 0 := by
      by_cases c : 0 < tikS r
      · exact (E (.inl ⟨r, hr, ht, c⟩)).elim
      · omega
    have := Int.mul_le_mul_of_nonneg_right this (Int.le_of_lt f2)
    omega
  · have hp := asks_pos (r := r) (by omega)
    have c := of_decide_eq_false (L.2 r ⟨hr, ht⟩)
    have e : (asks r).1 * tokS r = tikS r * (asks r).2 := (low_lowest (by omega)).eq
    have c2 : (asks r).1 * (asks lo).2 ≤ (asks lo).1 * (asks r).2 := by omega
    have c3 := Int.mul_le_mul_of_nonneg_right c2 (Int.le_of_lt ht)
    have x1 : (asks r).1 * (asks lo).2 * tokS r = ((asks r).1 * tokS r) * (asks lo).2 := by grind
    rw [x1, e] at c3
    have x2 : (asks r).2 * (tikS r * (asks lo).2) ≤ (asks r).2 * (tokS r * (asks lo).1) := by grind
    rw [mle hp] at x2
    omega
/-- the greatest of what the events ask -/
theorem key_top {fs : List (Int × Int)} (N : NetOk n ls) (F : LowsOf n ls fs) (L : BstP (TopS ls) (some lo)) {f : Int × Int} (hf : f ∈ fs) (h : ∀ g ∈ fs, keyF g ≤ keyF f) : f = asks lo := by
  obtain ⟨f1, f2, f3, f4⟩ := rates_ok N F f hf
  obtain ⟨e, he⟩ := List.getElem?_of_mem hf
  obtain ⟨q, bq, eq⟩ := F.at_ e f he
  have t := L.1.2
  obtain ⟨g, hlo⟩ := L.1.1
  have R : Ring ls lo := L.1.1
  obtain ⟨l, rest, hl, hla⟩ := hlo.1.head
  have inl : inN n l := N.inn l (hlo.1.sub l (by rw [hl]; exact List.mem_cons_self ..))
  have lead : LeadS ls l.a lo := ⟨R, t, .base (by rw [hl]; exact List.mem_cons_self ..)⟩
  have hlt : l.a.toNat < fs.length := by rw [F.len]; obtain ⟨i0, i1, _⟩ := inl; omega
  obtain ⟨q0, bq0, eq0⟩ := F.at_ l.a.toNat _ (List.getElem?_eq_getElem hlt)
  rw [show ((l.a.toNat : Nat) : Int) = l.a from by obtain ⟨i0, _⟩ := inl; omega] at bq0
  have hg : fs[l.a.toNat] ∈ fs := List.getElem_mem hlt
  obtain ⟨g1, g2, _⟩ := rates_ok N F _ hg
  have up : below fs[l.a.toNat] (asks lo) = false := by rw [eq0]; exact bq0.2 lo lead
  have dn : below (asks lo) f = false := by rw [eq]; exact L.2 q ⟨bq.1.1, bq.1.2.1⟩
  have lop : 0 < (asks lo).2 := asks_pos (by omega)
  have dn2 := of_decide_eq_false dn
  have nlt : ¬ f.1 * (asks lo).2 < (asks lo).1 * f.2 := fun c => by
    have c2 : f.1 * (fs[l.a.toNat]).2 < (fs[l.a.toNat]).1 * f.2 := by
      have up2 := of_decide_eq_false up
      have u : (asks lo).1 * (fs[l.a.toNat]).2 ≤ (fs[l.a.toNat]).1 * (asks lo).2 := by omega
      rw [← mlt lop]
      have a1 := Int.mul_lt_mul_of_pos_right c g1
      have a2 := Int.mul_le_mul_of_nonneg_right u (Int.le_of_lt f1)
      grind
    have := key_lt f1 f2 g1 g2 c2
    have := h _ hg
    omega
  have Lq := low_lowest (a := tikS q) (b := tokS q) (by have := bq.1.2.1; omega)
  have Llo := low_lowest (a := tikS lo) (b := tokS lo) (by omega)
  refine lowest_unique f1 lop ?_ Llo.cop (by omega)
  rw [eq]
  exact Lq.cop
theorem lo_in {fs : List (Int × Int)} (N : NetOk n ls) (F : LowsOf n ls fs) : fs ≠ [] := fun h => by
  have e := F.len
  rw [h, List.length_nil] at e
  have := N.n0
  omega
end
/-! ### how great potentials are -/
theorem val_bd {w : Lk → Int} {c : Int} (hc : 0 ≤ c) : ∀ {p : List Lk}, (∀ l ∈ p, w l ≤ c) → val w p ≤ c * p.length
  | [], _ => by show (0 : Int) ≤ _; simp
  | l :: p, h => by
    have h1 := h l (List.mem_cons_self ..)
    have h2 := val_bd hc (p := p) fun m hm => h m (List.mem_cons_of_mem _ hm)
    rw [val_cons, List.length_cons]
    have : c * ((p.length + 1 : Nat) : Int) = c * p.length + c := by push_cast; grind
    omega
theorem pot_bd {n : Nat} {ls : List Lk} {w : Lk → Int} {bs : List Int} {c : Int} (P : PotOf n ls w bs) (n0 : 0 < n) (n5 : n ≤ 5) (inn : ∀ l ∈ ls, inN n l) (R : ∀ r, Ring ls r → val w r ≤ 0) (hc : 0 ≤ c) (hw : ∀ l ∈ ls, w l ≤ c) :
    ∀ b ∈ bs, 0 ≤ b ∧ b ≤ 5 * c := fun b hb => by
  obtain ⟨e, he⟩ := List.getElem?_of_mem hb
  obtain ⟨p, wp, ep⟩ := P.is e b he
  obtain ⟨q, wq, lq, vq⟩ := short n0 inn R _ p _ (Nat.le_refl _) wp
  have := val_bd hc (p := q) fun l hl => hw l (wq.sub l hl)
  have h2 : c * (q.length : Int) ≤ c * 5 := Int.mul_le_mul_of_nonneg_left (by omega) hc
  refine ⟨pot_nn P he, by omega⟩
theorem w_bd {n : Nat} {ls : List Lk} {fs : List (Int × Int)} (N : NetOk n ls) (L : LowsOf n ls fs) : ∀ l ∈ ls, wOf fs l ≤ 1000000 := fun l hl => by
  obtain ⟨a0, a1, b0, b1⟩ := N.inn l hl
  obtain ⟨t0, t1⟩ := N.tb l hl
  obtain ⟨d0, d1⟩ := N.db l hl
  have rk := rates_ok N L
  obtain ⟨p0, p1, _⟩ := bot_ok fun f hf => ⟨(rk f hf).1, (rk f hf).2.1⟩
  have tb : ∀ e : Int, 0 ≤ e → e < n → -252000 ≤ topI fs e ∧ topI fs e ≤ 252000 := fun e h0 h1 => by
    have hm := topI_mul (fs := fs) (e := e) (fun f hf => ⟨(rk f hf).1, (rk f hf).2.1⟩) h0 (by rw [L.len]; exact h1)
    obtain ⟨g1, g2, g3, g4⟩ := rk (gf fs e) (List.mem_of_getElem? (gf_at h0 (by rw [L.len]; exact h1)))
    have x1 := Int.mul_le_mul_of_nonneg_right g4 (show (0 : Int) ≤ (botN fs : Int) by omega)
    have x2 := Int.mul_le_mul_of_nonneg_right g3 (show (0 : Int) ≤ (botN fs : Int) by omega)
    rw [← hm] at x1 x2
    constructor
    · by_cases c : -252000 ≤ topI fs e
      · exact c
      · have : topI fs e * (gf fs e).2 ≤ topI fs e * 1 := Int.mul_le_mul_of_nonpos_left (by omega) (by omega)
        omega
    · by_cases c : topI fs e ≤ 252000
      · exact c
      · have : topI fs e * 1 ≤ topI fs e * (gf fs e).2 := Int.mul_le_mul_of_nonneg_left (by omega) (by omega)
        omega
  obtain ⟨A0, A1⟩ := tb l.a a0 a1
  obtain ⟨B0, B1⟩ := tb l.b b0 b1
  unfold wOf
  have y1 : l.d * (botN fs : Int) ≤ 20 * (botN fs : Int) := Int.mul_le_mul_of_nonneg_right d1 (by omega)
  have y2 : topI fs l.a * (max 0 l.t - l.t) ≤ 252000 * (max 0 l.t - l.t) := Int.mul_le_mul_of_nonneg_right A1 (by omega)
  have y3 : -252000 * max 0 l.t ≤ topI fs l.b * max 0 l.t := Int.mul_le_mul_of_nonneg_right B0 (by omega)
  omega
end Kz

set_option Elab.async false
set_option linter.all false
set_option autoImplicit false
/-! Plain law: data whose text is short; the same with lists for tuples. -/
namespace Kz
open PySem PySem.Spec PyProof.Rows L2
def bigD : Nat → D → Prop
  | 0, _ => False
  | _ + 1, .int i => i.natAbs < 10 ^ 12
  | n + 1, .lst xs => xs.length ≤ 5 ∧ ∀ x ∈ xs, bigD n x
  | n + 1, .tup xs => xs.length ≤ 5 ∧ ∀ x ∈ xs, bigD n x
  | _ + 1, _ => False
def wB : Nat → Nat
  | 0 => 0
  | n + 1 => 5 * (wB n + 1) + 41
structure RepOk (k m : Nat) (d : D) : Prop where
  p : isP d = true
  s : (toP d).showable = true
  c : (toP d).canLay0 = true
  i : (toP d).intsShort 13 = true
  dp : (toP d).depth ≤ k
  w : (toP d).weight ≤ m
theorem reps {k m : Nat} : ∀ {xs : List D}, (∀ x ∈ xs, RepOk k m x) → isPs xs = true ∧ PyData.showableAll (toPs xs) = true ∧ PyData.canLayAll0 (toPs xs) = true ∧ PyData.intsShortAll 13 (toPs xs) = true ∧ PyData.depthAll (toPs xs) ≤ k ∧ PyData.weightAll (toPs xs) ≤ xs.length * (m + 1)
  | [], _ => ⟨rfl, rfl, rfl, rfl, Nat.zero_le _, Nat.zero_le _⟩
  | x :: xs, h => by
    obtain ⟨h1, h2, h3, h4, h5, h6⟩ := h x (List.mem_cons_self ..)
    obtain ⟨k1, k2, k3, k4, k5, k6⟩ := reps (xs := xs) fun y hy => h y (List.mem_cons_of_mem _ hy)
    refine ⟨?_, ?_, ?_, ?_, ?_, ?_⟩
    · show (isP x && isPs xs) = true
      rw [h1, k1]; rfl
    · show (PyData.showable (toP x) && PyData.showableAll (toPs xs)) = true
      rw [h2, k2]; rfl
    · show (PyData.canLay0 (toP x) && PyData.canLayAll0 (toPs xs)) = true
      rw [h3, k3]; rfl
    · show (PyData.intsShort 13 (toP x) && PyData.intsShortAll 13 (toPs xs)) = true
      rw [h4, k4]; rfl
    · show max (toP x).depth (PyData.depthAll (toPs xs)) ≤ k
      omega
    · show (toP x).weight + 1 + PyData.weightAll (toPs xs) ≤ (xs.length + 1) * (m + 1)
      rw [Nat.succ_mul]
      omega
theorem rep_int {i : Int} {k m : Nat} (h : i.natAbs < 10 ^ 12) (hm : 41 ≤ m) : RepOk k m (.int i) := by
  have lt : i.natAbs.log2 < 40 := by
    by_cases c : i.natAbs = 0
    · rw [c]; decide
    · rw [Nat.log2_lt c]
      exact Nat.lt_trans h (by decide)
  refine ⟨rfl, decide_eq_true (by show i.natAbs.log2 < 1920; omega), rfl, ?_, Nat.zero_le _, ?_⟩
  · have := PyData.intsShortAll_ints [i] fun n hn => by rw [List.mem_singleton.mp hn]; exact h
    have e : (PyData.intsShort 13 (.int i) && true) = true := this
    rw [Bool.and_true] at e
    exact e
  · show (if i == 0 then 0 else i.natAbs.log2 + 1) ≤ m
    split <;> omega
theorem big_rep : ∀ (n : Nat) (d : D), bigD n d → RepOk n (wB n) d
  | 0, d, h => h.elim
  | n + 1, d, h => by
    have key : ∀ xs : List D, xs.length ≤ 5 → (∀ x ∈ xs, bigD n x) → RepOk (n + 1) (wB (n + 1)) (.lst xs) ∧ RepOk (n + 1) (wB (n + 1)) (.tup xs) := fun xs hl hx => by
      obtain ⟨k1, k2, k3, k4, k5, k6⟩ := reps (xs := xs) fun x hx2 => big_rep n x (hx x hx2)
      have hw : xs.length * (wB n + 1) ≤ 5 * (wB n + 1) := Nat.mul_le_mul_right _ hl
      have kw : PyData.weightAll (toPs xs) ≤ 5 * (wB n + 1) + 41 := by omega
      exact ⟨⟨k1, k2, k3, k4, Nat.succ_le_succ k5, kw⟩, ⟨k1, k2, k3, k4, Nat.succ_le_succ k5, kw⟩⟩
    cases d with
    | int i => exact rep_int h (by show 41 ≤ 5 * (wB n + 1) + 41; omega)
    | lst xs => exact (key xs h.1 h.2).1
    | tup xs => exact (key xs h.1 h.2).2
    | _ => exact h.elim
theorem wB7 {n : Nat} (h : n ≤ 6) : wB n ≤ 1048576 := by
  have : n = 0 ∨ n = 1 ∨ n = 2 ∨ n = 3 ∨ n = 4 ∨ n = 5 ∨ n = 6 := by omega
  rcases this with rfl | rfl | rfl | rfl | rfl | rfl | rfl <;> decide
theorem big_repr {n : Nat} {d : D} (hn : n ≤ 6) (hs : isSeq d = true) (h : bigD n d) : isSeq d = true ∧ isP d = true ∧ (toP d).showable = true ∧ (toP d).hasDict = false ∧ (toP d).depth ≤ 64 ∧ (toP d).shown.length ≤ sizeLine := by
  obtain ⟨h1, h2, h3, h4, h5, h6⟩ := big_rep n d h
  have w := wB7 hn
  have lay : PyData.layable0 (toP d) = true := by
    unfold PyData.layable0
    rw [h3, decide_eq_true (by omega : (toP d).depth ≤ 64), decide_eq_true (Nat.le_trans h6 w)]; rfl
  exact ⟨hs, h1, h2, PyData.hasDict_of_canLay _ h3, by omega, PyData.shown_fits_of_layable0 (by decide) (by decide) lay h4⟩
theorem LooseA.get : ∀ {xs ys : List D}, LooseA xs ys → xs.length = ys.length ∧ ∀ (i : Nat) y, ys[i]? = some y → ∃ x, xs[i]? = some x ∧ Loose x y
  | [], ys, h => by
    unfold LooseA at h
    subst h
    exact ⟨rfl, fun i y e => by simp at e⟩
  | x :: xs, ys, h => by
    unfold LooseA at h
    obtain ⟨y, r, rfl, h1, h2⟩ := h
    obtain ⟨l, g⟩ := LooseA.get h2
    refine ⟨by rw [List.length_cons, List.length_cons, l], fun i u e => ?_⟩
    cases i with
    | zero => simp at e; subst e; exact ⟨x, rfl, h1⟩
    | succ i => exact g i u (by simpa using e)
theorem big_loose : ∀ (n : Nat) (d d' : D), Loose d d' → bigD n d → bigD n d'
  | 0, _, _, _, h => h.elim
  | n + 1, d, d', l, h => by
    have key : ∀ xs ys : List D, LooseA xs ys → (xs.length ≤ 5 ∧ ∀ x ∈ xs, bigD n x) → ys.length ≤ 5 ∧ ∀ y ∈ ys, bigD n y := fun xs ys ha ⟨hl, hx⟩ => by
      obtain ⟨e, g⟩ := ha.get
      refine ⟨by omega, fun y hy => ?_⟩
      obtain ⟨i, hi⟩ := List.getElem?_of_mem hy
      obtain ⟨x, hx1, hx2⟩ := g i y hi
      exact big_loose n x y hx2 (hx x (List.mem_of_getElem? hx1))
    cases d with
    | int i => unfold Loose at l; subst l; exact h
    | lst xs =>
      unfold Loose at l
      obtain ⟨ys, rfl | rfl, ha⟩ := l
      · exact key xs ys ha h
      · exact key xs ys ha h
    | tup xs =>
      unfold Loose at l
      obtain ⟨ys, rfl | rfl, ha⟩ := l
      · exact key xs ys ha h
      · exact key xs ys ha h
    | _ => exact h.elim
theorem loose_seq {xs : List D} {d : D} (h : Loose (.lst xs) d) : isSeq d = true := by
  unfold Loose at h
  obtain ⟨ys, rfl | rfl, _⟩ := h <;> rfl
theorem big_looseD : ∀ (n : Nat) (d : D), bigD n d → looseD n d
  | 0, _, h => h.elim
  | n + 1, d, h => by
    cases d with
    | int i => exact True.intro
    | lst xs => exact ⟨h.1, fun x hx => big_looseD n x (h.2 x hx)⟩
    | tup xs => exact ⟨h.1, fun x hx => big_looseD n x (h.2 x hx)⟩
    | _ => exact h.elim
theorem big_same : ∀ (n : Nat) (d : D), bigD n d → sameD n d
  | 0, _, h => h.elim
  | n + 1, d, h => by
    cases d with
    | int i => exact True.intro
    | lst xs => exact ⟨by have := h.1; omega, fun x hx => big_same n x (h.2 x hx)⟩
    | tup xs => exact ⟨by have := h.1; omega, fun x hx => big_same n x (h.2 x hx)⟩
    | _ => exact h.elim
theorem loose_two {a b y : D} (h : LooseA [a, b] [y]) : False := by
  have := h.get.1
  simp at this
theorem loose_i2 {i j : Int} {y : D} (h : Loose (.tup [.int i, .int j]) y) : isF y (i, j) := by
  unfold Loose at h
  obtain ⟨ys, e, ha⟩ := h
  unfold LooseA at ha
  obtain ⟨y1, r, rfl, l1, ha⟩ := ha
  unfold LooseA at ha
  obtain ⟨y2, r, rfl, l2, ha⟩ := ha
  unfold LooseA at ha
  unfold Loose at l1 l2
  subst ha l1 l2
  exact e
theorem loose_lk {l : Lk} {y : D} (h : Loose (lkD l) y) : isK y l := by
  unfold lkD Loose at h
  obtain ⟨ys, e, ha⟩ := h
  unfold LooseA at ha
  obtain ⟨y1, r, rfl, l1, ha⟩ := ha
  unfold LooseA at ha
  obtain ⟨y2, r, rfl, l2, ha⟩ := ha
  unfold LooseA at ha
  obtain ⟨y3, r, rfl, l3, ha⟩ := ha
  unfold LooseA at ha
  obtain ⟨y4, r, rfl, l4, ha⟩ := ha
  unfold LooseA at ha
  unfold Loose at l1 l2 l3 l4
  subst ha l1 l2 l3 l4
  exact e
theorem isDs_of {dl : List Lk} {g : D} (h : Loose (.lst (dl.map lkD)) g) : isDs g dl := by
  unfold Loose at h
  obtain ⟨ys, e, ha⟩ := h
  obtain ⟨hl, hg⟩ := ha.get
  refine ⟨ys, e, by rw [← hl, List.length_map], fun i d hd => ?_⟩
  obtain ⟨x, hx, lx⟩ := hg i d hd
  obtain ⟨l, hl2, rfl⟩ := gmap hx
  exact ⟨l, hl2, loose_lk lx⟩
theorem isDs_self (dl : List Lk) : isDs (.lst (dl.map lkD)) dl := ⟨_, .inl rfl, by rw [List.length_map], fun i d hd => by
  obtain ⟨l, hl, rfl⟩ := gmap hd
  exact ⟨l, hl, .inr rfl⟩⟩
theorem isF_inj {d : D} {f g : Int × Int} (h : isF d f) (k : isF d g) : f = g := by
  obtain ⟨a, b⟩ := f
  obtain ⟨c, e⟩ := g
  rcases h with rfl | rfl <;> rcases k with k | k <;> cases k <;> rfl
theorem els_is2 {d x y : D} (h : is2 d x y) : els d = some [x, y] := by rcases h with rfl | rfl <;> rfl
theorem okY_two {y u v : D} {p : Pr} (h : is2 y u v) (hu : isF u p.1) (hv : isF v p.2) (hp : p.1.2 * p.2.2 < 1073741824) : okY y := by
  have e := els_is2 h
  have tkF : ∀ {x : D} {f : Int × Int}, isF x f → tks x := fun {x f} hx => by
    have in2 : ∀ z ∈ [D.int f.1, D.int f.2], tk z := fun z hz => by
      rcases List.mem_cons.mp hz with rfl | hz
      · exact tki
      · rw [List.mem_singleton.mp hz]; exact tki
    rcases hx with rfl | rfl
    · exact ⟨tkl, in2⟩
    · exact ⟨tkt, in2⟩
  refine ⟨⟨by rcases h with rfl | rfl; exact tkl; exact tkt, fun xs hx x hm => ?_⟩, fun q hq => ?_⟩
  · rw [e] at hx
    cases hx
    rcases List.mem_cons.mp hm with rfl | hm
    · exact tkF hu
    · rw [List.mem_singleton.mp hm]; exact tkF hv
  · obtain ⟨x1, y1, h2, f1, f2, _⟩ := pair_is hq
    have e2 := els_is2 h2
    rw [e] at e2
    cases e2
    rw [← isF_inj hu f1, ← isF_inj hv f2]
    exact hp
theorem loose_pr {p : Pr} {y : D} (h : Loose (prD p) y) (hp : p.1.2 * p.2.2 < 1073741824) : okY y := by
  unfold prD Loose at h
  obtain ⟨ys, e, ha⟩ := h
  unfold LooseA at ha
  obtain ⟨y1, r, rfl, l1, ha⟩ := ha
  unfold LooseA at ha
  obtain ⟨y2, r, rfl, l2, ha⟩ := ha
  unfold LooseA at ha
  subst ha
  exact okY_two e (loose_i2 l1) (loose_i2 l2) hp
theorem okTh_loose {ps : List Pr} {th : D} (h : Loose (.lst (ps.map prD)) th) (hp : ∀ p ∈ ps, p.1.2 * p.2.2 < 1073741824) : okTh th := by
  unfold Loose at h
  obtain ⟨ys, e, ha⟩ := h
  obtain ⟨hl, hg⟩ := ha.get
  have hy : ∀ y ∈ ys, okY y := fun y hy => by
    obtain ⟨i, hi⟩ := List.getElem?_of_mem hy
    obtain ⟨x, hx, lx⟩ := hg i y hi
    obtain ⟨p, hp2, rfl⟩ := gmap hx
    exact loose_pr lx (hp p (List.mem_of_getElem? hp2))
  rcases e with rfl | rfl
  · exact okTh_seq tkl rfl hy
  · exact okTh_seq tkt rfl hy
theorem okTh_prs {ps : List Pr} (hp : ∀ p ∈ ps, p.1.2 * p.2.2 < 1073741824) : okTh (.lst (ps.map prD)) := okTh_seq tkl rfl fun y hy => by
  obtain ⟨p, hp2, rfl⟩ := List.mem_map.mp hy
  exact okY_two (.inr rfl) (isF_frD p.1) (isF_frD p.2) (hp p hp2)
/-! ### the sizes -/
theorem big_i {n : Nat} {i : Int} (h : -1000000000 ≤ i) (h2 : i ≤ 1000000000) : bigD (n + 1) (.int i) := by
  show i.natAbs < 10 ^ 12
  have : (10 : Nat) ^ 12 = 1000000000000 := by decide
  omega
theorem big_fr {n : Nat} {f : Int × Int} (h : -1000000000 ≤ f.1 ∧ f.1 ≤ 1000000000) (h2 : -1000000000 ≤ f.2 ∧ f.2 ≤ 1000000000) : bigD (n + 2) (frD f) := ⟨by show 2 ≤ 5; decide, fun x hx => by
  rcases List.mem_cons.mp hx with rfl | hx
  · exact big_i h.1 h.2
  · rw [List.mem_singleton.mp hx]; exact big_i h2.1 h2.2⟩
theorem big_lks {m n : Nat} {dl : List Lk} (hl : dl.length ≤ 4) (hn : n ≤ 5) (h : ∀ l ∈ dl, okK n l ∧ l.t ≤ 2 ∧ l.d ≤ 20) : bigD (m + 3) (.lst (dl.map lkD)) := ⟨by rw [List.length_map]; omega, fun x hx => by
  obtain ⟨l, hl2, rfl⟩ := List.mem_map.mp hx
  obtain ⟨⟨h0, h1, h2, h3, h4, h5⟩, h6, h7⟩ := h l hl2
  refine ⟨by show 4 ≤ 5; decide, fun y hy => ?_⟩
  simp only [List.mem_cons, List.not_mem_nil, or_false] at hy
  rcases hy with rfl | rfl | rfl | rfl <;> exact big_i (by omega) (by omega)⟩
theorem big_prs {m : Nat} {ps : List Pr} (hl : ps.length ≤ 5) (h : ∀ p ∈ ps, (-1000000000 ≤ p.1.1 ∧ p.1.1 ≤ 1000000000) ∧ (-1000000000 ≤ p.1.2 ∧ p.1.2 ≤ 1000000000) ∧ (-1000000000 ≤ p.2.1 ∧ p.2.1 ≤ 1000000000) ∧ (-1000000000 ≤ p.2.2 ∧ p.2.2 ≤ 1000000000)) : bigD (m + 4) (.lst (ps.map prD)) := ⟨by rw [List.length_map]; omega, fun x hx => by
  obtain ⟨p, hp, rfl⟩ := List.mem_map.mp hx
  obtain ⟨h1, h2, h3, h4⟩ := h p hp
  refine ⟨by show 2 ≤ 5; decide, fun y hy => ?_⟩
  rcases List.mem_cons.mp hy with rfl | hy
  · exact big_fr h1 h2
  · rw [List.mem_singleton.mp hy]; exact big_fr h3 h4⟩
theorem big_frs {m : Nat} {fs : List (Int × Int)} (hl : fs.length ≤ 5) (h : ∀ f ∈ fs, (-1000000000 ≤ f.1 ∧ f.1 ≤ 1000000000) ∧ (-1000000000 ≤ f.2 ∧ f.2 ≤ 1000000000)) : bigD (m + 3) (.lst (fs.map frD)) := ⟨by rw [List.length_map]; omega, fun x hx => by
  obtain ⟨f, hf, rfl⟩ := List.mem_map.mp hx
  exact big_fr (h f hf).1 (h f hf).2⟩
end Kz

set_option Elab.async false
set_option linter.all false
set_option autoImplicit false
/-! Plain law: own plans and plans of periods keep all links. -/
namespace Kz
open PySem PySem.Spec PyProof.Rows L2
structure PlanOk (n : Nat) (ms : List Lk) (ps : List Pr) : Prop where
  len : ps.length = n
  bd : ∀ p ∈ ps, (0 < p.1.2 ∧ p.1.2 ≤ 2520 ∧ 0 ≤ p.1.1 ∧ p.1.1 ≤ 5000000) ∧ (0 < p.2.2 ∧ p.2.2 ≤ 10 ∧ 0 ≤ p.2.1 ∧ p.2.1 ≤ 100)
  idem : ∀ p ∈ ps, low p.1.1 p.1.2 = p.1
  keep : ∀ l ∈ ms, ∀ u : Nat, okL ps l u
theorem PlanOk.pl {n : Nat} {ms : List Lk} {ps : List Pr} (O : PlanOk n ms ps) : plOf n (.lst (ps.map prD)) = some ps :=
  plOf_pr O.len fun p hp => ⟨(O.bd p hp).1.1, (O.bd p hp).2.1, (O.bd p hp).1.2.2.1, (O.bd p hp).2.2.2.1⟩
theorem PlanOk.prod {n : Nat} {ms : List Lk} {ps : List Pr} (O : PlanOk n ms ps) : ∀ p ∈ ps, p.1.2 * p.2.2 < 1073741824 := fun p hp => by
  obtain ⟨⟨h1, h2, _⟩, ⟨h3, h4, _⟩⟩ := O.bd p hp
  have := Int.mul_le_mul h2 h4 (by omega) (by omega)
  omega
theorem PlanOk.th {n : Nat} {ms : List Lk} {ps : List Pr} (O : PlanOk n ms ps) : okTh (.lst (ps.map prD)) := okTh_prs O.prod
theorem PlanOk.big {m n : Nat} {ms : List Lk} {ps : List Pr} (O : PlanOk n ms ps) (h5 : n ≤ 5) : bigD (m + 4) (.lst (ps.map prD)) := big_prs (by rw [O.len]; exact h5) fun p hp => by
  obtain ⟨⟨h1, h2, h3, h4⟩, ⟨h5, h6, h7, h8⟩⟩ := O.bd p hp
  exact ⟨⟨by omega, by omega⟩, ⟨by omega, by omega⟩, ⟨by omega, by omega⟩, ⟨by omega, by omega⟩⟩
theorem PlanOk.sub {n : Nat} {ms ls : List Lk} {ps : List Pr} (O : PlanOk n ms ps) (h : ∀ l, l ∈ ls ↔ l ∈ ms) : PlanOk n ls ps := ⟨O.len, O.bd, O.idem, fun l hl => O.keep l ((h l).mp hl)⟩
theorem rates_nn {n : Nat} {ls : List Lk} {fs : List (Int × Int)} (N : NetOk n ls) (L : LowsOf n ls fs) : ∀ f ∈ fs, 0 ≤ f.1 := fun f hf => by
  obtain ⟨e, he⟩ := List.getElem?_of_mem hf
  obtain ⟨r, br, rfl⟩ := L.at_ e f he
  have lt : e < n := by rw [← L.len]; exact (List.getElem?_eq_some_iff.mp he).1
  have h := br.2 _ (self_lead (N.self (e : Int) (by omega) (by omega)))
  have h := of_decide_eq_false h
  have e : asks [⟨(e : Int), (e : Int), 1, 0⟩] = (0, 1) := by
    show low (0 + 0) (1 + 0) = (0, 1)
    decide
  rw [e] at h
  have h : ¬ (asks r).1 * 1 < 0 * (asks r).2 := h
  omega
theorem low_bd {b B : Int} (hb : 0 ≤ b) (hB : 0 < B) : 0 < (low b B).2 ∧ (low b B).2 ≤ B ∧ 0 ≤ (low b B).1 ∧ (low b B).1 ≤ b := by
  have h1 := (low_lowest (a := b) (b := B) (by omega)).pos
  have h2 := low_le (a := b) (b := B) (by omega)
  have h3 := low_nn hb hB
  have h4 := low_le1 (a := b) (b := B) (by omega)
  omega
theorem planPs_len {B : Int} {fs : List (Int × Int)} {bs : List Int} {n : Nat} (h1 : fs.length = n) (h2 : bs.length = n) : (planPs B fs bs).length = n := by
  unfold planPs
  rw [List.length_zipWith, h1, h2, Nat.min_self]
theorem planPs_snd {B : Int} {fs : List (Int × Int)} {bs : List Int} {n : Nat} (h1 : fs.length = n) (h2 : bs.length = n) : (planPs B fs bs).map (·.2) = fs := by
  apply List.ext_getElem?
  intro i
  unfold planPs
  rw [List.getElem?_map, List.getElem?_zipWith]
  by_cases c : i < n
  · rw [List.getElem?_eq_getElem (by omega : i < bs.length), List.getElem?_eq_getElem (by omega : i < fs.length)]; rfl
  · rw [List.getElem?_eq_none (by omega : bs.length ≤ i), List.getElem?_eq_none (by omega : fs.length ≤ i)]; rfl
theorem own_plan_ok {n : Nat} {ms : List Lk} {fs : List (Int × Int)} {bs : List Int} (N : NetOk n ms) (L : LowsOf n ms fs) (C : ¬ Clash ms) (PB : PotOf n ms (wOf fs) bs) : PlanOk n ms (planPs (botN fs) fs bs) := by
  have rk := rates_ok N L
  have rn := rates_nn N L
  obtain ⟨p0, p1, _⟩ := bot_ok fun f hf => ⟨(rk f hf).1, (rk f hf).2.1⟩
  have bb := pot_bd PB N.n0 N.n5 N.inn (own_rings N L C) (by decide : (0 : Int) ≤ 1000000) (w_bd N L)
  have B0 : 0 < (botN fs : Int) := by omega
  refine ⟨planPs_len L.len PB.len, fun p hp => ?_, fun p hp => ?_, fun l hl u => ?_⟩
  · obtain ⟨b, f, hb, hf, rfl⟩ := planPs_mem hp
    obtain ⟨h1, h2⟩ := bb b hb
    obtain ⟨l1, l2, l3, l4⟩ := low_bd h1 B0
    obtain ⟨r1, r2, r3, r4⟩ := rk f hf
    have r5 := rn f hf
    exact ⟨⟨l1, by show (low b (botN fs : Int)).2 ≤ 2520; omega, l3, by show (low b (botN fs : Int)).1 ≤ 5000000; omega⟩, ⟨r1, r2, r5, r4⟩⟩
  · obtain ⟨b, f, hb, hf, rfl⟩ := planPs_mem hp
    exact low_idem (low_lowest (by omega))
  · obtain ⟨a0, a1, b0, b1⟩ := N.inn l hl
    have st := pot_step PB N.inn hl
    have ga := planPs_at (B := (botN fs : Int)) (fs := fs) (bs := bs) a0 (by rw [L.len]; exact a1) (by rw [PB.len]; exact a1)
    have gb := planPs_at (B := (botN fs : Int)) (fs := fs) (bs := bs) b0 (by rw [L.len]; exact b1) (by rw [PB.len]; exact b1)
    have la := low_lowest (a := gi bs l.a) (b := (botN fs : Int)) (by omega)
    have lb := low_lowest (a := gi bs l.b) (b := (botN fs : Int)) (by omega)
    have qa := rk _ (List.mem_of_getElem? (gf_at a0 (by rw [L.len]; exact a1)))
    have qb := rk _ (List.mem_of_getElem? (gf_at b0 (by rw [L.len]; exact b1)))
    have ta := topI_mul (fs := fs) (e := l.a) (fun f hf => ⟨(rk f hf).1, (rk f hf).2.1⟩) a0 (by rw [L.len]; exact a1)
    have tb := topI_mul (fs := fs) (e := l.b) (fun f hf => ⟨(rk f hf).1, (rk f hf).2.1⟩) b0 (by rw [L.len]; exact b1)
    refine keep_l (B := (botN fs : Int)) (ba := gi bs l.a) (bb := gi bs l.b) (Ta := topI fs l.a) (Tb := topI fs l.b) B0 ?_ ?_ ?_ ?_ ?_ ?_ (top_up N L hl) st u
    · rw [ga]; exact ⟨la.pos, qa.1⟩
    · rw [gb]; exact ⟨lb.pos, qb.1⟩
    · rw [ga]; exact la.eq
    · rw [ga]; exact ta.symm
    · rw [gb]; exact lb.eq
    · rw [gb]; exact tb.symm
theorem planPs_rep {f : Int × Int} {bs : List Int} {n : Nat} (h : bs.length = n) : planPs f.2 (List.replicate n f) bs = bs.map fun b => (low b f.2, f) := by
  apply List.ext_getElem?
  intro i
  unfold planPs
  rw [List.getElem?_map, List.getElem?_zipWith, List.getElem?_replicate]
  by_cases c : i < n
  · rw [if_pos c, List.getElem?_eq_getElem (by omega : i < bs.length)]; rfl
  · rw [if_neg c, List.getElem?_eq_none (by omega : bs.length ≤ i)]; rfl
theorem gf_rep {f : Int × Int} {n : Nat} {e : Int} (h0 : 0 ≤ e) (h1 : e < n) : gf (List.replicate n f) e = f := by
  have := gf_at (fs := List.replicate n f) h0 (by rw [List.length_replicate]; exact h1)
  rw [List.getElem?_replicate, if_pos (by omega)] at this
  exact (Option.some.inj this).symm
theorem valP {f : Int × Int} : ∀ (r : List Lk), val (wP f) r = tikS r * f.2 - tokS r * f.1
  | [] => by show (0 : Int) = 0 * f.2 - 0 * f.1; omega
  | l :: r => by
    rw [val_cons, valP r]
    show l.d * f.2 - l.t * f.1 + _ = (l.d + tikS r) * f.2 - (l.t + tokS r) * f.1
    rw [Int.add_mul, Int.add_mul]
    omega
theorem per_plan_ok {n : Nat} {ms lo : List Lk} {bs : List Int} (N : NetOk n ms) (E : ¬ PerEmpty ms) (LO : BstP (TopS ms) (some lo)) (PB : PotOf n ms (wP (asks lo)) bs) : PlanOk n ms (bs.map fun b => (low b (asks lo).2, asks lo)) := by
  obtain ⟨f0, f1, f2, f3, _⟩ := lo_bd N LO
  have rings : ∀ r, Ring ms r → val (wP (asks lo)) r ≤ 0 := fun r hr => by rw [valP]; exact per_val N E LO hr
  have bb := pot_bd PB N.n0 N.n5 N.inn rings (by decide : (0 : Int) ≤ 1000000) fun l hl => by
    obtain ⟨t0, t1⟩ := N.tb l hl
    obtain ⟨d0, d1⟩ := N.db l hl
    unfold wP
    have y1 : l.d * (asks lo).2 ≤ 20 * (asks lo).2 := Int.mul_le_mul_of_nonneg_right d1 (by omega)
    have y2 : -2 * (asks lo).1 ≤ l.t * (asks lo).1 := Int.mul_le_mul_of_nonneg_right t0 (by omega)
    omega
  refine ⟨by rw [List.length_map]; exact PB.len, fun p hp => ?_, fun p hp => ?_, fun l hl u => ?_⟩
  · obtain ⟨b, hb, rfl⟩ := List.mem_map.mp hp
    obtain ⟨h1, h2⟩ := bb b hb
    obtain ⟨l1, l2, l3, l4⟩ := low_bd h1 f2
    exact ⟨⟨l1, by show (low b (asks lo).2).2 ≤ 2520; omega, l3, by show (low b (asks lo).2).1 ≤ 5000000; omega⟩, ⟨f2, f3, f0, f1⟩⟩
  · obtain ⟨b, hb, rfl⟩ := List.mem_map.mp hp
    exact low_idem (low_lowest (by omega))
  · rw [← planPs_rep PB.len]
    obtain ⟨a0, a1, b0, b1⟩ := N.inn l hl
    have st := pot_step PB N.inn hl
    have ga := planPs_at (B := (asks lo).2) (fs := List.replicate n (asks lo)) (bs := bs) a0 (by rw [List.length_replicate]; exact a1) (by rw [PB.len]; exact a1)
    have gb := planPs_at (B := (asks lo).2) (fs := List.replicate n (asks lo)) (bs := bs) b0 (by rw [List.length_replicate]; exact b1) (by rw [PB.len]; exact b1)
    rw [gf_rep a0 a1] at ga
    rw [gf_rep b0 b1] at gb
    have la := low_lowest (a := gi bs l.a) (b := (asks lo).2) (by omega)
    have lb := low_lowest (a := gi bs l.b) (b := (asks lo).2) (by omega)
    refine keep_l (B := (asks lo).2) (ba := gi bs l.a) (bb := gi bs l.b) (Ta := (asks lo).1) (Tb := (asks lo).1) f2 ?_ ?_ ?_ ?_ ?_ ?_ (Int.le_refl _) ?_ u
    · rw [ga]; exact ⟨la.pos, f2⟩
    · rw [gb]; exact ⟨lb.pos, f2⟩
    · rw [ga]; exact la.eq
    · rw [ga]
    · rw [gb]; exact lb.eq
    · rw [gb]
    · unfold wP at st
      have x1 : (asks lo).1 * (max 0 l.t - l.t) = (asks lo).1 * max 0 l.t - l.t * (asks lo).1 := by grind
      rw [x1]
      omega
theorem bad_of {n : Nat} {ms : List Lk} {ps : List Pr} (O : PlanOk n ms ps) : ∃ qs, plOf n (.lst (ps.map prD)) = some qs ∧ ∀ l ∈ ms, badL qs l = false :=
  ⟨ps, O.pl, fun l hl => (ok_bad (gp_pos' O.pl _) (gp_pos' O.pl _)).mpr (O.keep l hl 1)⟩
end Kz

set_option Elab.async false
set_option linter.all false
set_option maxRecDepth 100000
set_option maxHeartbeats 4000000
set_option autoImplicit false
/-! max(xs, key=lambda x: ..). -/
namespace Kz
open PySem PySem.Spec PyProof.Rows L2
section
variable {P : Program} {w : World} {K : PySem.W.Frag} {mg : Str → Option Value} {base : Heap}
/-- a lambda of one parameter, called -/
theorem lam1_run {A : Around} {outer : List Env} {s : Shared} {H : Hp} {f c' : Addr} {q n : Str} {params : Arguments} {body : Expr} {scope : Scope} {pm ctv v : Value} {x : V} {Q : VK} {k : Nat}
    (of : s.heap.get? f = some (PySem.W.kla_obj "<lambda>" q params body scope [] pm c' ctv)) (hc : H c' = some (LamX.CodeO c' q)) (S : FnScope [n] [n] scope) (hr : Room (k + 1) A) (e0 : Env0 P w K mg base A outer s H) (r : RelV x v)
    (hb : bindArgs (PySem.W.kla_fn "<lambda>" q params body scope [] pm (.ref c') ctv) ⟨[v], []⟩ = pure [(n, v)])
    (hbody : ∀ E : XK, Room k (A.deeper (envOfC q scope s.heap.objs.size f (.ref c'))) → ∃ t, PE (cxOf CX0 P w K mg base [n] q scope f (.ref c') A outer s H E) body t ∧ t (L2.start [n] [x]) H Q) :
    codeAny (model P w) A (.call (.ref f) ⟨[v], []⟩) (CR CX0 outer P w H s Q (fun _ _ _ => False)) s := by
  obtain ⟨⟨oc, vs, t, h1, h2, h3⟩, _, _⟩ := e0.hok c' _ hc
  have lim : s.heap.NoLimit := e0.mod.nolimit.keeps fun b o e => (e0.bs b o e).1
  have hk : ∀ y ∈ [(n, v)], scope.names.lookup y.1 = some .local ∨ (scope.names.lookup y.1 = some .cell ∧ ((cellsFrom (s.heap.objs.size + 1) scope.names []).lookup y.1).isSome = true) := fun y hy => by
    rw [List.mem_singleton.mp hy]
    rcases S.par n (by simp) with z | z
    · exact .inl z
    · exact .inr ⟨z, PySem.W.cellsFrom_some _ _ _ (.inl z)⟩
  refine PySem.W.kla_callFunE hr.depth of rfl S.co S.gen rfl ⟨c', oc, vs, t, rfl, h1, h2, h3⟩ ?_
  rw [hb]
  refine wpAny_pure (wpAny_newFunctionEnv_cells S.kind hk fun env he s1 ic => ?_)
  subst he
  refine ⟨lim.keeps ic.toInCall.keep, ?_⟩
  obtain ⟨tb, hp, ht⟩ := hbody (fun _ _ _ => False) (hr.deeper _)
  have I : Inv (cxOf CX0 P w K mg base [n] q scope f (.ref c') A outer s H (fun _ _ _ => False)) [] (L2.start [n] [x]) H s1 := inv_start S hr.hd e0 rfl (.cons r .nil) ic
  refine PySem.W.kla_codeExpr (wpAny_mono (hp.run [] s1 _ H Q I ht) (fun u s2 hq => ?_) fun e s2 hq => hq)
  obtain ⟨y, H2, J, ry, hq⟩ := hq
  exact ⟨y, H2, J.os, J.bare, J.base, J.hok, ry, hq⟩
end
section
variable {X : Cx} {pins : List (Addr × Obj)} {σ : L2.St} {H : Hp} {s s2 : Shared}
/-- untracked objects that came later have turned -/
theorem inv_moved {wr : List Addr} {s' : Shared} (I2 : Inv X pins σ H s2) (hw : ∀ b ∈ wr, s2.heap.objs.size ≤ b) (I : Inv X pins σ H s) (M : Moved wr (fun a b => b = a) s s') : Inv X pins σ H s' := by
  have nH : ∀ b ∈ wr, H b = none := fun b hb => I2.hok.fresh (hw b hb)
  have cel : ∀ x c, X.env.cells.lookup x = some c → c < s2.heap.objs.size := fun x c h => by
    obtain ⟨v, o, ho, _⟩ := I2.cell x c h
    exact Heap.lt_size ho
  have ltL : X.env.locals < s2.heap.objs.size := I2.lt
  have e : s' = { s with heap := s'.heap, gens := s.gens, drawn := s.drawn, toks := s'.toks } := by
    have h1 := M.gens
    have h2 := M.drawn
    have h3 := M.os
    cases s'
    cases s
    simp only at h1 h2 h3 ⊢
    subst h1 h2 h3
    rfl
  rw [e]
  have nt : ∀ b u, H b = some u → b ∉ wr := fun b u h hb => by rw [nH b hb] at h; cases h
  refine Inv.call (ch := wr) I ⟨fun b o h n _ hx => M.heap b o hx h, fun b o h n _ hx => ⟨o.slots, M.heap b o hx h⟩, fun b o _ n _ => n, fun b o h hx => ⟨o, M.heap b o hx h⟩, fun _ _ h => h, fun _ _ _ h => h, fun b ps h => ⟨#[], by rw [h]; simp⟩⟩ (fun b u h => ?_) I.bare
    fun b hb => ⟨.inr (Nat.le_trans I2.ok.above (Nat.le_trans (Nat.le_of_lt ltL) (hw b hb))), Nat.ne_of_gt (Nat.lt_of_lt_of_le ltL (hw b hb)), fun x c h => Nat.ne_of_lt (Nat.lt_of_lt_of_le (cel x c h) (hw b hb)), fun p hp => Nat.ne_of_lt (Nat.lt_of_lt_of_le (Heap.lt_size (I2.pin p hp).1) (hw b hb))⟩
  refine (I.hok b u h).stay (fun c v hc h2 => M.heap c v ?_ h2) (fun _ h2 => h2) fun _ _ h2 => h2
  rcases hc with z | z
  · rw [z]; exact nt b u h
  · exact nt c _ z

/-- a lambda is made: what of the tracked heap is new -/
def LamNew (H H1 : Hp) (P c' : Addr) (q : Str) : Prop := H1 = H ∨ ∃ tb more, H P = some (.tbl tb) ∧ H c' = none ∧ H1 = upd (upd H P (.tbl (tb ++ more))) c' (LamX.CodeO c' q)
theorem tab_more {H : Hp} {P c' : Addr} {q : Str} {tb : Array Value} {p0 : Pos} (hP : H P = some (.tbl tb)) (hc : H c' = none) (h2 : TriplesOk tb.toList) (h3 : ∀ (pos : Pos) (cv : Value), codeAmong pos tb.toList = some cv → ∃ c, cv = .ref c ∧ H c = some (LamX.CodeO c q)) :
    LamX.TabS (upd (upd H P (.tbl (tb ++ #[rawInt p0.line, rawInt p0.col, .ref c']))) c' (LamX.CodeO c' q)) P q := by
  have ne : P ≠ c' := fun e => by rw [e, hc] at hP; cases hP
  have el : (tb ++ #[rawInt p0.line, rawInt p0.col, Value.ref c']).toList = tb.toList ++ [rawInt p0.line, rawInt p0.col, .ref c'] := by simp
  refine ⟨tb ++ #[rawInt p0.line, rawInt p0.col, .ref c'], (upd_ne ne).trans upd_same, by rw [el]; exact PySem.TriplesOk_snoc _ _ _ _ h2, fun pos cv hcv => ?_⟩
  rw [el] at hcv
  rcases LamX.among_app tb.toList h2 hcv with h | h
  · obtain ⟨c, e1, e2⟩ := h3 pos cv h
    have n1 : c ≠ c' := fun e => by rw [e, hc] at e2; cases e2
    have n2 : c ≠ P := fun e => by rw [e, hP] at e2; exact LamX.codeO_ne _ (Option.some.inj e2).symm
    exact ⟨c, e1, (upd_ne n1).trans ((upd_ne n2).trans e2)⟩
  · exact ⟨c', h, upd_same⟩
theorem fr_new (I : Inv X pins σ H s) {f : Addr} (hf : s.heap.objs.size ≤ f) : f ∉ frs X.stack := fun m => by
  rcases List.mem_cons.mp (I.stkSub _ m) with e | e
  · have := I.lt
    rw [← e] at this
    exact absurd (Nat.lt_of_lt_of_le this hf) (Nat.lt_irrefl _)
  · exact I.nofs hf e
theorem lam_new {c P : Addr} {params : Arguments} {body : Expr} {scope : Scope} {pos : Pos} {E : Value → Shared → Prop} {Q : Value → Shared → Prop} (I : Inv X pins σ H s) (TB : LamX.TabB X.base X.mg c P) (hcode : X.env.code = .ref c) (hT : LamX.TabS H P (X.env.qual ++ "<lambda>"))
    (hdef : defaultsOf params X.env = ([], [])) (hnf : ∀ y ∈ scope.names, y.2 ≠ .free) (hcl : cloFrom X.env.cells scope.names [] = [])
    (h : ∀ (f c' : Addr) (pm ctv : Value) (H1 : Hp) (s' : Shared), Inv X pins σ H1 s' → LamNew H H1 P c' (X.env.qual ++ "<lambda>") → LamX.TabS H1 P (X.env.qual ++ "<lambda>") →
      s'.heap.get? f = some (PySem.W.kla_obj "<lambda>" (X.env.qual ++ "<lambda>") params body scope [] pm c' ctv) → H1 f = none → f ∉ frs X.stack → H1 c' = some (LamX.CodeO c' (X.env.qual ++ "<lambda>")) → Q (.ref f) s') :
    wpAny (model X.prog X.w) X.A (eval (.Lambda params body scope pos) X.env) Q E s := by
  obtain ⟨tb, hP, h2, h3⟩ := hT
  have hclo := closure_ok (env := X.env) (scope := scope) fun y hy e => absurd e (hnf y hy)
  rw [hcl] at hclo
  have hP' : s.heap.get? P = some { cls := .none, data := .fields tb } := I.hok P _ hP
  refine PySem.W.kla_eval hdef ?_
  cases hc : codeAmong pos tb.toList with
  | some cv =>
    obtain ⟨c', rfl, ho⟩ := h3 pos cv hc
    refine PySem.W.kla_makeFunctionHit (mg := X.mg) (c := c) (P := P) (ps := tb) hclo I.ok.glob (I.mod.glob.keeps I.bk) hcode (TB.code.keeps I.bk) hP' h2 hc (TB.bm.keeps I.bk) fun ctv h' tk hk hsz => ?_
    exact h h'.objs.size c' _ ctv H _ (I.kept fun b o e => Heap.get?_push_of_some _ (hk b o e)) (.inl rfl) ⟨tb, hP, h2, h3⟩ (Heap.get?_push_size _ rfl) (I.hok.fresh hsz) (fr_new I hsz) ho
  | none =>
    refine PySem.W.kla_makeFunction (mg := X.mg) (c := c) (P := P) (ps := tb) hclo I.ok.glob (I.mod.glob.keeps I.bk) hcode (TB.code.keeps I.bk) hP' h2 hc TB.gP (TB.bm.keeps I.bk) fun c' ctv h' tk hk hge hlt hrec htab => ?_
    obtain ⟨d, oc, vs, t, e2, g1, g2, g3⟩ := hrec
    cases e2
    have nC : H c' = none := I.hok.fresh hge
    have hsz : s.heap.objs.size ≤ h'.objs.size := Nat.le_of_lt (Nat.lt_of_le_of_lt hge hlt)
    have J := LamX.inv_table (t' := tk) (q := X.env.qual ++ "<lambda>") (more := #[rawInt pos.line, rawInt pos.col, .ref c']) (h' := h'.push (PySem.W.kla_obj "<lambda>" (X.env.qual ++ "<lambda>") params body scope [] ((X.mg "__name__").getD .none) c' ctv)) I hP
      (fun b o hb e => Heap.get?_push_of_some _ (hk b o hb e)) (Heap.get?_push_of_some _ htab) hge ⟨oc, vs, t, Heap.get?_push_of_some _ g1, g2, g3⟩
    refine h h'.objs.size c' _ ctv _ _ J (.inr ⟨tb, _, hP, nC, rfl⟩) (tab_more hP nC h2 h3) (Heap.get?_push_size _ rfl) ?_ (fr_new I hsz) upd_same
    rw [upd_ne (Nat.ne_of_gt hlt), upd_ne (Nat.ne_of_gt (Nat.lt_of_lt_of_le (Heap.lt_size hP') hsz))]
    exact I.hok.fresh hsz

theorem vals_refs : ∀ {ps : List Addr} {us : List Value}, Vals (ps.map V.ref) us → us = ps.map Value.ref
  | [], _, h => by cases h; rfl
  | p :: ps, _, h => by
    cases h with
    | cons r h =>
      rw [vals_refs h, show _ = Value.ref p from r]; rfl
theorem max_run {a f c' : Addr} {ps : List Addr} {q n : Str} {params : Arguments} {body : Expr} {scope : Scope} {pm ctv : Value} {k : Nat} {kf : Nat → Int} {Q : VK} (I : Inv X pins σ H s) (hl : H a = some (.lst (ps.map V.ref))) (hne : 0 < ps.length)
    (of : s.heap.get? f = some (PySem.W.kla_obj "<lambda>" q params body scope [] pm c' ctv)) (hfn : H f = none) (hff : f ∉ frs X.stack) (hco : H c' = some (LamX.CodeO c' q)) (S : FnScope [n] [n] scope) (hr : Room (k + 2) X.A)
    (hb : ∀ v, bindArgs (PySem.W.kla_fn "<lambda>" q params body scope [] pm (.ref c') ctv) ⟨[v], []⟩ = pure [(n, v)])
    (hbody : ∀ (A : Around) (outer : List Env) (s1 : Shared) (E : XK), Room k (A.deeper (envOfC q scope s1.heap.objs.size f (.ref c'))) → ∃ tb, PE (cxOf CX0 X.prog X.w X.K X.mg X.base [n] q scope f (.ref c') A outer s1 H E) body tb ∧
      ∀ i p, ps[i]? = some p → tb (L2.start [n] [V.ref p]) H (fun v H' => v = .int (kf i) ∧ H' = H))
    (hQ : ∀ j p, ps[j]? = some p → (∀ i, i < ps.length → kf i ≤ kf j) → Q (.ref p) H) :
    wpAny (model X.prog X.w) X.A (call (.builtin "max") [.ref a] [(Str.ofString "key", .ref f)]) (EP X pins σ Q) X.xe s := by
  obtain ⟨its, rv, hil, _⟩ := I.list (SqL.of (K := X.K) hl)
  obtain rfl := vals_refs rv
  have listAt : ∀ s', Inv X pins σ H s' → s'.heap.IsList a (ps.map Value.ref).toArray := fun s' J => by
    obtain ⟨its', rv', hil', _⟩ := J.list (SqL.of (K := X.K) hl)
    obtain rfl := vals_refs rv'
    exact hil'.isList
  refine call_max_walkK (wpAny_pyIter_list (listAt s I) ?_)
  generalize hI : s.heap.objs.size = it
  have I3 : Inv X pins σ H { s with heap := s.heap.push { cls := .type "list_iterator", data := .fields #[.ref a, .int 0 0] } } := I.kept fun b o e => Heap.get?_push_of_some _ e
  have hal : a ≠ it := fun e => by
    obtain ⟨o, ho, _⟩ := listAt s I
    have := Heap.lt_size ho
    rw [hI, e] at this
    exact Nat.lt_irrefl _ this
  have hfl : f < it := by rw [← hI]; exact Heap.lt_size of
  refine ⟨it, [it, a], [it], fun x y => y = x, (ps.map Value.ref).toArray.size, fun i v => (ps.map Value.ref).toArray[i]? = some v, fun i s => s.heap.IsListIter it a i ∧ s.heap.IsList a (ps.map Value.ref).toArray,
    fun s' => Inv X pins σ H s' ∧ s'.heap.get? f = some (PySem.W.kla_obj "<lambda>" q params body scope [] pm c' ctv), fun i k s' => ∃ t, k = .int (kf i) t, fun i j => decide (kf i > kf j), rfl,
    (Walks.list (A := X.A.in1) hr.hd it a hal _).toS, ⟨?_, listAt _ I3⟩, ?_, by simpa using hne, ?_, ⟨I3, Heap.get?_push_of_some _ of⟩, ?_⟩
  · exact ⟨_, by rw [← hI]; exact Heap.get?_push_size _ rfl, rfl, rfl⟩
  · intro b hb
    show b < (s.heap.push { cls := .type "list_iterator", data := .fields #[.ref a, .int 0 0] }).objs.size
    rw [Heap.size_push, hI]
    simp at hb
    rcases hb with rfl | rfl
    · exact Nat.lt_succ_self _
    · obtain ⟨o, ho, _⟩ := listAt s I
      have := Heap.lt_size ho
      rw [hI] at this
      exact Nat.lt_succ_of_lt this
  · have hS : (s.heap.push { cls := .type "list_iterator", data := .fields #[.ref a, .int 0 0] }).objs.size = it + 1 := by rw [Heap.size_push, hI]
    show KeyRun _ _ _ _ _ (s.heap.push { cls := .type "list_iterator", data := .fields #[.ref a, .int 0 0] }).objs.size _ _ _ _ _ _ _ _
    rw [hS]
    have hw : ∀ b ∈ [it + 1, it], s.heap.objs.size ≤ b := fun b hb => by
      rw [hI]
      simp at hb
      rcases hb with rfl | rfl
      · exact Nat.le_succ _
      · exact Nat.le_refl _
    refine ⟨fun s1 s' ⟨J, e⟩ M => ⟨inv_moved I hw J M, M.heap _ _ ?_ e⟩, fun _ _ _ _ h _ => h, fun i v s1 o Q' E' hi hP ⟨J, e⟩ ⟨st1, st2⟩ hSo k => ?_, fun i j ki kj s1 Q' E' _ hvi hvj q => ?_⟩
    · intro m
      simp at m
      rcases m with m | m
      · rw [m] at hfl; exact absurd hfl (Nat.not_lt_of_lt (Nat.lt_succ_self _))
      · rw [m] at hfl; exact Nat.lt_irrefl _ hfl
    · have hP : (ps.map Value.ref).toArray[i]? = some v := hP
      rw [List.getElem?_toArray, List.getElem?_map] at hP
      cases hp : ps[i]? with
      | none => rw [hp] at hP; cases hP
      | some p =>
        rw [hp] at hP
        cases hP
        have e0 := J.env0
        have rc := lam1_run (A := X.A.in1) (x := V.ref p) (Q := fun v H' => v = .int (kf i) ∧ H' = H) e hco S hr.in1 ⟨e0.frames, e0.mod, e0.bs, e0.bsz, e0.funs, e0.frf, e0.hok, e0.bare⟩ rfl (hb (.ref p)) fun E hr' => by
          obtain ⟨tb, h1, h2⟩ := hbody _ _ _ E hr'
          exact ⟨tb, h1, h2 i p hp⟩
        refine wpAny_call (codeAny_mono rc fun r s' hq => ?_)
        cases r with
        | error e => exact (show False from hq).elim
        | ok fl =>
          cases fl with
          | next => exact (show False from hq).elim
          | brk => exact (show False from hq).elim
          | cont => exact (show False from hq).elim
          | ret u =>
            obtain ⟨y, H', _, _, un, _, ry, ey, eH⟩ := id hq
            obtain ⟨y2, H2, J', _, _, eH2⟩ := J.after hq
            subst eH eH2 ey
            have kept : ∀ b o, s.heap.objs.size ≤ b → s1.heap.get? b = some o → s'.heap.get? b = some o := fun b o hb h => un.keep b o h (I.hok.fresh hb) (fr_new I hb) (by simp)
            obtain ⟨oi, i1, i2, i3⟩ := st1
            exact k u s' ⟨J', un.keep f _ e hfn hff (by simp)⟩ ⟨⟨oi, kept it oi (by rw [hI]; exact Nat.le_refl _) i1, i2, i3⟩, listAt s' J'⟩ (kept (it + 1) o (by rw [hI]; exact Nat.le_succ _) hSo) ry (fun _ _ h => h)
    · exact CmpOf.ints_gt (P := fun i v => ∃ t, v = .int (kf i) t) kf (fun _ _ h => h) i j ki kj s1 Q' E' hvi hvj q
  · intro v s' hP ⟨J, _⟩
    have hP : (ps.map Value.ref).toArray[argBest (fun i j => decide (kf i > kf j)) ((ps.map Value.ref).toArray.size - 1)]? = some v := hP
    rw [List.getElem?_toArray, List.getElem?_map] at hP
    obtain ⟨g1, g2⟩ := argBest_gt kf ((ps.map Value.ref).toArray.size - 1)
    rw [List.size_toArray, List.length_map] at hP g1 g2
    cases hp : ps[argBest (fun i j => decide (kf i > kf j)) (ps.length - 1)]? with
    | none => rw [hp] at hP; cases hP
    | some p =>
      rw [hp] at hP
      cases hP
      exact ⟨.ref p, H, J, rfl, hQ _ p hp fun i hi => g2 i (by omega)⟩
end
end Kz

set_option Elab.async false
set_option linter.all false
set_option maxRecDepth 100000
set_option maxHeartbeats 4000000
set_option autoImplicit false
/-! max(xs, key=lambda x: x[0] * 5040 // x[1]) over data. -/
namespace Kz
open PySem PySem.Spec PyProof.Rows L2
def frD' (f : Int × Int) : D := .tup [.int f.1, .int f.2]
section
variable {X : Cx} {B : RB}
/-- the tables' change, seen by what is tracked -/
theorem Step.lam {Y : RC} {D : Hp} {z : Z} {σ : L2.St} {H H1 : Hp} {c' : Addr} (R : Rel B Y D z σ H) (on : Y.on = true) (h : LamNew H H1 B.ta c' B.tq) (ht : LamX.TabS H1 B.ta B.tq) : Step B Y D z σ H D z H1 := by
  rcases h with rfl | ⟨tb, more, hP, hc, rfl⟩
  · exact Step.refl R
  obtain ⟨e1, e2⟩ := R.wr.tb on
  rw [← e1] at hP ht ⊢
  rw [← e2] at ht ⊢
  have ne : ∀ b u, H b = some u → b ≠ c' := fun b u e q => by rw [q, hc] at e; cases e
  have at_ : ∀ b u, H b = some u → b ≠ Y.ta → upd (upd H Y.ta (.tbl (tb ++ more))) c' (LamX.CodeO c' Y.tq) b = some u := fun b u e n => (upd_ne (ne b u e)).trans ((upd_ne n).trans e)
  have ks := R.wr.s on
  have kg := R.wr.g on
  have nsa : Y.sa ≠ Y.ta := fun q => by rw [q, hP] at ks; cases ks
  have nga : Y.ga ≠ Y.ta := fun q => by rw [q, hP] at kg; cases kg
  have nD : ∀ b u, D b = some u → b ≠ Y.ta := fun b u e q => by rw [q, R.wr.dt on] at e; cases e
  refine ⟨R.more (w' := z.w) (Same.refl _) (fun b u e off => at_ b u e (off on).2.2) (fun b u e => at_ b u (R.dat b u e) (nD b u e)) (fun b hb => .inl hb)
    ⟨fun _ => at_ _ _ ks nsa, fun _ => at_ _ _ kg nga, R.wr.ds, R.wr.dg, R.wr.hs, R.wr.hg, R.wr.ne, fun _ => ht, R.wr.dt, R.wr.ht, R.wr.a, R.wr.tb⟩, Same.refl _, fun p q => ?_, fun p u hp f => ?_⟩
  · by_cases e : p = c'
    · rw [e]; exact hc
    · rw [upd_ne e] at q
      by_cases e3 : p = Y.ta
      · rw [e3, upd_same] at q; cases q
      · rw [upd_ne e3] at q; exact q
  · exact ⟨at_ p u hp (f.off on).2.2, f.to f.d fun i o e => ⟨o, e⟩⟩
def zMaxKey (t : ZE) : ZE := fun z Q => t z fun d z1 => match d with
  | .lst ds => ∃ fs : List (Int × Int), ds = fs.map frD' ∧ fs ≠ [] ∧ (∀ f ∈ fs, 0 < f.2 ∧ f.2 < 1073741824 ∧ -(2 ^ 64) < f.1 ∧ f.1 < 2 ^ 64) ∧ z1.w.sa.isSome = true ∧ ∀ f ∈ fs, (∀ g ∈ fs, keyF g ≤ keyF f) → Q (frD' f) z1
  | _ => False
theorem tupsF {D : Hp} : ∀ {fs : List (Int × Int)} {xs : List V}, RpA B D (fs.map frD') xs → ∃ ps : List Addr, xs = ps.map V.ref ∧ ps.length = fs.length ∧ ∀ (i : Nat) (p : Addr), ps[i]? = some p → ∃ f : Int × Int, fs[i]? = some f ∧ D p = some (.tup [.int f.1, .int f.2])
  | [], xs, r => ⟨[], r.nil_, rfl, fun i p h => by simp at h⟩
  | f :: fs, xs, r => by
    obtain ⟨x, xs, rfl, r1, r2⟩ := r.cons_
    obtain ⟨ps, rfl, hl, hp⟩ := tupsF r2
    obtain ⟨a, ys, rfl, ha, ra⟩ := (show Rp B D (.tup [.int f.1, .int f.2]) x from r1).tup_
    obtain ⟨y, r', rfl, h1, r3⟩ := ra.cons_
    obtain ⟨y2, r'', rfl, h2, r4⟩ := r3.cons_
    rw [r4.nil_, h1.int_, h2.int_] at ha
    refine ⟨a :: ps, rfl, by rw [List.length_cons, List.length_cons, hl], fun i p h => ?_⟩
    cases i with
    | zero => cases h; exact ⟨f, rfl, ha⟩
    | succ i => exact hp i p h
theorem z_maxKey {c : Addr} {n : Str} {params : Arguments} {scope : Scope} {e : Expr} {t : ZE} {k : Nat} {p lpos pos b1 b2 b3 b4 b5 b6 b7 b8 b9 kpos : Pos} {j1 j2 j3 : Nat} (he : DE X B e t) (hm : X.mg "max" = none) (TB : LamX.TabB X.base X.mg c B.ta) (hcode : X.env.code = .ref c) (hq : B.tq = X.env.qual ++ "<lambda>")
    (hr : Room (k + 2) X.A) (S : FnScope [n] [n] scope) (hdef : defaultsOf params X.env = ([], [])) (hnf : ∀ y ∈ scope.names, y.2 ≠ .free) (hcl : cloFrom X.env.cells scope.names [] = [])
    (hb : ∀ (q : Str) (body : Expr) (pm ctv : Value) (c' : Addr) (v : Value), bindArgs (PySem.W.kla_fn "<lambda>" q params body scope [] pm (.ref c') ctv) ⟨[v], []⟩ = pure [(n, v)]) (hv : Vis scope n) (hd : (n == ("__debug__" : Str)) = false) (hcd : (n == ("__classdict__" : Str)) = false) (hB : B.K = X.K := by rfl)
    (hg : Gl X "max" := by rfl) (s1 : starEach [e] X.env = (false, eval e X.env) :: starEach [] X.env := by rfl)
    (hbt : backTo pos (starEach [e] X.env) = (false, eval e X.env) :: backTo pos (starEach [] X.env) := by rfl) (hpl : (backTo pos (starEach [e] X.env)).any (·.1) = false := by rfl) :
    DE X B (.Call (.Name "max" p) [e] [⟨some "key", .Lambda params (.BinOp (.BinOp (.Subscript (.Name n b1) (.Constant (.int 0) j1 b2) b3) .Mult (.Constant (.int 5040) j2 b4) b5) .FloorDiv (.Subscript (.Name n b6) (.Constant (.int 1) j3 b7) b8) b9) scope lpos, kpos⟩] pos) (zMaxKey t) := by
  refine ⟨fun pins s σ H Q I ⟨Y, D, z, Q', R, ht, kk⟩ => ?_⟩
  refine wpAny_Call_Name_kw (ld_blt I hg hm (u := .builtin "max") (by decide +kernel) ?_ (by decide) (by decide))
  refine PyProof.Rows.callWith_kw (thn ((pa_cons he pa_nil s1).run pos pins s σ H (fun vs H1 => ∃ d z1 v D1, vs = [v] ∧ Step B Y D z σ H D1 z1 H1 ∧ Rp B D1 d v ∧ (match d with
    | .lst ds => ∃ fs : List (Int × Int), ds = fs.map frD' ∧ fs ≠ [] ∧ (∀ f ∈ fs, 0 < f.2 ∧ f.2 < 1073741824 ∧ -(2 ^ 64) < f.1 ∧ f.1 < 2 ^ 64) ∧ z1.w.sa.isSome = true ∧ ∀ f ∈ fs, (∀ g ∈ fs, keyF g ≤ keyF f) → Q' (frD' f) z1
    | _ => False)) I ⟨Y, D, z, _, R, ht, fun d z1 q v H1 D1 S1 r1 => ⟨d, z1, v, D1, rfl, S1, r1, q⟩⟩) fun us s1 ⟨vs, H1, I1, r1, d, z1, v, D1, ev, S1, rp, q⟩ => ?_) hbt hpl rfl rfl
  subst ev
  cases d with
  | lst ds =>
    obtain ⟨fs, rfl, hne, hbd, hsa, q⟩ := q
    obtain ⟨a, xs, rfl, ha, ra⟩ := rp.lst_
    obtain ⟨ps, rfl, hps, hpt⟩ := tupsF ra
    obtain ⟨u, rfl, ru⟩ := vals1 r1
    obtain rfl : u = Value.ref a := ru
    obtain ⟨sa, hsa⟩ := Option.isSome_iff_exists.mp hsa
    have on := (S1.rel.wr.a sa hsa).1
    obtain ⟨t1, t2⟩ := S1.rel.wr.tb on
    have hT : LamX.TabS H1 B.ta (X.env.qual ++ "<lambda>") := by
      have := S1.rel.wr.t on
      rw [t1, t2, hq] at this
      exact this
    have hl0 := S1.rel.dat _ _ ha
    show wpAny _ _ (evalAll ((do let v ← eval (.Lambda params _ scope lpos) X.env; standAt _; pure v) :: [])) _ _ s1
    refine wpAny_evalAll_cons (wpAny_bind (lam_new I1 TB hcode hT hdef hnf hcl fun f c' pm ctv H2 s' I2 hln hT2 of hfn hff hco => wpAny_bind (wpAny_standAt (wpAny_pure (wpAny_evalAll_nil ?_)))))
    have S2 : Step B Y D1 z1 σ H1 D1 z1 H2 := Step.lam S1.rel on (by rw [hq]; exact hln) (by rw [hq]; exact hT2)
    have hl : H2 a = some (.lst (ps.map V.ref)) := S2.rel.dat _ _ ha
    have htp : ∀ (i : Nat) (p : Addr), ps[i]? = some p → ∃ f : Int × Int, fs[i]? = some f ∧ H2 p = some (.tup [.int f.1, .int f.2]) := fun i p h => by
      obtain ⟨f, h1, h2⟩ := hpt i p h
      exact ⟨f, h1, S2.rel.dat _ _ h2⟩
    show wpAny _ _ (call (.builtin "max") [Value.ref a] [(Str.ofString "key", Value.ref f)]) _ _ s'
    have hfl : 0 < fs.length := List.length_pos_iff.mpr hne
    refine max_run (kf := fun i => ((fs[i]?).map keyF).getD 0) I2 hl (by omega) of hfn hff hco S hr (fun v => hb _ _ _ _ _ v) (fun A outer s3 E hr' => ⟨_, pe_op op_fdivN (pe_op op_mul (pe_ix ix_tup (pe_var (i := 0) rfl hv hd hcd) pe_int (by intro _ _; rfl)) pe_int) (pe_ix ix_tup (pe_var (i := 0) rfl hv hd hcd) pe_int (by intro _ _; rfl)), fun i p hp => ?_⟩) fun j p hp hmax => ?_
    · obtain ⟨g, hg1, hg2⟩ := htp i p hp
      obtain ⟨g0, g1, g2, g3⟩ := hbd g (List.mem_of_getElem? hg1)
      refine ⟨_, rfl, p, _, 0, .int g.1, rfl, rfl, SqT.of hg2, rfl, g.1, 5040, rfl, rfl, .inl ⟨g2, g3⟩, _, rfl, p, _, 1, .int g.2, rfl, rfl, SqT.of hg2, rfl, g.1 * 5040, g.2, rfl, rfl, ⟨by omega, by omega⟩, ?_, rfl⟩
      show V.int ((g.1 * 5040).fdiv g.2) = V.int (((fs[i]?).map keyF).getD 0)
      rw [hg1]; rfl
    · obtain ⟨g, hg1, hg2⟩ := hpt j p hp
      refine kk (frD' g) z1 (q g (List.mem_of_getElem? hg1) fun g' hg' => ?_) (.ref p) H2 D1 (S1.trans S2) (Rp.mk_tup hg2 (RpA.mk_cons (Rp.mk_int _) (RpA.mk_cons (Rp.mk_int _) RpA.mk_nil)))
      obtain ⟨i, hi⟩ := List.getElem?_of_mem hg'
      have := hmax i (by rw [hps]; exact (List.getElem?_eq_some_iff.mp hi).1)
      rw [hi, hg1] at this
      exact this
  | _ => exact q.elim
end
end Kz

set_option Elab.async false
set_option linter.all false
set_option maxRecDepth 100000
set_option maxHeartbeats 4000000
set_option autoImplicit false
/-! Names are forgotten at a body's start. -/
namespace Kz
open PySem PySem.Spec PyProof.Rows L2
section
variable {X : Cx} {B : RB}
def keepE : List (Option SV) → Nat → List (Option SV)
  | [], _ => []
  | _ :: r, 0 => none :: keepE r 0
  | s :: r, k + 1 => s :: keepE r k
theorem kp2 {a b : Option SV} {r : List (Option SV)} : keepE (a :: b :: r) 2 = a :: b :: keepE r 0 := rfl
theorem kp0 {a : Option SV} {r : List (Option SV)} : keepE (a :: r) 0 = none :: keepE r 0 := rfl
theorem kpn {k : Nat} : keepE [] k = [] := by cases k <;> rfl
theorem keepE_length : ∀ (e : List (Option SV)) (k : Nat), (keepE e k).length = e.length
  | [], _ => rfl
  | _ :: r, 0 => congrArg Nat.succ (keepE_length r 0)
  | _ :: r, k + 1 => congrArg Nat.succ (keepE_length r k)
theorem keepE_get : ∀ (e : List (Option SV)) (k i : Nat) (s : Option SV), (keepE e k)[i]? = some s → s = none ∨ e[i]? = some s
  | [], _, i, s, h => by simp [keepE] at h
  | x :: r, 0, 0, s, h => .inl (by cases h; rfl)
  | x :: r, 0, i + 1, s, h => keepE_get r 0 i s (by simpa [keepE] using h)
  | x :: r, k + 1, 0, s, h => .inr (by cases h; rfl)
  | x :: r, k + 1, i + 1, s, h => keepE_get r k i s (by simpa [keepE] using h)
theorem Rel.less {Y : RC} {D H : Hp} {e e' : List (Option SV)} {w : Wd} {σ : L2.St} (R : Rel B Y D ⟨e, w⟩ σ H) (hl : e'.length = e.length) (hs : ∀ (i : Nat) s, e'[i]? = some s → s = none ∨ e[i]? = some s) : Rel B Y D ⟨e', w⟩ σ H := by
  refine ⟨R.keep, R.dat, R.dom, R.wr, R.len.trans hl.symm, fun i s h => ?_, fun i j o o' p h1 h2 h3 h4 => ?_⟩
  · rcases hs i s h with rfl | q
    · have lt : i < σ.length := by
        rw [R.len]
        show i < e.length
        rw [← hl]
        exact (List.getElem?_eq_some_iff.mp h).1
      exact ⟨σ[i], List.getElem?_eq_getElem lt, True.intro⟩
    · exact R.slot i s q
  · rcases hs i _ h1 with q | q
    · cases q
    · rcases hs j _ h2 with q2 | q2
      · cases q2
      · exact R.inj i j o o' p q q2 h3 h4
def zDropB (k : Nat) (t : ZS) : ZS := fun E z => t E ⟨keepE z.e k, z.w⟩
theorem zs_dropB (k : Nat) {st : List Stmt} {t : ZS} (h : DSs X B st t) : DSs X B st (zDropB k t) :=
  pss_weak h fun T σ H ⟨Y, D, z, E, R, ht, q⟩ => ⟨Y, D, _, E, R.less (keepE_length _ _) (keepE_get _ _), ht, q⟩
theorem wipeE_get {e : List (Option SV)} {i : Nat} {s : Option SV} : ∀ {vs : List Nat}, (wipeE e vs)[i]? = some s → s = none ∨ e[i]? = some s
  | [], h => .inr h
  | v :: vs, h => by
    unfold wipeE at h
    by_cases q : v = i
    · subst q
      rw [List.getElem?_set_self' ] at h
      cases x : (wipeE e vs)[v]? with
      | none => rw [x] at h; cases h
      | some y => rw [x] at h; cases h; exact .inl rfl
    · rw [List.getElem?_set_ne q] at h
      exact wipeE_get h
def zForget (is : List Nat) (t : ZS) : ZS := fun E z => t E ⟨wipeE z.e is, z.w⟩
theorem zs_forget (is : List Nat) {st : List Stmt} {t : ZS} (h : DSs X B st t) : DSs X B st (zForget is t) :=
  pss_weak h fun T σ H ⟨Y, D, z, E, R, ht, q⟩ => ⟨Y, D, _, E, R.less (wipeE_length _ _) fun _ _ => wipeE_get, ht, q⟩
end
end Kz

set_option Elab.async false
set_option linter.all false
set_option maxRecDepth 100000
set_option maxHeartbeats 4000000
set_option autoImplicit false
/-! The law's own def. -/
namespace Kz
open PySem PySem.Spec PyProof.Rows L2
def lawN : List Str := ["_law_script", "_law_stream", "_law_turn", "_law_net", "_law_distances", "_law_told", "_law_links", "_law_given", "_law_lows", "_law_was", "_law_due", "_law_found", "_law_plan", "_law_some", "_law_pair", "_law_k", "_law_bent_here", "_law_kept", "_law_same_here", "_law_begin"]
theorem sc_law : FnScope ["_law_script", "_law_stream", "_law_turn", "_law_net", "_law_distances", "_law_told", "_law_links", "_law_given", "_law_lows", "_law_was", "_law_due", "_law_found", "_law_plan", "_law_some", "_law_pair", "_law_k", "_law_bent_here", "_law_kept", "_law_same_here", "_law_begin"] ["_law_script"] (defScope Kp.s_law) := ⟨rfl, rfl, rfl, by decide +kernel, rfl, by decide +kernel, by decide +kernel⟩
theorem iteF {c : Prop} [Decidable c] {A B : Prop} (h : ¬ c) (b : B) : if c then A else B := by rw [if_neg h]; exact b
theorem iteT {c : Prop} [Decidable c] {A B : Prop} (h : c) (b : A) : if c then A else B := by rw [if_pos h]; exact b
theorem zC_red {d : D} {z : Z} {Q : D → Z → Prop} (h : Q d z) : zC d z Q := h
theorem seq_intro {t u : ZS} {E : ZEnds} {z : Z} (h : ∀ R : Z → Prop, R = u E → t { E with nx := R } z) : zSeq t u E z := h _ rfl
theorem ifs_nn {i : Nat} {t u : ZS} {E : ZEnds} {z : Z} {o : OD} (h : look z.e i = some (.own o)) (k : t E z) : zIfS (zNN i) t u E z := by
  unfold zIfS zNN
  rw [h]
  exact k
theorem size1 : 1 ≤ sizeLine := by rw [sizeLine_eq]; omega
section
variable {P : Program} {w : World} {K : PySem.W.Frag} {mg : Str → Option Value} {base : Heap} {B : RB}
theorem law_rest {fa Tc : Addr} {s : Shared} {H : Hp} {E : XK} (T : Top K mg B) (hK : B.K = K) (TB : LamX.TabB base mg Tc B.ta) (hq : B.tq = (envOfC "law" (defScope Kp.s_law) s.heap.objs.size fa (.ref Tc)).qual ++ "<lambda>")
    (hr : Room 20 (callerA.deeper (envOfC "law" (defScope Kp.s_law) s.heap.objs.size fa (.ref Tc)))) (G_law_n_net : ZDef P w K mg base B "_law_n_net" 3 F_law_n_net) (G_law_n_distances : ZDef P w K mg base B "_law_n_distances" 3 F_law_n_distances) (G_law_n_all_links : ZDef P w K mg base B "_law_n_all_links" 2 F_law_n_all_links) (G_law_loose : ZDef P w K mg base B "_law_loose" 6 (F_law_loose 4)) (G_law_n_lows : ZDef P w K mg base B "_law_n_lows" 3 F_law_n_lows) (G_law_is_let : ZDef P w K mg base B "_law_is_let" 3 F_law_is_let) (G_law_same : ZDef P w K mg base B "_law_same" 5 (F_law_same 4)) (G_periods : ZDef P w K mg base B "periods" 6 F_periods) (G_law_keeps : ZDef P w K mg base B "_law_keeps" 2 F_law_keeps) (G_law_turned_up : ZDef P w K mg base B "_law_turned_up" 1 F_law_turned_up) (G_law_bent : ZDef P w K mg base B "_law_bent" 3 F_law_bent) (G_is_own_plan : ZDef P w K mg base B "is_own_plan" 6 F_is_own_plan) (G_own_periods : ZDef P w K mg base B "own_periods" 6 F_own_periods) (G_own_plan : ZDef P w K mg base B "own_plan" 7 F_own_plan) (G_periodic_plan : ZDef P w K mg base B "periodic_plan" 6 F_periodic_plan) (G_Net : ZIni P w K mg base B "Net" 6 F_init) :
    ∃ t, DSs (cxOf CX0 P w K mg base ["_law_script", "_law_stream", "_law_turn", "_law_net", "_law_distances", "_law_told", "_law_links", "_law_given", "_law_lows", "_law_was", "_law_due", "_law_found", "_law_plan", "_law_some", "_law_pair", "_law_k", "_law_bent_here", "_law_kept", "_law_same_here", "_law_begin"] "law" (defScope Kp.s_law) fa (.ref Tc) callerA [] s H E).nox B (defBody Kp.s_law).tail t ∧
      ∀ p wd, WOk wd p 0 → t (fin fun v _ => v = .dat (.bl true)) ⟨none :: some (.dat (.adr p)) :: List.replicate 18 none, wd⟩ := by
  subst hK
  have sc := sc_law
  have hg0 : (callerA.deeper (envOfC "law" (defScope Kp.s_law) s.heap.objs.size fa (.ref Tc))).guards = some [] := rfl
  have hu0 : (callerA.deeper (envOfC "law" (defScope Kp.s_law) s.heap.objs.size fa (.ref Tc))).units + 66 < cLine := by have := hr.un; omega
  refine ⟨_, (zs_cons (zs_for (zi_rng1 zint T.range) (zg_name 2 sc.nd) (zs_dropB 2 (zs_cons (zs_set (i := 3) (z_M (z_E (z_call G_law_n_net (hr.mono (by decide)) (by rfl) (za_cons (zv 1) (za_cons zint za_nil))))) sc.nd) (zs_cons (zs_set (i := 4) (z_M (z_E (z_call G_law_n_distances (hr.mono (by decide)) (by rfl) (za_cons (zv 1) (za_cons (zv 3) za_nil))))) sc.nd) (zs_cons (zs_par3 (i := 5) (j := 6) (l := 7) (z_make G_Net (hr.mono (by decide)) (by rfl) (za_cons (z_ix (zv 3) zint) (za_cons (z_ix (zv 3) zint) za_nil))) (z_M (z_E (z_call G_law_n_all_links (hr.mono (by decide)) (by rfl) (za_cons (zv 3) (za_cons (zv 4) za_nil))))) (z_M (z_E (z_call G_law_loose (hr.mono (by decide)) (by rfl) (za_cons (zv 1) (za_cons (zv 4) za_nil))))) sc.nd) (zs_cons (zs_par (i := 8) (j := 9) (z_M (z_E (z_call G_law_n_lows (hr.mono (by decide)) (by rfl) (za_cons (z_ix (zv 3) zint) (za_cons (zv 6) za_nil))))) (z_M (z_E (z_bi (call_repr_dp hg0 hu0) (l_repr rfl) T.repr (by decide +kernel) (za_cons (zv 7) za_nil)))) sc.nd) (zs_cons (zs_set (i := 10) (z_M (z_if (z_val (z_E (z_call G_law_is_let (hr.mono (by decide)) (by rfl) (za_cons (z_ix (zv 3) zint) (za_cons (zv 6) (za_cons (zv 8) za_nil)))))) (zv 8) znon)) sc.nd) (zs_cons (zs_par (i := 11) (j := 12) (z_call G_own_periods (hr.mono (by decide)) (by rfl) (za_cons (zv 5) (za_cons (zv 7) za_nil))) (z_call G_own_plan (hr.mono (by decide)) (by rfl) (za_cons (zv 5) (za_cons (zv 7) za_nil))) sc.nd) (zs_cons (zs_bor [] (zs_if (PW.pt (z_or (z_not (z_val (z_E (z_call G_law_same (hr.mono (by decide)) (by rfl) (za_cons (z_E (z_lst (za_cons (zv 11) za_nil))) (za_cons (z_E (z_lst (za_cons (zv 10) za_nil))) za_nil)))))) (z_or (z_cmpT op_ne l_ne (z_E (z_bi (call_repr_dp hg0 hu0) (l_repr rfl) T.repr (by decide +kernel) (za_cons (zv 7) za_nil))) (zv 9) (nomark _)) (z_or1 (z_cmpT op_ne l_ne (z_isN (zv 12)) (z_isN (zv 10)) (nomark _)))))) (zs_one (zs_ret zbl)) zs_nil)) (zs_cons (zs_set (i := 13) (z_M (z_E (z_call G_periods (hr.mono (by decide)) (by rfl) (za_cons (zv 5) (za_cons (zv 4) za_nil))))) sc.nd) (zs_cons (zs_if (PW.pt (z_and (z_notNT (zv 13)) (z_and1 (PW.pt (z_or (z_isNT (zv 10)) (z_or1 (z_neDT hr.units (z_maxKey (c := Tc) (n := "_law_rate") (k := 0) (zv 10) T.max TB rfl hq (hr.mono (by decide)) ⟨rfl, rfl, rfl, by decide +kernel, rfl, by decide +kernel, by decide +kernel⟩ rfl (by decide +kernel) rfl (fun _ _ _ _ _ _ => rfl) (Or.inl rfl) (by decide) (by decide)) (z_ix (zv 13) zint)))))))) (zs_one (zs_ret zbl)) zs_nil) (zs_cons (zs_if (z_nn 12) (zs_cons (zs_bor [14] (zs_if (PW.pt (z_or (z_not (z_val (z_E (z_call G_law_keeps (hr.mono (by decide)) (by rfl) (za_cons (zv 6) (za_cons (z_ix (zv 3) zint) (za_cons (zv 12) (za_cons zint za_nil)))))))) (z_or1 (z_not (z_val (z_E (z_call G_law_same (hr.mono (by decide)) (by rfl) (za_cons (z_E (z_comp (own := [("_law_pair", 14)]) (zi_seq (zv 12)) (blkOk_by (by rfl)) (fun _ _ _ _ _ => (zg_name 14 sc.nd)) (fun _ _ _ _ _ => zts_nil) (fun _ _ _ _ _ => (z_ix (zv 14) zint)) sc.nd)) (za_cons (zv 10) za_nil))))))))) (zs_one (zs_ret zbl)) zs_nil)) (zs_cons (zs_bor [14] (zs_if (z_not (z_val (z_E (z_bi (cr_all rfl) (l_all rfl) T.all (by decide +kernel) (za_cons (z_E (z_comp (own := [("_law_pair", 14)]) (zi_seq (zv 12)) (blkOk_by (by rfl)) (fun _ _ _ _ _ => (zg_name 14 sc.nd)) (fun _ _ _ _ _ => zts_nil) (fun _ _ _ _ _ => (z_andV (z_isi (id := "tuple") (zv 14) T.isinstance T.tuple (by decide +kernel)) (z_one (z_E (z_call G_law_same (hr.mono (by decide)) (by rfl) (za_cons (z_ix (zv 14) zint) (za_cons (z_E (z_call G_law_turned_up (hr.mono (by decide)) (by rfl) (za_cons (z_ix (zv 14) zint) za_nil))) za_nil))))))) sc.nd)) za_nil))))) (zs_one (zs_ret zbl)) zs_nil)) (zs_cons (zs_bor [15, 16] (zs_for (zi_rng1 zint T.range) (zg_name 15 sc.nd) (zs_cons (zs_set (i := 16) (z_M (z_if (z_cmpT op_gt l_B0 (zv 15) zint (nomark _)) (z_E (z_call G_law_bent (hr.mono (by decide)) (by rfl) (za_cons (zv 1) (za_cons (zv 12) za_nil)))) (z_E (z_call G_law_loose (hr.mono (by decide)) (by rfl) (za_cons (zv 1) (za_cons (zv 12) za_nil)))))) sc.nd) (zs_one (zs_if (z_not (z_val (z_E (z_call G_law_same (hr.mono (by decide)) (by rfl) (za_cons (z_E (z_call G_is_own_plan (hr.mono (by decide)) (by rfl) (za_cons (zv 5) (za_cons (zv 4) (za_cons (zv 16) za_nil))))) (za_cons (z_E (z_call G_law_keeps (hr.mono (by decide)) (by rfl) (za_cons (zv 6) (za_cons (z_ix (zv 3) zint) (za_cons (zv 16) (za_cons zint za_nil)))))) za_nil)))))) (zs_one (zs_ret zbl)) zs_nil))))) (zs_forget [15, 16] (zs_cons (zs_bor [17] (zs_set (i := 17) (z_M (z_E (z_bi (call_repr_dp hg0 hu0) (l_repr rfl) T.repr (by decide +kernel) (za_cons (zv 12) za_nil)))) sc.nd)) (zs_cons (zs_expr (z_app 12 zstr)) (zs_cons (zs_expr (z_app 11 zstr)) (zs_one (zs_if (PW.pt (z_or (z_cmpT op_ne l_ne (z_E (z_bi (call_repr_dp hg0 hu0) (l_repr rfl) T.repr (by decide +kernel) (za_cons (z_E (z_call G_own_plan (hr.mono (by decide)) (by rfl) (za_cons (zv 5) (za_cons (zv 4) za_nil)))) za_nil))) (zv 17) (nomark _)) (z_or1 (z_not (z_val (z_E (z_call G_law_same (hr.mono (by decide)) (by rfl) (za_cons (z_E (z_call G_own_periods (hr.mono (by decide)) (by rfl) (za_cons (zv 5) (za_cons (zv 4) za_nil)))) (za_cons (zv 10) za_nil))))))))) (zs_one (zs_ret zbl)) zs_nil))))))))) zs_nil) (zs_one (zs_if (z_notNT (zv 13)) (zs_cons (zs_setLc (i := 18) (own := [("_law_begin", 19)]) (zi_seq (z_E (z_call G_periodic_plan (hr.mono (by decide)) (by rfl) (za_cons (zv 5) (za_cons (zv 4) (za_cons (z_ix (zv 13) zint) za_nil)))))) (blkOk_by (by rfl)) (fun _ _ _ _ _ => (zg_name 19 sc.nd)) (fun _ _ _ _ _ => zts_nil) (fun _ _ _ _ _ => (z_tup (za_cons (zv 19) (za_cons (z_ix (zv 13) zint) za_nil)))) sc.nd) (zs_one (zs_if (z_notTrue (z_E (z_call G_is_own_plan (hr.mono (by decide)) (by rfl) (za_cons (zv 5) (za_cons (zv 4) (za_cons (zv 18) za_nil)))))) (zs_one (zs_ret zbl)) zs_nil))) zs_nil)))))))))))))) (zs_one (zs_ret zbl))), fun p wd W => ?_⟩
  refine ⟨by decide, by decide, fun i z => ∃ (x2 x3 x4 x5 x6 x7 x8 x9 x10 x11 x12 x13 x14 x15 x16 x17 x18 x19 : Option SV) (w' : Wd), z = ⟨[none, some (.dat (.adr p)), x2, x3, x4, x5, x6, x7, x8, x9, x10, x11, x12, x13, x14, x15, x16, x17, x18, x19], w'⟩ ∧ WOk w' p (3000 * i),
    ⟨_, _, _, _, _, _, _, _, _, _, _, _, _, _, _, _, _, _, wd, rfl, W⟩, fun i d z hd ⟨x2, x3, x4, x5, x6, x7, x8, x9, x10, x11, x12, x13, x14, x15, x16, x17, x18, x19, w0, hz, W0⟩ => ?_, fun z ⟨x2, x3, x4, x5, x6, x7, x8, x9, x10, x11, x12, x13, x14, x15, x16, x17, x18, x19, w0, hz, W0⟩ => ?_⟩
  · subst hz
    have hi : i < 6 := by
      have := (List.getElem?_eq_some_iff.mp hd).1
      rw [rangeD_length] at this
      exact this
    have cap : ∀ m : Nat, m ≤ 3000 → 3000 * i + m ≤ capW := fun m hm => by show 3000 * i + m ≤ 1000000000; omega
    show zDropB _ _ _ ⟨[none, some (.dat (.adr p)), some (.dat d), x3, x4, x5, x6, x7, x8, x9, x10, x11, x12, x13, x14, x15, x16, x17, x18, x19], w0⟩
    show (zSeq _ _) _ ⟨[none, some (.dat (.adr p)), none, none, none, none, none, none, none, none, none, none, none, none, none, none, none, none, none, none], w0⟩
    refine seq_intro fun R hR => ?_
    refine ⟨p, 3000 * i, rfl, W0, cap 1100 (by decide), fun n arcs w1 A W1 => ?_⟩
    show R ⟨[none, some (.dat (.adr p)), none, some (.dat (netD n arcs)), none, none, none, none, none, none, none, none, none, none, none, none, none, none, none, none], w1⟩
    subst hR
    refine seq_intro fun R hR => ?_
    have n5 := A.n5
    have l6 := A.l6
    refine ⟨p, 3000 * i + 100, n, arcs, rfl, W1, cap 200 (by decide), A.n0, A.n5, fun dl w2 hl hd2 W2 => ?_⟩
    show R ⟨[none, some (.dat (.adr p)), none, some (.dat (netD n arcs)), some (.dat (.lst (dl.map lkD))), none, none, none, none, none, none, none, none, none, none, none, none, none, none, none], w2⟩
    subst hR
    refine seq_intro fun R hR => ?_
    refine ⟨.int n, rfl, linksD arcs, rfl, ?_⟩
    refine ⟨n, arcs, rfl, A, fun nl ns' ds' pm hnet dx => ?_⟩
    refine ⟨n, arcs, dl, rfl, by omega, by omega, by omega, ?_⟩
    refine ⟨p, 3000 * i + 100 + 100, _, rfl, W2, by show 3000 * i + 100 + 100 + 156 ≤ 1000000000; omega, big_looseD _ _ (big_lks (m := 1) hl A.n5 hd2), fun g w3 hg W3 => ?_⟩
    have hbig := big_loose _ _ _ hg (big_lks (m := 1) hl A.n5 hd2)
    have N : NetOk n (arcs ++ selfs n ++ dl.map rev) := netok_of A hl hd2 (.refl _)
    have Tl : Told n nl dl := told_of A pm hl hd2
    have hds := isDs_of hg
    have hds0 := isDs_self dl
    have mem := mem_all (dl := dl) pm
    have Nt := Tl.net
    have he1 : ∀ q : D, [(OD.ins dx ns' ds').d, q] = [.net n (linksD nl), q] := fun q => congrArg (fun u => [u, q]) hnet
    have he2 : ∀ q r : D, [(OD.ins dx ns' ds').d, q, r] = [.net n (linksD nl), q, r] := fun q r => congrArg (fun u => [u, q, r]) hnet
    generalize hls : arcs ++ selfs n ++ dl.map rev = ls at N mem ⊢
    show R ⟨[none, some (.dat (.adr p)), none, some (.dat (netD n arcs)), some (.dat (.lst (dl.map lkD))), some (.own (.ins dx ns' ds')), some (.dat (linksD ls)), some (.dat g), none, none, none, none, none, none, none, none, none, none, none, none], w3⟩
    subst hR
    refine seq_intro fun R hR => ?_
    refine ⟨.int n, rfl, n, ls, rfl, N, fun fs L => ?_⟩
    have Lt := L.congr mem
    obtain ⟨g1, g2, g3, g4, g5, g6⟩ := big_repr (by decide) (loose_seq hg) hbig
    refine ⟨g1, g2, g3, g4, g5, g6, ?_⟩
    show R ⟨[none, some (.dat (.adr p)), none, some (.dat (netD n arcs)), some (.dat (.lst (dl.map lkD))), some (.own (.ins dx ns' ds')), some (.dat (linksD ls)), some (.dat g), some (.dat (.lst (fs.map frD))), some (.dat (.str (toP g).shown)), none, none, none, none, none, none, none, none, none, none], w3⟩
    subst hR
    refine seq_intro fun R hR => ?_
    by_cases C : Clash ls
    · have C' : Clash (allL nl dl) := (Clash.congr mem).mp C
      refine ⟨.int n, rfl, n, ls, fs, rfl, N, L, fun _ => ?_, fun h => (h C).elim⟩
      show R ⟨[none, some (.dat (.adr p)), none, some (.dat (netD n arcs)), some (.dat (.lst (dl.map lkD))), some (.own (.ins dx ns' ds')), some (.dat (linksD ls)), some (.dat g), some (.dat (.lst (fs.map frD))), some (.dat (.str (toP g).shown)), some (.dat .non), none, none, none, none, none, none, none, none, none], w3⟩
      subst hR
      refine seq_intro fun R hR => ?_
      refine ⟨n, nl, g, dl, he1 g, hds, Tl, fun _ => ?_, fun h => (h C').elim⟩
      refine ⟨n, nl, g, dl, he1 g, hds, Tl, ⟨fs, Lt⟩, fun _ => ?_, fun h => (h C').elim⟩
      show R ⟨[none, some (.dat (.adr p)), none, some (.dat (netD n arcs)), some (.dat (.lst (dl.map lkD))), some (.dat (OD.ins dx ns' ds').d), some (.dat (linksD ls)), some (.dat g), some (.dat (.lst (fs.map frD))), some (.dat (.str (toP g).shown)), some (.dat .non), some (.dat .non), some (.dat .non), none, none, none, none, none, none, none], w3⟩
      subst hR
      refine seq_intro fun R hR => ?_
      refine fun vs => ⟨size1, size1, .lst [.non], rfl, ⟨by show 1 ≤ 1000; decide, fun x hx => by rw [List.mem_singleton.mp hx]; exact True.intro⟩, ?_⟩
      refine ⟨g1, g2, g3, g4, g5, g6, ?_⟩
      refine iteF (by simp [SV.d]) ?_
      refine ⟨rfl, ?_⟩
      show R ⟨[none, some (.dat (.adr p)), none, some (.dat (netD n arcs)), some (.dat (.lst (dl.map lkD))), some (.dat (OD.ins dx ns' ds').d), some (.dat (linksD ls)), some (.dat g), some (.dat (.lst (fs.map frD))), some (.dat (.str (toP g).shown)), some (.dat .non), some (.dat .non), some (.dat .non), none, none, none, none, none, none, none], w3⟩
      subst hR
      refine seq_intro fun R hR => ?_
      have pe : PerEmpty (allL nl dl) := Classical.byContradiction fun e => per_clash Nt e C'
      refine ⟨n, nl, _, dl, he1 _, hds0, Tl, fun _ => ?_, fun h => (h pe).elim⟩
      show R ⟨[none, some (.dat (.adr p)), none, some (.dat (netD n arcs)), some (.dat (.lst (dl.map lkD))), some (.dat (OD.ins dx ns' ds').d), some (.dat (linksD ls)), some (.dat g), some (.dat (.lst (fs.map frD))), some (.dat (.str (toP g).shown)), some (.dat .non), some (.dat .non), some (.dat .non), some (.dat .non), none, none, none, none, none, none], w3⟩
      subst hR
      refine seq_intro fun R hR => ?_
      show R ⟨[none, some (.dat (.adr p)), none, some (.dat (netD n arcs)), some (.dat (.lst (dl.map lkD))), some (.dat (OD.ins dx ns' ds').d), some (.dat (linksD ls)), some (.dat g), some (.dat (.lst (fs.map frD))), some (.dat (.str (toP g).shown)), some (.dat .non), some (.dat .non), some (.dat .non), some (.dat .non), none, none, none, none, none, none], w3⟩
      subst hR
      refine seq_intro fun R hR => ?_
      show R ⟨[none, some (.dat (.adr p)), none, some (.dat (netD n arcs)), some (.dat (.lst (dl.map lkD))), some (.dat (OD.ins dx ns' ds').d), some (.dat (linksD ls)), some (.dat g), some (.dat (.lst (fs.map frD))), some (.dat (.str (toP g).shown)), some (.dat .non), some (.dat .non), some (.dat .non), some (.dat .non), none, none, none, none, none, none], w3⟩
      subst hR
      refine ⟨_, _, _, _, _, _, _, _, _, _, _, _, _, _, _, _, _, _, w3, rfl, W3.mono (by show 3000 * i + 100 + 100 + 156 ≤ 3000 * (i + 1); omega)⟩
    · have C' : ¬ Clash (allL nl dl) := fun h => C ((Clash.congr mem).mpr h)
      refine ⟨.int n, rfl, n, ls, fs, rfl, N, L, fun h => (C h).elim, fun _ => ?_⟩
      show R ⟨[none, some (.dat (.adr p)), none, some (.dat (netD n arcs)), some (.dat (.lst (dl.map lkD))), some (.own (.ins dx ns' ds')), some (.dat (linksD ls)), some (.dat g), some (.dat (.lst (fs.map frD))), some (.dat (.str (toP g).shown)), some (.dat (.lst (fs.map frD))), none, none, none, none, none, none, none, none, none], w3⟩
      subst hR
      refine seq_intro fun R hR => ?_
      refine ⟨n, nl, g, dl, he1 g, hds, Tl, fun h => (C' h).elim, fun _ fs1 L1 => ?_⟩
      obtain rfl := Lt.unique L1
      refine ⟨n, nl, g, dl, he1 g, hds, Tl, ⟨_, Lt⟩, fun h => (C' h).elim, fun _ fs2 bs L2 PB => ?_⟩
      obtain rfl := Lt.unique L2
      have O := own_plan_ok Nt Lt C' PB
      have Osnd := planPs_snd (B := (botN fs : Int)) Lt.len PB.len
      have Oeq := planD_eq fs bs
      have Oeq2 := planD_eq fs bs
      generalize hpp : planPs (botN fs : Int) fs bs = ps at O Osnd Oeq Oeq2
      generalize planD fs bs = pd at Oeq ⊢
      subst Oeq
      have rk := rates_ok Nt Lt
      have bigF : bigD 3 (.lst (fs.map frD)) := big_frs (by rw [Lt.len]; exact n5) fun f hf => by
        obtain ⟨r1, r2, r3, r4⟩ := rk f hf
        exact ⟨⟨by omega, by omega⟩, ⟨by omega, by omega⟩⟩
      have sF : sameD 4 (.lst [.lst (fs.map frD)]) := ⟨by show 1 ≤ 1000; decide, fun x hx => by rw [List.mem_singleton.mp hx]; exact big_same 3 _ bigF⟩
      have hpl : ps.length ≤ 5 := by rw [O.len]; exact n5
      show R ⟨[none, some (.dat (.adr p)), none, some (.dat (netD n arcs)), some (.dat (.lst (dl.map lkD))), some (.dat (OD.ins dx ns' ds').d), some (.dat (linksD ls)), some (.dat g), some (.dat (.lst (fs.map frD))), some (.dat (.str (toP g).shown)), some (.dat (.lst (fs.map frD))), some (.own (.lst (fs.map frD))), some (.own (.lst (ps.map prD))), none, none, none, none, none, none, none], w3⟩
      subst hR
      refine seq_intro fun R hR => ?_
      refine fun vs => ⟨size1, size1, .lst [.lst (fs.map frD)], rfl, sF, ?_⟩
      refine ⟨g1, g2, g3, g4, g5, g6, ?_⟩
      refine iteF (by simp [SV.d]) ?_
      refine ⟨rfl, ?_⟩
      show R ⟨[none, some (.dat (.adr p)), none, some (.dat (netD n arcs)), some (.dat (.lst (dl.map lkD))), some (.dat (OD.ins dx ns' ds').d), some (.dat (linksD ls)), some (.dat g), some (.dat (.lst (fs.map frD))), some (.dat (.str (toP g).shown)), some (.dat (.lst (fs.map frD))), some (.own (.lst (fs.map frD))), some (.own (.lst (ps.map prD))), none, none, none, none, none, none, none], w3⟩
      subst hR
      refine seq_intro fun R hR => ?_
      suffices key : ∀ sm : D, (sm = .non ∨ ∃ (lo : List Lk) (u : D), sm = .tup [frD (asks lo), u] ∧ ¬ PerEmpty (allL nl dl) ∧ BstP (TopS (allL nl dl)) (some lo)) → R ⟨[none, some (.dat (.adr p)), none, some (.dat (netD n arcs)), some (.dat (.lst (dl.map lkD))), some (.dat (OD.ins dx ns' ds').d), some (.dat (linksD ls)), some (.dat g), some (.dat (.lst (fs.map frD))), some (.dat (.str (toP g).shown)), some (.dat (.lst (fs.map frD))), some (.own (.lst (fs.map frD))), some (.own (.lst (ps.map prD))), some (.dat sm), none, none, none, none, none, none], w3⟩ from
        ⟨n, nl, _, dl, he1 _, hds0, Tl, fun pe => key _ (.inl rfl), fun npe lo u LO => key _ (.inr ⟨lo, u, rfl, npe, LO⟩)⟩
      subst hR
      intro sm hsm
      refine seq_intro fun R hR => ?_
      suffices key : R ⟨[none, some (.dat (.adr p)), none, some (.dat (netD n arcs)), some (.dat (.lst (dl.map lkD))), some (.dat (OD.ins dx ns' ds').d), some (.dat (linksD ls)), some (.dat g), some (.dat (.lst (fs.map frD))), some (.dat (.str (toP g).shown)), some (.dat (.lst (fs.map frD))), some (.own (.lst (fs.map frD))), some (.own (.lst (ps.map prD))), some (.dat sm), none, none, none, none, none, none], w3⟩ by
        rcases hsm with rfl | ⟨lo, u, rfl, npe, LO⟩
        · exact key
        · refine ⟨fs, rfl, lo_in Nt Lt, fun f hf => ?_, by show w3.sa.isSome = true; rw [W3.sa]; rfl, fun f hf hmax => ⟨frD (asks lo), rfl, rfl, rfl, ?_, ?_, ?_⟩⟩
          · obtain ⟨r1, r2, r3, r4⟩ := rk f hf
            exact ⟨r1, by omega, by omega, by omega⟩
          · rfl
          · rfl
          · have e := key_top Nt Lt LO hf hmax
            subst e
            have e2 : PyData.eqv (toP (frD (asks lo))) (toP (frD (asks lo))) = true := SeqAt.eqv_refl _ rfl
            refine iteF (by show ¬ ((true != PyData.eqv (toP (frD (asks lo))) (toP (frD (asks lo)))) = true); rw [e2]; decide) ?_
            exact key
      subst hR
      refine seq_intro fun R hR => ?_
      refine ifs_nn rfl ?_
      refine seq_intro fun R2 hR2 => ?_
      refine fun vs => ⟨.int n, rfl, n, ls, .lst (ps.map prD), 12, rfl, N, O.th.1, by decide, fun qs hqs => O.th.2 n qs hqs, fun b hb => ?_⟩
      obtain rfl : b = true := hb.mpr ⟨ps, O.pl, fun l hl => O.keep l ((mem l).mp hl) 12⟩
      refine fun hl1 => ⟨hl1, rfl, fun i acc w' => acc = (ps.take i).map (fun q => frD q.2) ∧ w3 = w', ⟨rfl, rfl⟩, fun i d acc w' hd ⟨ha, hw⟩ => ?_, fun acc w' ⟨ha, hw⟩ => ?_⟩
      · obtain ⟨q, hq, rfl⟩ := gmap hd
        exact ⟨rfl, rfl, frD q.2, rfl, rfl, by rw [ha]; exact tkm (f := fun q : Pr => frD q.2) hq, hw⟩
      rw [List.length_map, List.take_length] at ha
      have ha : acc = fs.map frD := by rw [ha, ← Osnd, List.map_map]; rfl
      subst ha hw
      refine ⟨.lst (fs.map frD), rfl, big_same 4 _ ?_, ?_⟩
      · exact big_frs (by rw [Lt.len]; exact n5) fun f hf => by
          obtain ⟨r1, r2, r3, r4⟩ := rk f hf
          exact ⟨⟨by omega, by omega⟩, ⟨by omega, by omega⟩⟩
      refine ⟨rfl, ?_⟩
      show R2 ⟨[none, some (.dat (.adr p)), none, some (.dat (netD n arcs)), some (.dat (.lst (dl.map lkD))), some (.dat (OD.ins dx ns' ds').d), some (.dat (linksD ls)), some (.dat g), some (.dat (.lst (fs.map frD))), some (.dat (.str (toP g).shown)), some (.dat (.lst (fs.map frD))), some (.own (.lst (fs.map frD))), some (.own (.lst (ps.map prD))), some (.dat sm), none, none, none, none, none, none], w3⟩
      subst hR2
      refine seq_intro fun R2 hR2 => ?_
      refine fun vs => ?_
      refine fun hl1 => ⟨hl1, rfl, fun i acc w' => acc = (ps.take i).map (fun q => D.bl true) ∧ w3 = w', ⟨rfl, rfl⟩, fun i d acc w' hd ⟨ha, hw⟩ => ?_, fun acc w' ⟨ha, hw⟩ => ?_⟩
      · obtain ⟨q, hq, rfl⟩ := gmap hd
        have hq2 := List.mem_of_getElem? hq
        obtain ⟨⟨b1, b2, b3, b4⟩, b5⟩ := O.bd q hq2
        refine ⟨rfl, rfl, "tuple", true, rfl, rfl, frD q.1, rfl, frD q.1, rfl, q.1, rfl, by omega, by omega, by omega, frD q.1, by show [frD q.1, frD (low q.1.1 q.1.2)] = _; rw [O.idem q hq2], big_same 4 _ (big_fr ⟨by omega, by omega⟩ ⟨by omega, by omega⟩), rfl, ?_, hw⟩
        rw [ha]
        exact tkm (f := fun q : Pr => D.bl true) hq
      rw [List.length_map, List.take_length] at ha
      subst ha hw
      refine ⟨ps.map fun _ => true, by rw [List.map_map]; rfl, ?_⟩
      have e1 : (ps.map fun _ => true).all id = true := List.all_eq_true.mpr fun x hx => by
        obtain ⟨_, _, rfl⟩ := List.mem_map.mp hx
        rfl
      rw [e1]
      refine ⟨rfl, ?_⟩
      show R2 ⟨[none, some (.dat (.adr p)), none, some (.dat (netD n arcs)), some (.dat (.lst (dl.map lkD))), some (.dat (OD.ins dx ns' ds').d), some (.dat (linksD ls)), some (.dat g), some (.dat (.lst (fs.map frD))), some (.dat (.str (toP g).shown)), some (.dat (.lst (fs.map frD))), some (.own (.lst (fs.map frD))), some (.own (.lst (ps.map prD))), some (.dat sm), none, none, none, none, none, none], w3⟩
      subst hR2
      refine seq_intro fun R2 hR2 => ?_
      refine fun vs => ?_
      refine ⟨by decide, by decide, fun j z => ∃ (y15 y16 : Option SV) (w' : Wd), z = ⟨[none, some (.bor ((.adr p)) (vs 1)), none, some (.bor ((netD n arcs)) (vs 3)), some (.bor ((.lst (dl.map lkD))) (vs 4)), some (.bor ((OD.ins dx ns' ds').d) (vs 5)), some (.bor ((linksD ls)) (vs 6)), some (.bor (g) (vs 7)), some (.bor ((.lst (fs.map frD))) (vs 8)), some (.bor ((.str (toP g).shown)) (vs 9)), some (.bor ((.lst (fs.map frD))) (vs 10)), some (.bor ((OD.d (.lst (fs.map frD)))) (vs 11)), some (.bor ((OD.d (.lst (ps.map prD)))) (vs 12)), some (.bor (sm) (vs 13)), none, y15, y16, none, none, none], w'⟩ ∧ WOk w' p (3000 * i + 356 + 200 * j),
        ⟨none, none, w3, rfl, W3⟩, fun j d z hd ⟨y15, y16, w4, hz, W4⟩ => ?_, fun z ⟨y15, y16, w4, hz, W4⟩ => ?_⟩
      · subst hz
        have jl : j < 5 := by
          have := (List.getElem?_eq_some_iff.mp hd).1
          rw [rangeD_length] at this
          exact this
        have hd : (rangeD 0 5)[j]? = some d := hd
        rw [rangeD_get 0 jl] at hd
        cases hd
        have capj : 3000 * i + 356 + 200 * j + 200 ≤ capW := by show _ ≤ 1000000000; omega
        show (zSeq _ _) _ ⟨[none, some (.bor ((.adr p)) (vs 1)), none, some (.bor ((netD n arcs)) (vs 3)), some (.bor ((.lst (dl.map lkD))) (vs 4)), some (.bor ((OD.ins dx ns' ds').d) (vs 5)), some (.bor ((linksD ls)) (vs 6)), some (.bor (g) (vs 7)), some (.bor ((.lst (fs.map frD))) (vs 8)), some (.bor ((.str (toP g).shown)) (vs 9)), some (.bor ((.lst (fs.map frD))) (vs 10)), some (.bor ((OD.d (.lst (fs.map frD)))) (vs 11)), some (.bor ((OD.d (.lst (ps.map prD)))) (vs 12)), some (.bor (sm) (vs 13)), none, some (.dat (.int (0 + (j : Int)))), y16, none, none, none], w4⟩
        refine seq_intro fun R3 hR3 => ?_
        suffices key : ∀ th w', okTh th → WOk w' p (3000 * i + 356 + 200 * (j + 1)) → R3 ⟨[none, some (.bor ((.adr p)) (vs 1)), none, some (.bor ((netD n arcs)) (vs 3)), some (.bor ((.lst (dl.map lkD))) (vs 4)), some (.bor ((OD.ins dx ns' ds').d) (vs 5)), some (.bor ((linksD ls)) (vs 6)), some (.bor (g) (vs 7)), some (.bor ((.lst (fs.map frD))) (vs 8)), some (.bor ((.str (toP g).shown)) (vs 9)), some (.bor ((.lst (fs.map frD))) (vs 10)), some (.bor ((OD.d (.lst (fs.map frD)))) (vs 11)), some (.bor ((OD.d (.lst (ps.map prD)))) (vs 12)), some (.bor (sm) (vs 13)), none, some (.dat (.int (0 + (j : Int)))), some (.dat th), none, none, none], w'⟩ by
          refine ite2 (fun c => ?_) fun c => ?_
          · refine ⟨p, 3000 * i + 356 + 200 * j, ps, rfl, W4, by omega, by rw [O.len]; exact A.n0, hpl, fun q hq => ?_, fun th w' ok W' => key th w' ok (W'.mono (by omega))⟩
            obtain ⟨⟨b1, b2, b3, b4⟩, ⟨b5, b6, b7, b8⟩⟩ := O.bd q hq
            exact ⟨by omega, by omega, by omega, by omega⟩
          · exact ⟨p, 3000 * i + 356 + 200 * j, .lst (ps.map prD), rfl, W4, by show 3000 * i + 356 + 200 * j + 156 ≤ _; omega, big_looseD 4 _ (O.big (m := 0) n5), fun th w' lo W' => key th w' (okTh_loose lo O.prod) (W'.mono (by show 3000 * i + 356 + 200 * j + 156 ≤ _; omega))⟩
        subst hR3
        intro th w' ok W'
        refine ⟨n, nl, .lst (dl.map lkD), dl, th, he2 _ _, hds0, Tl, ok.1, fun qs h => ok.2 n qs h, fun b hb => ?_⟩
        refine ⟨.int n, rfl, n, ls, th, 1, rfl, N, ok.1, by decide, fun qs h => ok.2 n qs h, fun b2 hb2 => ?_⟩
        obtain rfl : b = b2 := Bool.eq_iff_iff.mpr (hb.trans ((same_bool fun l => (mem l).symm).trans hb2.symm))
        refine ⟨.bl b, rfl, True.intro, ?_⟩
        exact ⟨_, _, w', rfl, W'⟩
      subst hz
      refine ⟨rfl, ?_⟩
      show R2 ⟨[none, some (.dat (.adr p)), none, some (.dat (netD n arcs)), some (.dat (.lst (dl.map lkD))), some (.dat (OD.ins dx ns' ds').d), some (.dat (linksD ls)), some (.dat g), some (.dat (.lst (fs.map frD))), some (.dat (.str (toP g).shown)), some (.dat (.lst (fs.map frD))), some (.own (.lst (fs.map frD))), some (.own (.lst (ps.map prD))), some (.dat sm), none, flatS y15, flatS y16, none, none, none], w4⟩
      subst hR2
      show (zSeq _ _) _ ⟨[none, some (.dat (.adr p)), none, some (.dat (netD n arcs)), some (.dat (.lst (dl.map lkD))), some (.dat (OD.ins dx ns' ds').d), some (.dat (linksD ls)), some (.dat g), some (.dat (.lst (fs.map frD))), some (.dat (.str (toP g).shown)), some (.dat (.lst (fs.map frD))), some (.own (.lst (fs.map frD))), some (.own (.lst (ps.map prD))), some (.dat sm), none, none, none, none, none, none], w4⟩
      obtain ⟨o1, o2, o3, o4, o5, o6⟩ := big_repr (n := 4) (by decide) rfl (O.big (m := 0) n5)
      have big1 : ∀ k : Nat, k ≤ 5 → k < sizeLine := fun k hk => by rw [sizeLine_eq]; omega
      refine seq_intro fun R2 hR2 => ?_
      refine fun vs => ⟨o1, o2, o3, o4, o5, o6, rfl, ?_⟩
      show R2 ⟨[none, some (.dat (.adr p)), none, some (.dat (netD n arcs)), some (.dat (.lst (dl.map lkD))), some (.dat (OD.ins dx ns' ds').d), some (.dat (linksD ls)), some (.dat g), some (.dat (.lst (fs.map frD))), some (.dat (.str (toP g).shown)), some (.dat (.lst (fs.map frD))), some (.own (.lst (fs.map frD))), some (.own (.lst (ps.map prD))), some (.dat sm), none, none, none, some (.dat (.str (toP (.lst (ps.map prD))).shown)), none, none], w4⟩
      subst hR2
      refine seq_intro fun R2 hR2 => ?_
      refine ⟨big1 _ (by rw [List.length_map]; exact hpl), ?_⟩
      show R2 ⟨[none, some (.dat (.adr p)), none, some (.dat (netD n arcs)), some (.dat (.lst (dl.map lkD))), some (.dat (OD.ins dx ns' ds').d), some (.dat (linksD ls)), some (.dat g), some (.dat (.lst (fs.map frD))), some (.dat (.str (toP g).shown)), some (.dat (.lst (fs.map frD))), some (.own (.lst (fs.map frD))), some (.own (.lst (ps.map prD ++ [.str "late"]))), some (.dat sm), none, none, none, some (.dat (.str (toP (.lst (ps.map prD))).shown)), none, none], w4⟩
      subst hR2
      refine seq_intro fun R2 hR2 => ?_
      refine ⟨big1 _ (by rw [List.length_map, Lt.len]; exact n5), ?_⟩
      show R2 ⟨[none, some (.dat (.adr p)), none, some (.dat (netD n arcs)), some (.dat (.lst (dl.map lkD))), some (.dat (OD.ins dx ns' ds').d), some (.dat (linksD ls)), some (.dat g), some (.dat (.lst (fs.map frD))), some (.dat (.str (toP g).shown)), some (.dat (.lst (fs.map frD))), some (.own (.lst (fs.map frD ++ [.str "late"]))), some (.own (.lst (ps.map prD ++ [.str "late"]))), some (.dat sm), none, none, none, some (.dat (.str (toP (.lst (ps.map prD))).shown)), none, none], w4⟩
      subst hR2
      refine ⟨n, nl, _, dl, he1 _, hds0, Tl, ⟨fs, Lt⟩, fun h => (C' h).elim, fun _ fs2 bs2 L2 PB2 => ?_⟩
      obtain rfl := Lt.unique L2
      obtain rfl := PB.unique PB2
      rw [Oeq2]
      refine ⟨o1, o2, o3, o4, o5, o6, ?_⟩
      refine iteF (by simp [SV.d, OD.d]) ?_
      refine ⟨n, nl, _, dl, he1 _, hds0, Tl, fun h => (C' h).elim, fun _ fs3 L3 => ?_⟩
      obtain rfl := Lt.unique L3
      refine ⟨.lst (fs.map frD), rfl, ?_, ?_⟩
      · exact big_same 4 _ (big_frs (by rw [Lt.len]; exact n5) fun f hf => by
          obtain ⟨r1, r2, r3, r4⟩ := rk f hf
          exact ⟨⟨by omega, by omega⟩, ⟨by omega, by omega⟩⟩)
      show R ⟨[none, some (.dat (.adr p)), none, some (.dat (netD n arcs)), some (.dat (.lst (dl.map lkD))), some (.dat (OD.ins dx ns' ds').d), some (.dat (linksD ls)), some (.dat g), some (.dat (.lst (fs.map frD))), some (.dat (.str (toP g).shown)), some (.dat (.lst (fs.map frD))), some (.own (.lst (fs.map frD ++ [.str "late"]))), some (.own (.lst (ps.map prD ++ [.str "late"]))), some (.dat sm), none, none, none, some (.dat (.str (toP (.lst (ps.map prD))).shown)), none, none], w4⟩
      subst hR
      have W5 : WOk w4 p (3000 * (i + 1)) := W4.mono (by show 3000 * i + 356 + 200 * 5 ≤ _; omega)
      rcases hsm with rfl | ⟨lo, u, rfl, npe, LO⟩
      · exact ⟨_, _, _, _, _, _, _, _, _, _, _, _, _, _, _, _, _, _, w4, rfl, W5⟩
      · obtain ⟨f0, f1, f2, f3, fl⟩ := lo_bd Nt LO
        have rings : ∀ r, Ring (allL nl dl) r → val (wP (asks lo)) r ≤ 0 := fun r hr => by rw [valP]; exact per_val Nt npe LO hr
        refine ⟨frD (asks lo), rfl, n, nl, _, dl, asks lo, he2 _ _, hds0, Tl, f0, f2, f3, f1, fl, rings, fun bs2 PB2 => ?_⟩
        have O2 := per_plan_ok Nt npe LO PB2
        refine fun hl1 => ⟨hl1, rfl, fun i acc w' => acc = (bs2.take i).map (fun b => prD (low b (asks lo).2, asks lo)) ∧ w4 = w', ⟨rfl, rfl⟩, fun i d acc w' hd ⟨ha, hw⟩ => ?_, fun acc w' ⟨ha, hw⟩ => ?_⟩
        · obtain ⟨b, hb, rfl⟩ := gmap hd
          exact ⟨rfl, rfl, frD (asks lo), rfl, size2, rfl, by rw [ha]; exact tkm (f := fun b => prD (low b (asks lo).2, asks lo)) hb, hw⟩
        rw [List.length_map, List.take_length] at ha
        have ha : acc = (bs2.map fun b => (low b (asks lo).2, asks lo)).map prD := by rw [ha, List.map_map]; rfl
        subst ha hw
        refine ⟨n, nl, _, dl, _, he2 _ _, hds0, Tl, O2.th.1, fun qs hqs => O2.th.2 n qs hqs, fun b hb => ?_⟩
        obtain rfl : b = true := hb.mpr (bad_of O2)
        exact ⟨_, _, _, _, _, _, _, _, _, _, _, _, _, _, _, _, _, _, w4, rfl, W5⟩
  · subst hz
    exact rfl
end
end Kz

set_option Elab.async false
set_option linter.all false
set_option maxRecDepth 100000
set_option maxHeartbeats 4000000
set_option autoImplicit false
/-! The law's own def, from its first statement. -/
namespace Kz
open PySem PySem.Spec PyProof.Rows L2
def wd0 : Wd := ⟨[], 0, 0, 0, none⟩
def rc1 (a : Addr) (H : Hp) : RC := ⟨a, a, a, "", false, fun _ => none, H⟩
def rc2 (p q ta : Addr) (tq : Str) : RC := ⟨p, q, ta, tq, true, fun _ => none, fun _ => none⟩
theorem rel1 {B : RB} {H : Hp} {a : Addr} : Rel B (rc1 a H) H ⟨[], wd0⟩ [] H where
  keep := fun b o e => by cases e
  dat := Same.refl _
  dom := fun b hb => .inl hb
  wr := ⟨fun h => absurd h Bool.false_ne_true, fun h => absurd h Bool.false_ne_true, fun h => absurd h Bool.false_ne_true, fun h => absurd h Bool.false_ne_true, fun h => absurd h Bool.false_ne_true, fun h => absurd h Bool.false_ne_true, fun h => absurd h Bool.false_ne_true, fun h => absurd h Bool.false_ne_true, fun h => absurd h Bool.false_ne_true, fun h => absurd h Bool.false_ne_true, fun p e => (by cases e), fun h => absurd h Bool.false_ne_true⟩
  len := rfl
  slot := fun i s e => by simp at e
  inj := fun i j o o' p e => by simp at e
theorem rel2 {B : RB} {D H : Hp} {z : Z} {σ : L2.St} {a : Addr} {H0 : Hp} {g : List Int} {mix : Int} (R : Rel B (rc1 a H0) D z σ H) (hl : z.e.length = 20) (he : z.e[1]? = some (some (.own (.lst [.lst (g.map Kz.D.int), .int mix, .int 0, .int 0]))))
    (hT : D B.ta = some (.tbl #[])) : ∃ p q, Rel B (rc2 p q B.ta B.tq) (fun _ => none) ⟨none :: some (.dat (.adr p)) :: List.replicate 18 none, ⟨g, mix, 0, 0, some p⟩⟩ σ H := by
  obtain ⟨v, hv, p, u, hv2, hp, ob, dp, hp0, off⟩ := R.slot 1 _ he
  obtain ⟨xs, rfl, r⟩ := ob
  obtain ⟨x1, r1, rfl, h1, r⟩ := r.cons_
  obtain ⟨x2, r2, rfl, h2, r⟩ := r.cons_
  obtain ⟨x3, r3, rfl, h3, r⟩ := r.cons_
  obtain ⟨x4, r4, rfl, h4, r⟩ := r.cons_
  rw [r.nil_, h2.int_, h3.int_, h4.int_] at hp
  obtain ⟨q, ys, rfl, hq, rq⟩ := h1.lst_
  rw [RpA.ints rq] at hq
  have hT' := R.dat _ _ hT
  have hq' := R.dat _ _ hq
  have ne : p ≠ q := fun e => by rw [e, hq] at dp; cases dp
  refine ⟨p, q, ⟨fun b o e => (by cases e), fun b o e => (by cases e), fun b hb => (hb rfl).elim, ⟨fun _ => hp, fun _ => hq', fun _ => rfl, fun _ => rfl, fun _ => rfl, fun _ => rfl, fun _ => ne, fun _ => ⟨#[], hT', ?_, ?_⟩, fun _ => rfl, fun _ => rfl, fun p' e => ⟨rfl, Option.some.inj e⟩, fun _ => ⟨rfl, rfl⟩⟩, ?_, fun i s e => ?_, fun i j o o' p' e => ?_⟩⟩
  · first | exact True.intro | constructor | decide
  · intro pos cv hc; cases hc
  · rw [R.len, hl]; rfl
  · have lt : i < 20 := (List.getElem?_eq_some_iff.mp e).1
    match i, e with
    | 0, e => cases e; exact ⟨σ[0]'(by rw [R.len, hl]; decide), List.getElem?_eq_getElem _, True.intro⟩
    | 1, e =>
      cases e
      refine ⟨some (.ref p), by rw [hv, hv2], .ref p, rfl, ?_⟩
      unfold Rp; rfl
    | i + 2, e =>
      have e : (List.replicate 18 (none : Option SV))[i]? = some s := e
      rw [List.getElem?_replicate] at e
      split at e
      · cases e
        exact ⟨σ[i + 2]'(by rw [R.len, hl]; exact lt), List.getElem?_eq_getElem _, True.intro⟩
      · cases e
  · match i, e with
    | 0, e => cases e
    | 1, e => cases e
    | i + 2, e =>
      have e : (List.replicate 18 (none : Option SV))[i]? = some (some (.own o)) := e
      rw [List.getElem?_replicate] at e
      split at e <;> cases e
section
variable {P : Program} {w : World} {K : PySem.W.Frag} {mg : Str → Option Value} {base : Heap} {B : RB}
theorem law_body {fa Tc a : Addr} {s : Shared} {H : Hp} {E : XK} {ns : List Int} (T : Top K mg B) (hK : B.K = K) (TB : LamX.TabB base mg Tc B.ta) (hq : B.tq = (envOfC "law" (defScope Kp.s_law) s.heap.objs.size fa (.ref Tc)).qual ++ "<lambda>")
    (hr : Room 20 (callerA.deeper (envOfC "law" (defScope Kp.s_law) s.heap.objs.size fa (.ref Tc)))) (hT : H B.ta = some (.tbl #[])) (hs : SqL K H a (ns.map V.int)) (hl : ns.length ≤ 63) (G_law_start : ZDef P w K mg base B "_law_start" 1 F_law_start) (G_law_n_net : ZDef P w K mg base B "_law_n_net" 3 F_law_n_net) (G_law_n_distances : ZDef P w K mg base B "_law_n_distances" 3 F_law_n_distances) (G_law_n_all_links : ZDef P w K mg base B "_law_n_all_links" 2 F_law_n_all_links) (G_law_loose : ZDef P w K mg base B "_law_loose" 6 (F_law_loose 4)) (G_law_n_lows : ZDef P w K mg base B "_law_n_lows" 3 F_law_n_lows) (G_law_is_let : ZDef P w K mg base B "_law_is_let" 3 F_law_is_let) (G_law_same : ZDef P w K mg base B "_law_same" 5 (F_law_same 4)) (G_periods : ZDef P w K mg base B "periods" 6 F_periods) (G_law_keeps : ZDef P w K mg base B "_law_keeps" 2 F_law_keeps) (G_law_turned_up : ZDef P w K mg base B "_law_turned_up" 1 F_law_turned_up) (G_law_bent : ZDef P w K mg base B "_law_bent" 3 F_law_bent) (G_is_own_plan : ZDef P w K mg base B "is_own_plan" 6 F_is_own_plan) (G_own_periods : ZDef P w K mg base B "own_periods" 6 F_own_periods) (G_own_plan : ZDef P w K mg base B "own_plan" 7 F_own_plan) (G_periodic_plan : ZDef P w K mg base B "periodic_plan" 6 F_periodic_plan) (G_Net : ZIni P w K mg base B "Net" 6 F_init) :
    ∃ t, PSs (cxOf CX0 P w K mg base ["_law_script", "_law_stream", "_law_turn", "_law_net", "_law_distances", "_law_told", "_law_links", "_law_given", "_law_lows", "_law_was", "_law_due", "_law_found", "_law_plan", "_law_some", "_law_pair", "_law_k", "_law_bent_here", "_law_kept", "_law_same_here", "_law_begin"] "law" (defScope Kp.s_law) fa (.ref Tc) callerA [] s H E) (defBody Kp.s_law) t ∧
      t { nx := fun _ H' => (V.non = V.bl true), rt := fun v _ => v = .bl true } (L2.start ["_law_script", "_law_stream", "_law_turn", "_law_net", "_law_distances", "_law_told", "_law_links", "_law_given", "_law_lows", "_law_was", "_law_due", "_law_found", "_law_plan", "_law_some", "_law_pair", "_law_k", "_law_bent_here", "_law_kept", "_law_same_here", "_law_begin"] [.ref a]) H := by
  obtain ⟨t2, d2, h2⟩ := law_rest (s := s) (H := H) (E := E) T hK TB hq hr G_law_n_net G_law_n_distances G_law_n_all_links G_law_loose G_law_n_lows G_law_is_let G_law_same G_periods G_law_keeps G_law_turned_up G_law_bent G_is_own_plan G_own_periods G_own_plan G_periodic_plan G_Net
  subst hK
  have sc := sc_law
  have rp : RpA B H [.scr ns] [.ref a] := RpA.one (by unfold Rp; exact ⟨a, rfl, hs⟩)
  refine ⟨_, PSs.nox (pss_cons (zs_set (i := 1) (z_call G_law_start (hr.mono (by decide)) (by rfl) (za_cons (zv 0) za_nil)) sc.nd) d2), ?_⟩
  refine ⟨rc1 a H, H, _, ⟨fun z => ∃ (g : List Int) (mix : Int), (∀ x ∈ g, 0 < x) ∧ 0 ≤ mix ∧ mix < 2147483648 ∧ z.e.length = 20 ∧ z.e[1]? = some (some (.own (.lst [.lst (g.map D.int), .int mix, .int 0, .int 0]))), fun _ _ => False, fun _ => False, fun _ => False⟩, start_rel rel1 rp, ?_, ?_⟩
  · refine ⟨ns, rfl, hl, fun g mix hg m0 m1 => ⟨g, mix, hg, m0, m1, rfl, rfl⟩⟩
  · refine ⟨fun z' ⟨g, mix, hg, m0, m1, hlen, he⟩ σ' H' D' S => ?_, fun _ _ q => q.elim, fun _ q => q.elim, fun _ q => q.elim⟩
    obtain ⟨p, q, R2⟩ := rel2 S.rel hlen he (S.same _ _ hT)
    refine ⟨rc2 p q B.ta B.tq, _, _, _, R2, h2 p _ ?_, ?_⟩
    · exact ⟨rfl, hg, Int.le_refl _, m0, m1, Int.le_refl _, Int.le_refl _⟩
    · refine ⟨fun z q => (by cases q), fun d z q v σ2 H2 D2 S2 r => ?_, fun _ q => q.elim, fun _ q => q.elim⟩
      obtain rfl : d = .dat (.bl true) := q
      exact Rp.bl_ (Y := B) (H := D2) r
end
end Kz

set_option Elab.async false
set_option linter.all false
set_option maxRecDepth 100000
set_option maxHeartbeats 4000000
set_option autoImplicit false
/-! The law's own call, with nothing of repr under way around it. -/
namespace Kz
open PySem PySem.Spec PyProof.Rows L2
/-- what is tracked at the law's call: its table, and its script unless the written part holds it -/
noncomputable def startH (K : PySem.W.Frag) (Tp a : Addr) (vs : List Value) (ns : List Int) : Hp := fun b =>
  if b = Tp then some (.tbl #[]) else if b = a ∧ K.lookup a = none then some (.frz { cls := .type "list", data := .seq vs.toArray } (.lst (ns.map V.int))) else none
section
variable {P : Program} {w : World} {K : PySem.W.Frag} {mg mb : Str → Option Value} {fa a Tc Tp : Addr} {s : Shared} {vs : List Value} {ns : List Int}
theorem startH_cases (b : Addr) : startH K Tp a vs ns b = none ∨ (b = Tp ∧ startH K Tp a vs ns b = some (.tbl #[])) ∨ (b = a ∧ b ≠ Tp ∧ K.lookup a = none ∧ startH K Tp a vs ns b = some (.frz { cls := .type "list", data := .seq vs.toArray } (.lst (ns.map V.int)))) := by
  unfold startH
  by_cases h1 : b = Tp
  · exact .inr (.inl ⟨h1, if_pos h1⟩)
  · rw [if_neg h1]
    by_cases h2 : b = a ∧ K.lookup a = none
    · rw [if_pos h2]; exact .inr (.inr ⟨h2.1, h1, h2.2, rfl⟩)
    · rw [if_neg h2]; exact .inl rfl
theorem law_run (KX : K.In s.heap) (hns : s.heap.Ns mainGlobals mg) (hb : s.heap.Ns builtinsNs mb) (hbb : ∀ x : Str, x ≠ "__name__" → mb x = bootBuiltins x) (lim : s.heap.NoLimit) (hg : s.gens = #[])
    (hT : s.heap.get? Tp = some { cls := .none, data := .fields #[] }) (nT : K.lookup Tp = none) (C : PySem.W.CodeHd s.heap Tc Tp)
    (hbm : ∃ (bm : Addr) (ob : Obj), mg "__builtins__" = some (.ref bm) ∧ bm ≠ builtinsNs ∧ s.heap.get? bm = some ob ∧ ob.cls = .type "module" ∧ ob.dict = some builtinsNs ∧ ob.data = .plain)
    (ha : s.heap.get? a = some { cls := .type "list", data := .seq vs.toArray }) (hi : IntsAre vs ns) (hl : ns.length ≤ sizeLine)
    (F : ∀ (base : Heap) (H : Hp), K.In base → base.Ns mainGlobals mg → LamX.TabB base mg Tc Tp → Env0 P w K mg base callerA [] s H → H Tp = some (.tbl #[]) → SqL K H a (ns.map V.int) →
      codeAny (model P w) callerA (.call (.ref fa) ⟨[.ref a], []⟩) (CR CX0 [] P w H s (fun v _ => v = .bl true) (fun _ _ _ => False)) s) :
    codeAny (model P w) callerA (.call (.ref fa) ⟨[.ref a], []⟩) (fun r s' => r = .ok (.ret (.bool true)) ∧ OldK s.heap s'.heap ∧ s'.os = s.os ∧ AllBare s'.gens) s := by
  have hne : a ≠ Tp := fun e => by
    rw [e, hT] at ha
    have z : Value.none = Value.type "list" := congrArg Obj.cls (Option.some.inj ha)
    cases z
  generalize hH : startH K Tp a vs ns = H
  have cs : ∀ b, H b = none ∨ (b = Tp ∧ H b = some (.tbl #[])) ∨ (b = a ∧ b ≠ Tp ∧ K.lookup a = none ∧ H b = some (.frz { cls := .type "list", data := .seq vs.toArray } (.lst (ns.map V.int)))) := fun b => hH ▸ startH_cases b
  have tp : H Tp = some (.tbl #[]) := by rw [← hH]; exact if_pos rfl
  -- an object of another kind is not tracked
  have free : ∀ b o, s.heap.get? b = some o → o ≠ { cls := .none, data := .fields #[] } → o ≠ { cls := .type "list", data := .seq vs.toArray } → H b = none := fun b o e n1 n2 => by
    rcases cs b with h | ⟨h, _⟩ | ⟨h, _, _, _⟩
    · exact h
    · rw [h, hT] at e; exact (n1 (Option.some.inj e).symm).elim
    · rw [h, ha] at e; exact (n2 (Option.some.inj e).symm).elim
  have up : ∀ b o, s.heap.get? b = some o → H b = none → (hidT s.heap H).get? b = some o := fun b o e n => hidT_get e n
  have upN : ∀ b m, s.heap.Ns b m → (hidT s.heap H).Ns b m := fun b m ⟨o, es, ep, e, d, r⟩ =>
    ⟨o, es, ep, up b o e (free b o e (fun q => by rw [q] at d; cases d) fun q => by rw [q] at d; cases d), d, r⟩
  have kin : K.In (hidT s.heap H) := fun b o e => up b o (KX b o e) (by
    rcases cs b with h | ⟨h, _⟩ | ⟨h, _, n, _⟩
    · exact h
    · rw [h, nT] at e; cases e
    · rw [h, n] at e; cases e)
  obtain ⟨mc, lim1, lim2⟩ := lim
  have tabB : LamX.TabB (hidT s.heap H) mg Tc Tp := by
    refine ⟨?_, ?_, fun z => ?_⟩
    · obtain ⟨o, us, f1, f2, f3, f4, f5, f6, f7, e, hcls, r⟩ := C
      exact ⟨o, us, f1, f2, f3, f4, f5, f6, f7, up _ o e (free _ o e (fun q => by rw [q] at hcls; cases hcls) fun q => by rw [q] at hcls; injection (show Value.type "list" = Value.type "code" from hcls) with h; exact absurd h (by decide)), hcls, r⟩
    · obtain ⟨bm, ob, b1, b2, b3, b4, b5, b6⟩ := hbm
      refine ⟨bm, ob, b1, b2, fun q => ?_, fun q => ?_, up _ ob b3 (free _ ob b3 (fun q => by rw [q] at b4; cases b4) fun q => by rw [q] at b4; injection (show Value.type "list" = Value.type "module" from b4) with h; exact absurd h (by decide)), b4, b5, b6⟩
      · obtain ⟨o, es, ep, e, d, _⟩ := hns
        rw [q, e] at b3
        cases b3
        rw [d] at b6; cases b6
      · rw [q, hT] at b3
        cases b3
        cases b4
    · obtain ⟨o, es, ep, e, d, _⟩ := hns
      rw [z, hT] at e
      cases e
      cases d
  have rv := vals_ints hi
  have hok : HOk P w H s.heap := fun b u e => by
    rcases cs b with h | ⟨h, h2⟩ | ⟨h, _, _, h2⟩
    · rw [h] at e; cases e
    · rw [h2] at e; cases e; rw [h]; exact hT
    · rw [h2] at e; cases e; rw [h]; exact ⟨ha, by rw [List.length_map]; exact hl, vs, _, rv, ha⟩
  have sq : SqL K H a (ns.map V.int) := by
    cases hk : K.lookup a with
    | none =>
      refine .inl (.inr ⟨{ cls := .type "list", data := .seq vs.toArray }, ?_⟩)
      rw [← hH]
      show (if a = Tp then _ else if a = a ∧ K.lookup a = none then _ else _) = _
      rw [if_neg hne, if_pos ⟨rfl, hk⟩]
    | some o =>
      have e := KX a o hk
      rw [ha] at e
      cases e
      exact .inr ⟨_, vs.toArray, _, hk, rfl, rfl, rfl, by rw [List.size_toArray, hi.length]; exact hl, by simpa using rv⟩
  have e0 : Env0 P w K mg (hidT s.heap H) callerA [] s H := ⟨rfl, ⟨kin, upN _ _ hns, ⟨mb, upN _ _ hb, hbb⟩, ⟨mc, upN _ _ lim1, lim2⟩⟩, fun b o e => of_hidT e, Nat.le_of_eq (hidT_size _ _), trivial, fun b m => absurd (show b ∈ ([] : List Addr) from m) (by simp), hok, .of_eq hg⟩
  refine codeAny_mono (F _ H kin (upN _ _ hns) tabB e0 tp sq) fun r s' q => ?_
  cases r with
  | error e => exact (show False from q).elim
  | ok fl =>
    cases fl with
    | next => exact (show False from q).elim
    | brk => exact (show False from q).elim
    | cont => exact (show False from q).elim
    | ret u =>
      obtain ⟨v, H', os, bare, un, hok', ru, rfl⟩ := q
      obtain rfl : u = Value.bool true := ru
      obtain ⟨more, hm⟩ := un.tbls Tp #[] tp
      have tab : s'.heap.get? Tp = some { cls := .none, data := .fields (#[] ++ more) } := hok' Tp _ hm
      have was : ∀ b o, s.heap.get? b = some o → b ≠ Tp → s'.heap.get? b = some o := fun b o e n => by
        rcases cs b with h | ⟨h, _⟩ | ⟨h, _, _, h2⟩
        · exact un.keep b o e h (fun z => nomatch z) (fun z => nomatch z)
        · exact (n h).elim
        · obtain ⟨g1, _⟩ := hok' b _ (un.frzs b _ _ h2)
          rw [h, ha] at e
          cases e
          exact g1
      refine ⟨rfl, ⟨fun b o e => ?_, fun b o e => ?_⟩, os, bare⟩
      · by_cases h : b = Tp
        · subst h
          rw [hT] at e
          cases e
          exact .inr (.inl ⟨(C.tab hT).isCodeTable, rfl, #[], more, rfl, tab⟩)
        · exact .inl (was b o e h)
      · by_cases h : b = Tp
        · subst h; exact ⟨_, tab⟩
        · exact ⟨o, was b o e h⟩
end
end Kz

set_option Elab.async false
set_option linter.all false
set_option maxRecDepth 100000
set_option maxHeartbeats 4000000
set_option autoImplicit false
/-! What the head has left, and the law's run. -/
namespace Kz
open PySem PySem.Spec PyProof.Rows L2
def chkG : List He.DefD → List He.Fa → Bool
  | [], _ => true
  | _ :: _, [] => false
  | d :: ds, f :: fs => (match d.at_.2, f with
    | none, .glo x => decide (x = d.at_.1)
    | none, _ => false
    | some _, _ => true) && chkG ds fs
theorem chkG_at : ∀ {ds : List He.DefD} {fs : List He.Fa}, chkG ds fs = true → ∀ (i : Nat) (d : He.DefD), ds[i]? = some d → d.at_.2 = none → fs[i]? = some (.glo d.at_.1)
  | [], _, _, i, d, h, _ => by simp at h
  | _ :: _, [], h, _, _, _, _ => by cases h
  | d0 :: ds, f :: fs, h, 0, d, e, n => by
    cases e
    have h := (Bool.and_eq_true_iff.mp h).1
    rw [n] at h
    cases f with
    | glo x => exact congrArg (fun y => some (He.Fa.glo y)) (of_decide_eq_true h)
    | _ => cases h
  | d0 :: ds, f :: fs, h, i + 1, d, e, n => chkG_at (Bool.and_eq_true_iff.mp h).2 i d e n
theorem chk_all : chkG Kp.fn Kp.fa = true := by decide +kernel
section
variable {w : World} {K : PySem.W.Frag} {h base : Heap} {mg : Str → Option Value} {P : Program} {B : RB}
theorem all_defs (X : K.In base) (G : base.Ns mainGlobals mg) (c : He.SaysX Kp.fa Kp.fn [] Kp.tf Kp.ex w h K) : AllDefs K mg := fun i d e n => by
  obtain ⟨fd, F⟩ := c.t.d.def_ i e
  have g := He.glo_ok X G (c.t.d.fact i (chkG_at chk_all i d e n))
  have ef : He.fAd K d.at_ = He.ga K d.at_.1 := by unfold He.fAd; rw [n]
  rw [ef] at F
  exact ⟨_, fd, F, g⟩
theorem top_of (X : K.In base) (G : base.Ns mainGlobals mg) (c : He.SaysX Kp.fa Kp.fn [] Kp.tf Kp.ex w h K) (hK : B.K = K) (hC : B.C = He.ga K "Net") : Top K mg B := by
  subst hK
  have m := Bool.and_eq_true_iff.mp c.more
  have fr : ∀ {i : Nat} {x : Str}, Kp.fa[i]? = some (.free x) → mg x = none := fun {i x} e => He.free_ok X G (c.t.d.fact i e)
  have no : ∀ {i : Nat} {x : Str}, Kp.fa[i]? = some (.noat "Net" x) → NoAttr B.K B.C x := fun {i x} e => hC ▸ He.noat_ok (c.t.d.fact i e)
  exact {
    isinstance := fr (i := 58) rfl
    list := fr (i := 59) rfl
    tuple := fr (i := 60) rfl
    int := fr (i := 61) rfl
    bool := fr (i := 62) rfl
    dict := fr (i := 63) rfl
    len := fr (i := 64) rfl
    all := fr (i := 65) rfl
    sum := fr (i := 66) rfl
    max := fr (i := 67) rfl
    abs := fr (i := 68) rfl
    sorted := fr (i := 69) rfl
    set := fr (i := 70) rfl
    repr := fr (i := 71) rfl
    range := fr (i := 72) rfl
    zip := fr (i := 73) rfl
    enumerate := fr (i := 74) rfl
    gcd := PySem.W.mg_of X G (He.eqO_ok m.1)
    cls := hC ▸ He.cls_ok (c.t.d.fact 75)
    many := no (i := 77) rfl
    own_arcs := no (i := 78) rfl
    order := no (i := 79) rfl
    links := no (i := 80) rfl
    kept := no (i := 81) rfl
    net := hC ▸ He.glo_ok X G (c.t.d.fact 57)
    ini := by
      obtain ⟨fd, F⟩ := c.t.d.def_ 57 (d := Kp.d_init)
      exact ⟨_, fd, F, hC ▸ He.mkr_ok (c.t.d.fact 76)⟩
    lawat := by
      have g : (He.Fa.glo "_law_at").ok B.K = true := c.t.d.fact 51
      have e : PySem.W.nsIn B.K mainGlobals "_law_at" = some (some (.ref (He.ga B.K "_law_at"))) := He.eqO_ok g
      have q := m.2
      rw [e] at q
      exact ⟨_, He.glo_ok X G g, of_decide_eq_true q⟩ }
theorem law_code {f a : Addr} {s : Shared} {H : Hp} {ns : List Int} (X : K.In base) (G : base.Ns mainGlobals mg) (c : He.SaysX Kp.fa Kp.fn [] Kp.tf Kp.ex w h K) (hf : mg ("law" : Str) = some (.ref f))
    (TB : LamX.TabB base mg (He.cT K ("law", none)).1 (He.cT K ("law", none)).2) (e0 : Env0 P w K mg base callerA [] s H) (hT : H (He.cT K ("law", none)).2 = some (.tbl #[])) (hs : SqL K H a (ns.map V.int)) (hl : ns.length ≤ 63) :
    codeAny (model P w) callerA (.call (.ref f) ⟨[.ref a], []⟩) (CR CX0 [] P w H s (fun v _ => v = .bl true) (fun _ _ _ => False)) s := by
  have A := all_defs X G c
  obtain ⟨f', fd, FD, hm⟩ := A 56 Kp.d_law rfl rfl
  have hm : mg ("law" : Str) = some (.ref f') := hm
  rw [hf] at hm
  have ef : f = f' := by injection hm with hm; injection hm
  subst ef
  have ga : f = He.fAd K ("law", none) := by
    have g := He.glo_ok X G (c.t.d.fact 56 (f := .glo "law"))
    rw [hf] at g
    injection g with g
    injection g with g
  obtain ⟨oc, od, dV, kV, doc, pm, an, cdv, ct, osl, rfl, lk, hcd, hD, _⟩ := FD.ex
  rcases hD with ⟨_, rfl⟩ | ⟨e, _⟩
  case inr => exact absurd rfl e
  obtain ⟨cc, rfl⟩ := He.codeIn_ref hcd
  have ec : (He.cT K ("law", none)).1 = cc := He.codeOf_eq (by rw [← ga]; exact lk) rfl
  generalize hTp : (He.cT K ("law", none)).2 = Tp at *
  rw [ec] at TB
  refine LamX.run_ofS (k := 20) (N := ["_law_script", "_law_stream", "_law_turn", "_law_net", "_law_distances", "_law_told", "_law_links", "_law_given", "_law_lows", "_law_was", "_law_due", "_law_found", "_law_plan", "_law_some", "_law_pair", "_law_k", "_law_bent_here", "_law_kept", "_law_same_here", "_law_begin"]) (ps := ["_law_script"]) (us := [.ref a]) (vs := [.ref a]) lk hcd sc_law ⟨rfl, by decide, by decide⟩ e0 ?_ (.cons rfl .nil) rfl fun hr => ?_
  · exact .of_eq rfl
  generalize hB : (⟨K, He.ga K "Net", Tp, (envOfC "law" (defScope Kp.s_law) s.heap.objs.size f (.ref cc)).qual ++ "<lambda>"⟩ : RB) = B
  have hK : B.K = K := by rw [← hB]
  have T : Top K mg B := top_of X G c hK (by rw [← hB])
  have G_law_start := ok_law_start (P := P) (w := w) (base := base) T hK A
  have G_law_draw := ok_law_draw (P := P) (w := w) (base := base) T hK A
  have G_law_mixed := ok_law_mixed (P := P) (w := w) (base := base) T hK A G_law_draw
  have G_law_pick := ok_law_pick (P := P) (w := w) (base := base) T hK A G_law_draw
  have G_law_n_net := ok_law_n_net (P := P) (w := w) (base := base) T hK A G_law_draw G_law_mixed G_law_pick
  have G_law_n_distances := ok_law_n_distances (P := P) (w := w) (base := base) T hK A G_law_draw G_law_pick
  have G_law_n_links := ok_law_n_links (P := P) (w := w) (base := base) T hK A
  have G_law_n_all_links := ok_law_n_all_links (P := P) (w := w) (base := base) T hK A G_law_n_links
  have G_law_loose := ok_law_loose (P := P) (w := w) (base := base) T hK A G_law_draw 4
  have G_law_n_rings := ok_law_n_rings (P := P) (w := w) (base := base) T hK A
  have G_law_n_sums := ok_law_n_sums (P := P) (w := w) (base := base) T hK A
  have G_law_n_led := ok_law_n_led (P := P) (w := w) (base := base) T hK A
  have G_law_is_less := ok_law_is_less (P := P) (w := w) (base := base) T hK A
  have G_law_turned_up := ok_law_turned_up (P := P) (w := w) (base := base) T hK A
  have G_law_n_asks := ok_law_n_asks (P := P) (w := w) (base := base) T hK A G_law_n_sums G_law_turned_up
  have G_law_n_lows := ok_law_n_lows (P := P) (w := w) (base := base) T hK A G_law_n_rings G_law_n_sums G_law_n_led G_law_is_less G_law_n_asks
  have G_law_is_let := ok_law_is_let (P := P) (w := w) (base := base) T hK A G_law_n_rings G_law_n_sums G_law_is_less G_law_n_asks
  have G_law_same := ok_law_same (P := P) (w := w) (base := base) T hK A 4
  have G_sums_of := ok_sums_of (P := P) (w := w) (base := base) T hK A
  have G_is_below := ok_is_below (P := P) (w := w) (base := base) T hK A
  have G_lowest := ok_lowest (P := P) (w := w) (base := base) T hK A
  have G_asked := ok_asked (P := P) (w := w) (base := base) T hK A G_sums_of G_lowest
  have G_bounds_of := ok_bounds_of (P := P) (w := w) (base := base) T hK A G_sums_of G_is_below G_asked
  have G_longer_ways := ok_longer_ways (P := P) (w := w) (base := base) T hK A
  have G_rings_of := ok_rings_of (P := P) (w := w) (base := base) T hK A G_longer_ways
  have G_is_list := ok_is_list (P := P) (w := w) (base := base) T hK A
  have G_is_whole := ok_is_whole (P := P) (w := w) (base := base) T hK A
  have G_is_number := ok_is_number (P := P) (w := w) (base := base) T hK A G_is_whole
  have G_are_numbers := ok_are_numbers (P := P) (w := w) (base := base) T hK A G_is_number G_is_list
  have G_is_arc := ok_is_arc (P := P) (w := w) (base := base) T hK A G_are_numbers
  have G_links_with := ok_links_with (P := P) (w := w) (base := base) T hK A G_is_list G_is_arc
  have G_is_empty := ok_is_empty (P := P) (w := w) (base := base) T hK A G_is_below G_asked
  have G_periods := ok_periods (P := P) (w := w) (base := base) T hK A G_bounds_of G_rings_of G_links_with G_is_empty G_asked
  have G_law_is_fraction := ok_law_is_fraction (P := P) (w := w) (base := base) T hK A
  have G_law_is_behind := ok_law_is_behind (P := P) (w := w) (base := base) T hK A
  have G_law_at := ok_law_at (P := P) (w := w) (base := base) T hK A
  have G_law_keeps := ok_law_keeps (P := P) (w := w) (base := base) T hK A G_law_is_fraction G_law_is_less G_law_is_behind G_law_at
  have G_law_bent := ok_law_bent (P := P) (w := w) (base := base) T hK A G_law_draw G_law_pick
  have G_is_positive := ok_is_positive (P := P) (w := w) (base := base) T hK A G_is_whole
  have G_is_fraction := ok_is_fraction (P := P) (w := w) (base := base) T hK A G_is_positive G_is_whole G_is_list
  have G_is_pair := ok_is_pair (P := P) (w := w) (base := base) T hK A G_is_list G_is_fraction
  have G_plus := ok_plus (P := P) (w := w) (base := base) T hK A G_lowest
  have G_start_in := ok_start_in (P := P) (w := w) (base := base) T hK A G_plus
  have G_is_own_plan := ok_is_own_plan (P := P) (w := w) (base := base) T hK A G_links_with G_is_pair G_is_list G_plus G_start_in G_is_below
  have G_led_to := ok_led_to (P := P) (w := w) (base := base) T hK A
  have G_lower_rings := ok_lower_rings (P := P) (w := w) (base := base) T hK A G_rings_of G_sums_of G_led_to G_is_below G_asked
  have G_way_between := ok_way_between (P := P) (w := w) (base := base) T hK A
  have G_clash_of := ok_clash_of (P := P) (w := w) (base := base) T hK A G_rings_of G_sums_of G_is_below G_asked G_way_between
  have G_own_periods := ok_own_periods (P := P) (w := w) (base := base) T hK A G_links_with G_lower_rings G_clash_of G_asked
  have G_multiple_of := ok_multiple_of (P := P) (w := w) (base := base) T hK A
  have G_potentials := ok_potentials (P := P) (w := w) (base := base) T hK A
  have G_own_plan := ok_own_plan (P := P) (w := w) (base := base) T hK A G_own_periods G_links_with G_multiple_of G_potentials G_lowest
  have G_checked_rate := ok_checked_rate (P := P) (w := w) (base := base) T hK A G_is_fraction G_lowest
  have G_periodic_plan := ok_periodic_plan (P := P) (w := w) (base := base) T hK A G_checked_rate G_links_with G_potentials G_lowest
  have G_checked_arcs := ok_checked_arcs (P := P) (w := w) (base := base) T hK A G_is_list G_is_arc
  have G_order_of := ok_order_of (P := P) (w := w) (base := base) T hK A
  have G_Net := ok_init (P := P) (w := w) (base := base) T hK G_is_positive G_checked_arcs G_order_of
  exact law_body T hK (by rw [← hB]; exact TB) (by rw [← hB]) hr (by rw [← hB]; exact hT) hs hl G_law_start G_law_n_net G_law_n_distances G_law_n_all_links G_law_loose G_law_n_lows G_law_is_let G_law_same G_periods G_law_keeps G_law_turned_up G_law_bent G_is_own_plan G_own_periods G_own_plan G_periodic_plan G_Net
end
end Kz

set_option Elab.async false
set_option linter.all false
set_option maxRecDepth 100000
set_option maxHeartbeats 0
open PySem PySem.W PySem.Calls PyProof.Rows
set_option maxRecDepth 100000 in
set_option maxHeartbeats 0 in
theorem PySem.Challenge.cw_anyload_k85_whole_plans_at_their_own_holds : PySem.Challenge.rw_anyload_k85_whole_plans_at_their_own.Holds := by
  w_on; o_law
  refine HandSHeadRun.head_imp (r := OpenLaw.row PySem.Challenge.rw_anyload_k85_whole_plans_at_their_own) (q := Kp.qv) (H := Kp.hk) (ob := Kp.ob) (M := 9000) (loose := Kp.loose) (d := HandSHeadRun.topDef (OpenLaw.row PySem.Challenge.rw_anyload_k85_whole_plans_at_their_own).prog 73) (kwd := []) Kp.ob_eq
    Kp.run (by kernel_rfl) (by kernel_rfl) (by kernel_rfl) (by rfl) (by first | assumption | decide +kernel) (by decide +kernel) ⟨rfl, rfl, rfl, rfl, rfl, by decide +kernel⟩ ?hw ?hc
  case hw => w_witness2
  case hc =>
    refine Att.attach_callB (l := PySem.Challenge.rw_anyload_k85_whole_plans_at_their_own) (n := 63) rfl (by kernel_rfl) fun w s₀ s₁ mg mb fa o pm cd doc a vs ns G Y ho hd hcd hmg0 hobj hints hlen hbits hg => ?_
    obtain ⟨K, KX, c⟩ := Y
    have hmg : mg ("law" : PySem.Str) = some (.ref fa) := by
      have e : (HandSHeadRun.topDef (OpenLaw.row PySem.Challenge.rw_anyload_k85_whole_plans_at_their_own).prog 73).name = ("law" : PySem.Str) := by kernel_rfl
      rw [← e]
      exact hmg0
    have tf : ((("law" : PySem.Str), (none : Option PySem.Str)) : He.Defn) ∈ Kp.tf := List.mem_cons_self ..
    exact Kz.law_run (Tc := (He.cT K ("law", none)).1) (Tp := (He.cT K ("law", none)).2) KX G.T.g G.T.b G.T.builtins G.T.nolimit hg (c.empty _ tf) (c.out _ tf) (PySem.W.codeHd_of_K KX (c.hd _ tf)) G.T.bmain hobj hints (Nat.le_trans hlen (by decide))
      fun base H kin bns tb e0 tp sq => Kz.law_code kin bns c hmg tb e0 tp sq hlen

